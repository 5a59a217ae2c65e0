import PyProof.Rows.All
import Wide.All
import OpenK.AllK
import Wide.FinOn
import HandS.TupLe
import HandS.ForMost
import HandS.ForExc
import HandS.TryMany
import HandS.Flow
import HandS.Style
import HandS.Wide
import HandS.IsInst
import HandS.SetKeys
import HandS.TupSets
import HandS.Zip
import HandS.TupAny
import HandS.TupMul
import KE.SortData
import KE.KDictKeyed
import KE.DatumIndex
import KE.DataEq
import KE.DataFind
import HandS.Strs
import HandS.Text
import HandS.Conv
import HandS.Defaults
import HandS.Comp
import HandS.Iter
import HandS.ExcOwn
import HandS.WordsExc
import KE.GoesEnum
import KE.GoesMore
import HandS.TryOnly
import HandS.SetFor
import HandS.DictComp
import HandS.HeadEnd
import HandS.HeadHook1
import HandS.HeadHook2
import HandS.Head0
import HandS.Head1
import HandS.Head2
import KE.KStateDown
import PyProof.StrLawsRepr
import PyProof.Rows.StrDigits
import PySem.Challenge.RW_wirewebs_k48_whole_least_weights
set_option Elab.async false
set_option linter.all false
set_option maxRecDepth 100000
namespace Pw
open PySem PySem.Spec PyProof.Rows L2

/-! ## data, the store, how they stand in a heap -/
/-- a value as data: what never changes any more is a tree; what may still change is a place of the store -/
inductive D where
  | non | bl (b : Bool) | int (i : Int) | str (x : Str)
  | tup (xs : List D) | lst (xs : List D) | dct (ks vs : List D)
  | ref (l : Nat)
  deriving Inhabited
/-- an object that may change -/
inductive MO where
  | lst (xs : List D) | dct (ks vs : List D)
  deriving Inhabited
abbrev Sto := List MO
abbrev Ev := List (Option D)
/-- an exception: its class by name, its fields -/
structure Xc where
  cls : Str
  fs : List (Str × D)

/-- where the store's objects stand (m); objects of the machine that no datum may be (r) -/
structure Pl where
  m : List Addr
  r : List Addr
def kD : Key → D
  | .inl i => .int i
  | .inr x => .str x

/-- a tuple whose object is known: no dict of its own -/
def TupAt (K : PySem.W.Frag) (H : Hp) (a : Addr) (vs : List V) : Prop :=
  (∃ o, H a = some (.frz o (.tup vs)) ∧ o.dict = none) ∨
    ∃ (o : Obj) (its : Array Value) (n : Nat), K.lookup a = some o ∧ o.cls = .type "tuple" ∧ o.dict = none ∧ o.data = .seq its n ∧ its.size ≤ sizeLine ∧ Vals vs its.toList
theorem TupAt.sq {K : PySem.W.Frag} {H : Hp} {a : Addr} {vs : List V} (h : TupAt K H a vs) : SqT K H a vs := by
  rcases h with ⟨o, h, _⟩ | ⟨o, its, n, h1, h2, _, h3, h4, h5⟩
  · exact .inl (.inr ⟨o, h⟩)
  · exact .inr ⟨o, its, n, h1, h2, h3, h4, h5⟩
/-- a list that stays as it is: pinned, or written -/
def LstF (K : PySem.W.Frag) (H : Hp) (a : Addr) (vs : List V) : Prop :=
  (∃ o, H a = some (.frz o (.lst vs))) ∨
    ∃ (o : Obj) (its : Array Value) (n : Nat), K.lookup a = some o ∧ o.cls = .type "list" ∧ o.dict = none ∧ o.data = .seq its n ∧ its.size ≤ sizeLine ∧ Vals vs its.toList
theorem LstF.sq {K : PySem.W.Frag} {H : Hp} {a : Addr} {vs : List V} (h : LstF K H a vs) : SqL K H a vs := by
  rcases h with h | h
  · exact .inl (.inr h)
  · exact .inr h
mutual
inductive RelD (K : PySem.W.Frag) (H : Hp) (M : Pl) : D → V → Prop
  | non : RelD K H M .non .non
  | bl (b : Bool) : RelD K H M (.bl b) (.bl b)
  | int (i : Int) : RelD K H M (.int i) (.int i)
  | str (x : Str) : RelD K H M (.str x) (.str x)
  | tup {a : Addr} {vs : List V} {ds : List D} : TupAt K H a vs → RelDs K H M ds vs → RelD K H M (.tup ds) (.ref a)
  | lst {a : Addr} {vs : List V} {ds : List D} : Rd H a (.lst vs) → a ∉ M.m → a ∉ M.r → RelDs K H M ds vs → RelD K H M (.lst ds) (.ref a)
  | lstF {a : Addr} {vs : List V} {ds : List D} : LstF K H a vs → RelDs K H M ds vs → RelD K H M (.lst ds) (.ref a)
  | dctK {a : Addr} {kvs : List (Key × V)} {ks ds : List D} : H a = some (.dK kvs) → a ∉ M.m → a ∉ M.r → ks = (kvs.map (·.1)).map kD → RelDs K H M ds (kvs.map (·.2)) → RelD K H M (.dct ks ds) (.ref a)
  | ref {l : Nat} {a : Addr} : M.m[l]? = some a → RelD K H M (.ref l) (.ref a)
inductive RelDs (K : PySem.W.Frag) (H : Hp) (M : Pl) : List D → List V → Prop
  | nil : RelDs K H M [] []
  | cons {d : D} {v : V} {ds : List D} {vs : List V} : RelD K H M d v → RelDs K H M ds vs → RelDs K H M (d :: ds) (v :: vs)
end

/-- what stood stands: the store has grown, all else that was tracked is as it was -/
structure Ext (H : Hp) (M : Pl) (H' : Hp) (M' : Pl) : Prop where
  pre : ∃ T, M'.m = M.m ++ T
  res : M'.r = M.r
  keep : ∀ a o, a ∉ M.m → H a = some o → H' a = some o ∧ a ∉ M'.m
  tups : ∀ a xs, H a = some (.tup xs) → H' a = some (.tup xs)
  frzs : ∀ a o u, H a = some (.frz o u) → H' a = some (.frz o u)
theorem Ext.refl (H : Hp) (M : Pl) : Ext H M H M := ⟨⟨[], by simp⟩, rfl, fun _ _ n h => ⟨h, n⟩, fun _ _ h => h, fun _ _ _ h => h⟩
theorem Ext.trans {H H1 H2 : Hp} {M M1 M2 : Pl} (a : Ext H M H1 M1) (b : Ext H1 M1 H2 M2) : Ext H M H2 M2 := by
  obtain ⟨T, e⟩ := a.pre
  obtain ⟨T', e'⟩ := b.pre
  refine ⟨⟨T ++ T', by rw [e', e, List.append_assoc]⟩, b.res.trans a.res, fun x o n h => ?_, fun x xs h => b.tups _ _ (a.tups _ _ h), fun x o u h => b.frzs _ _ _ (a.frzs _ _ _ h)⟩
  obtain ⟨h1, n1⟩ := a.keep x o n h
  exact b.keep x o n1 h1
theorem Ext.get {H H' : Hp} {M M' : Pl} (a : Ext H M H' M') {l : Nat} {x : Addr} (h : M.m[l]? = some x) : M'.m[l]? = some x := by
  obtain ⟨T, e⟩ := a.pre
  have : l < M.m.length := by
    rcases Nat.lt_or_ge l M.m.length with z | z
    · exact z
    · rw [List.getElem?_eq_none z] at h; cases h
  rw [e]; rw [List.getElem?_append_left this]; exact h

section
variable {K : PySem.W.Frag} {H H' : Hp} {M M' : Pl}
theorem Ext.sqT (a : Ext H M H' M') {x : Addr} {vs : List V} (h : TupAt K H x vs) : TupAt K H' x vs := by
  rcases h with ⟨o, h, q⟩ | h
  · exact .inl ⟨o, a.frzs _ _ _ h, q⟩
  · exact .inr h
theorem Ext.sqT' (a : Ext H M H' M') {x : Addr} {vs : List V} (h : SqT K H x vs) : SqT K H' x vs := by
  rcases h with (h | ⟨o, h⟩) | h
  · exact .inl (.inl (a.tups _ _ h))
  · exact .inl (.inr ⟨o, a.frzs _ _ _ h⟩)
  · exact .inr h
theorem Ext.lstF (a : Ext H M H' M') {x : Addr} {vs : List V} (h : LstF K H x vs) : LstF K H' x vs := by
  rcases h with ⟨o, h⟩ | h
  · exact .inl ⟨o, a.frzs _ _ _ h⟩
  · exact .inr h
theorem Ext.rdL (a : Ext H M H' M') {x : Addr} {vs : List V} (h : Rd H x (.lst vs)) (n : x ∉ M.m) : Rd H' x (.lst vs) ∧ x ∉ M'.m := by
  rcases h with h | ⟨o, h⟩
  · obtain ⟨h1, n1⟩ := a.keep _ _ n h; exact ⟨.inl h1, n1⟩
  · obtain ⟨h1, n1⟩ := a.keep _ _ n h; exact ⟨.inr ⟨o, h1⟩, n1⟩
mutual
theorem RelD.mono (x : Ext H M H' M') : ∀ {d : D} {v : V}, RelD K H M d v → RelD K H' M' d v
  | _, _, .non => .non
  | _, _, .bl b => .bl b
  | _, _, .int i => .int i
  | _, _, .str z => .str z
  | _, _, .tup h r => .tup (x.sqT h) (RelDs.mono x r)
  | _, _, .lst h n q r => let z := x.rdL h n; .lst z.1 z.2 (by rw [x.res]; exact q) (RelDs.mono x r)
  | _, _, .lstF h r => .lstF (x.lstF h) (RelDs.mono x r)
  | _, _, .dctK h n q e r => let z := x.keep _ _ n h; .dctK z.1 z.2 (by rw [x.res]; exact q) e (RelDs.mono x r)
  | _, _, .ref h => .ref (x.get h)
theorem RelDs.mono (x : Ext H M H' M') : ∀ {ds : List D} {vs : List V}, RelDs K H M ds vs → RelDs K H' M' ds vs
  | _, _, .nil => .nil
  | _, _, .cons h r => .cons (RelD.mono x h) (RelDs.mono x r)
end
theorem RelDs.length : ∀ {ds : List D} {vs : List V}, RelDs K H M ds vs → ds.length = vs.length
  | _, _, .nil => rfl
  | _, _, .cons _ r => by simp [RelDs.length r]
theorem RelDs.get : ∀ {ds : List D} {vs : List V} {i : Nat} {d : D}, RelDs K H M ds vs → ds[i]? = some d → ∃ v, vs[i]? = some v ∧ RelD K H M d v
  | _, _, _, _, .nil, e => by simp at e
  | _, _, 0, _, .cons r _, e => by simp at e; subst e; exact ⟨_, rfl, r⟩
  | _, _, i + 1, d, .cons _ t, e => by
    obtain ⟨v, h1, h2⟩ := RelDs.get (i := i) (d := d) t (by simpa using e)
    exact ⟨v, by simpa using h1, h2⟩
theorem RelDs.getV : ∀ {ds : List D} {vs : List V} {i : Nat} {v : V}, RelDs K H M ds vs → vs[i]? = some v → ∃ d, ds[i]? = some d ∧ RelD K H M d v
  | _, _, _, _, .nil, e => by simp at e
  | _, _, 0, _, .cons r _, e => by simp at e; subst e; exact ⟨_, rfl, r⟩
  | _, _, i + 1, d, .cons _ t, e => by
    obtain ⟨v, h1, h2⟩ := RelDs.getV (i := i) (v := d) t (by simpa using e)
    exact ⟨v, by simpa using h1, h2⟩
theorem RelDs.append : ∀ {ds es : List D} {vs us : List V}, RelDs K H M ds vs → RelDs K H M es us → RelDs K H M (ds ++ es) (vs ++ us)
  | _, _, _, _, .nil, s => s
  | _, _, _, _, .cons r t, s => .cons r (RelDs.append t s)
theorem RelDs.set {d : D} {v : V} (r : RelD K H M d v) : ∀ {ds : List D} {vs : List V} (i : Nat), RelDs K H M ds vs → RelDs K H M (ds.set i d) (vs.set i v)
  | _, _, _, .nil => .nil
  | _, _, 0, .cons _ t => .cons r t
  | _, _, i + 1, .cons q t => .cons q (RelDs.set r i t)
theorem RelDs.take : ∀ {ds : List D} {vs : List V} (n : Nat), RelDs K H M ds vs → RelDs K H M (ds.take n) (vs.take n)
  | _, _, 0, _ => .nil
  | _, _, _ + 1, .nil => .nil
  | _, _, n + 1, .cons r t => .cons r (RelDs.take n t)
theorem RelDs.drop : ∀ {ds : List D} {vs : List V} (n : Nat), RelDs K H M ds vs → RelDs K H M (ds.drop n) (vs.drop n)
  | _, _, 0, r => r
  | _, _, _ + 1, .nil => .nil
  | _, _, n + 1, .cons _ t => RelDs.drop n t
theorem RelDs.eraseIdx : ∀ {ds : List D} {vs : List V} (i : Nat), RelDs K H M ds vs → RelDs K H M (ds.eraseIdx i) (vs.eraseIdx i)
  | _, _, _, .nil => .nil
  | _, _, 0, .cons _ t => t
  | _, _, i + 1, .cons r t => .cons r (RelDs.eraseIdx i t)
theorem RelDs.reverse {ds : List D} {vs : List V} (h : RelDs K H M ds vs) : RelDs K H M ds.reverse vs.reverse := by
  induction h using RelDs.rec (motive_1 := fun _ _ _ => True) with
  | nil => exact .nil
  | cons r _ _ ih => rw [List.reverse_cons, List.reverse_cons]; exact ih.append (.cons r .nil)
  | _ => trivial
end

/-! ### the store -/
def RelM (K : PySem.W.Frag) (H : Hp) (M : Pl) : MO → HO → Prop
  | .lst xs, o => ∃ vs, o = .lst vs ∧ RelDs K H M xs vs
  | .dct ks ds, o => ∃ kvs : List (Key × V), o = .dK kvs ∧ ks = (kvs.map (·.1)).map kD ∧ RelDs K H M ds (kvs.map (·.2))
structure RelS (K : PySem.W.Frag) (H : Hp) (M : Pl) (S : Sto) : Prop where
  len : M.m.length = S.length
  nd : M.m.Nodup
  apart : ∀ a ∈ M.r, a ∉ M.m ∧ ∃ o, H a = some o
  at_ : ∀ (l : Nat) (a : Addr) (m : MO), M.m[l]? = some a → S[l]? = some m → ∃ o, H a = some o ∧ RelM K H M m o
section
variable {K : PySem.W.Frag} {H H' : Hp} {M M' : Pl} {S : Sto}
theorem RelM.mono (x : Ext H M H' M') : ∀ {m : MO} {o : HO}, RelM K H M m o → RelM K H' M' m o
  | .lst xs, o, ⟨vs, e, r⟩ => ⟨vs, e, r.mono x⟩
  | .dct ks ds, o, ⟨kvs, e, e2, r⟩ => ⟨kvs, e, e2, r.mono x⟩
theorem RelM.kind {m : MO} {o : HO} (h : RelM K H M m o) : (∃ vs, o = .lst vs) ∨ (∃ kvs, o = .dK kvs) := by
  cases m with
  | lst xs => obtain ⟨vs, e, _⟩ := h; exact .inl ⟨vs, e⟩
  | dct ks ds =>
    obtain ⟨kvs, e, _⟩ := h
    exact .inr ⟨kvs, e⟩
theorem RelM.mut {m : MO} {o : HO} (h : RelM K H M m o) : Mut (some o) := by
  rcases h.kind with ⟨_, rfl⟩ | ⟨_, rfl⟩ <;> trivial
theorem RelS.tracked (r : RelS K H M S) {a : Addr} (h : a ∈ M.m) : ∃ o, H a = some o ∧ ((∃ vs, o = .lst vs) ∨ (∃ kvs, o = .dK kvs)) := by
  obtain ⟨l, hl, e⟩ := List.getElem_of_mem h
  have h1 : M.m[l]? = some a := by rw [List.getElem?_eq_getElem hl, e]
  have h2 : l < S.length := by rw [← r.len]; exact hl
  obtain ⟨o, ho, q⟩ := r.at_ l a S[l] h1 (List.getElem?_eq_getElem h2)
  exact ⟨o, ho, q.kind⟩
theorem RelS.lt (r : RelS K H M S) {l : Nat} {a : Addr} (h : M.m[l]? = some a) : ∃ m, S[l]? = some m := by
  have : l < M.m.length := by
    rcases Nat.lt_or_ge l M.m.length with z | z
    · exact z
    · rw [List.getElem?_eq_none z] at h; cases h
  exact ⟨S[l]'(by rw [← r.len]; exact this), List.getElem?_eq_getElem _⟩
/-- a new thing, not in the store -/
theorem Ext.new {p : Addr} {o : HO} (h : H p = none) : Ext H M (upd H p o) M :=
  ⟨⟨[], by simp⟩, rfl, fun a u n e => ⟨by rw [upd_ne (ne_of_none e h)]; exact e, n⟩, fun a xs e => by rw [upd_ne (ne_of_none e h)]; exact e, fun a x u e => by rw [upd_ne (ne_of_none e h)]; exact e⟩
/-- .. put into the store -/
theorem Ext.newB {p : Addr} {o : HO} (h : H p = none) : Ext H M (upd H p o) ⟨M.m ++ [p], M.r⟩ :=
  ⟨⟨[p], rfl⟩, rfl, fun a u n e => ⟨by rw [upd_ne (ne_of_none e h)]; exact e, by
    simp only [List.mem_append, List.mem_singleton, not_or]; exact ⟨n, ne_of_none e h⟩⟩, fun a xs e => by rw [upd_ne (ne_of_none e h)]; exact e, fun a x u e => by rw [upd_ne (ne_of_none e h)]; exact e⟩
theorem RelS.mono (r : RelS K H M S) (x : Ext H M H' M) (k : ∀ a o, a ∈ M.m → H a = some o → H' a = some o) : RelS K H' M S :=
  ⟨r.len, r.nd, fun a h => let ⟨n, o, e⟩ := r.apart a h; ⟨n, o, (x.keep a o n e).1⟩, fun l a m h1 h2 => by
    obtain ⟨o, ho, q⟩ := r.at_ l a m h1 h2
    exact ⟨o, k a o (List.mem_of_getElem? h1) ho, q.mono x⟩⟩
theorem RelS.new {p : Addr} {o : HO} (r : RelS K H M S) (h : H p = none) : RelS K (upd H p o) M S :=
  r.mono (Ext.new h) fun a u _ e => by rw [upd_ne (ne_of_none e h)]; exact e
theorem RelS.newB {p : Addr} {o : HO} {m : MO} (r : RelS K H M S) (h : H p = none) (q : RelM K H M m o) : RelS K (upd H p o) ⟨M.m ++ [p], M.r⟩ (S ++ [m]) := by
  have x : Ext H M (upd H p o) ⟨M.m ++ [p], M.r⟩ := Ext.newB h
  have np : p ∉ M.m := fun z => by obtain ⟨u, e, _⟩ := r.tracked z; rw [h] at e; cases e
  refine ⟨by simp [r.len], ?_, fun a ha => ?_, fun l a m' h1 h2 => ?_⟩
  · rw [List.nodup_append]
    exact ⟨r.nd, by simp, fun a ha b hb => by simp at hb; subst hb; exact fun e => np (e ▸ ha)⟩
  · obtain ⟨n, u, e⟩ := r.apart a ha
    exact ⟨(x.keep a u n e).2, u, (x.keep a u n e).1⟩
  · rcases Nat.lt_trichotomy l M.m.length with hl | hl | hl
    · rw [List.getElem?_append_left hl] at h1
      rw [List.getElem?_append_left (by rw [← r.len]; exact hl)] at h2
      obtain ⟨u, hu, z⟩ := r.at_ l a m' h1 h2
      exact ⟨u, by rw [upd_ne (ne_of_none hu h)]; exact hu, z.mono x⟩
    · subst hl
      rw [List.getElem?_append_right (Nat.le_refl _)] at h1
      rw [List.getElem?_append_right (by rw [r.len]; exact Nat.le_refl _), r.len] at h2
      simp at h1 h2
      subst h1 h2
      exact ⟨o, upd_same, q.mono x⟩
    · rw [List.getElem?_eq_none (by simp; omega)] at h1; cases h1
/-- an object of the store changes -/
theorem Ext.write {l : Nat} {a : Addr} {o : HO} (r : RelS K H M S) (h : M.m[l]? = some a) : Ext H M (upd H a o) M := by
  have ha : a ∈ M.m := List.mem_of_getElem? h
  obtain ⟨u, hu, k⟩ := r.tracked ha
  refine ⟨⟨[], by simp⟩, rfl, fun b v n e => ⟨by rw [upd_ne (show b ≠ a from fun z => n (by rw [z]; exact ha))]; exact e, n⟩, fun b xs e => ?_, fun b x v e => ?_⟩
  · rw [upd_ne (show b ≠ a from fun z => by subst z; rw [hu] at e; cases e; rcases k with ⟨_, z⟩ | ⟨_, z⟩ <;> cases z)]; exact e
  · rw [upd_ne (show b ≠ a from fun z => by subst z; rw [hu] at e; cases e; rcases k with ⟨_, z⟩ | ⟨_, z⟩ <;> cases z)]; exact e
theorem RelS.write {l : Nat} {a : Addr} {o : HO} {m : MO} (r : RelS K H M S) (h : M.m[l]? = some a) (q : RelM K H M m o) : RelS K (upd H a o) M (S.set l m) := by
  have x : Ext H M (upd H a o) M := Ext.write r h
  refine ⟨by simp [r.len], r.nd, fun a ha => let ⟨n, u, e⟩ := r.apart a ha; ⟨n, u, (x.keep a u n e).1⟩, fun j b m' h1 h2 => ?_⟩
  by_cases hj : j = l
  · subst hj
    rw [h] at h1; cases h1
    obtain ⟨m0, hm0⟩ := r.lt h
    have hlt : j < S.length := by
      rcases Nat.lt_or_ge j S.length with z | z
      · exact z
      · rw [List.getElem?_eq_none z] at hm0; cases hm0
    rw [List.getElem?_set_self hlt] at h2
    cases h2
    exact ⟨o, upd_same, q.mono x⟩
  · rw [List.getElem?_set_ne (Ne.symm hj)] at h2
    obtain ⟨u, hu, z⟩ := r.at_ j b m' h1 h2
    refine ⟨u, ?_, z.mono x⟩
    rw [upd_ne]
    · exact hu
    · intro e
      subst e
      have l1 : j < M.m.length := by
        rcases Nat.lt_or_ge j M.m.length with z | z
        · exact z
        · rw [List.getElem?_eq_none z] at h1; cases h1
      exact hj ((List.getElem?_inj l1 r.nd).mp (h1.trans h.symm))
end
end Pw

set_option Elab.async false
set_option linter.all false
set_option maxRecDepth 100000
namespace Pw
open PySem PySem.Spec PyProof.Rows L2

/-! ## results -/
inductive R (α : Type) where
  | ok (a : α) (S : Sto) | exc (x : Xc) (S : Sto) | bad
def R.bind {α β : Type} : R α → (α → Sto → R β) → R β
  | .ok a S, f => f a S
  | .exc x S, _ => .exc x S
  | .bad, _ => .bad
@[simp] theorem R.bind_ok {α β : Type} (a : α) (S : Sto) (f : α → Sto → R β) : (R.ok a S).bind f = f a S := (rfl)
@[simp] theorem R.bind_exc {α β : Type} (x : Xc) (S : Sto) (f : α → Sto → R β) : (R.exc x S).bind f = .exc x S := (rfl)
@[simp] theorem R.bind_bad {α β : Type} (f : α → Sto → R β) : (R.bad : R α).bind f = .bad := (rfl)
def R.opt {α : Type} (S : Sto) : Option α → R α
  | some a => .ok a S
  | none => .bad
@[simp] theorem R.opt_some {α : Type} (S : Sto) (a : α) : R.opt S (some a) = .ok a S := (rfl)
@[simp] theorem R.opt_none {α : Type} (S : Sto) : R.opt S (none : Option α) = .bad := (rfl)

/-! ## data operations -/
mutual
def D.toPy : D → Option PyData
  | .non => some .none
  | .bl b => some (.bool b)
  | .int i => some (.int i)
  | .str x => some (.str x)
  | .tup xs => (D.toPys xs).map .tuple
  | .lst xs => (D.toPys xs).map .list
  | .dct _ _ => none
  | .ref _ => none
def D.toPys : List D → Option (List PyData)
  | [] => some []
  | x :: xs => match D.toPy x, D.toPys xs with
    | some p, some ps => some (p :: ps)
    | _, _ => none
end
/-- what a place of the store holds, as a frozen thing (one level) -/
def rd (S : Sto) : D → D
  | .ref l => match S[l]? with
    | some (.lst xs) => .lst xs
    | some (.dct ks vs) => .dct ks vs
    | none => .ref l
  | d => d
def rdM (l : Nat) : Option MO → D
  | some (.lst xs) => .lst xs
  | some (.dct ks vs) => .dct ks vs
  | none => .ref l
@[simp] theorem rd_ref (S : Sto) (l : Nat) : rd S (.ref l) = rdM l S[l]? := by
  unfold rd rdM; rfl
@[simp] theorem rdM_lst (l : Nat) (xs : List D) : rdM l (some (.lst xs)) = .lst xs := (rfl)
@[simp] theorem rdM_dct (l : Nat) (xs ys : List D) : rdM l (some (.dct xs ys)) = .dct xs ys := (rfl)
@[simp] theorem rd_non (S : Sto) : rd S .non = .non := (rfl)
@[simp] theorem rd_bl (S : Sto) (b : Bool) : rd S (.bl b) = .bl b := (rfl)
@[simp] theorem rd_int (S : Sto) (b : Int) : rd S (.int b) = .int b := (rfl)
@[simp] theorem rd_str (S : Sto) (b : Str) : rd S (.str b) = .str b := (rfl)
@[simp] theorem rd_tup (S : Sto) (b : List D) : rd S (.tup b) = .tup b := (rfl)
@[simp] theorem rd_lst (S : Sto) (b : List D) : rd S (.lst b) = .lst b := (rfl)
@[simp] theorem rd_dct (S : Sto) (b c : List D) : rd S (.dct b c) = .dct b c := (rfl)
/-- a sequence that is read -/
def seqOf (S : Sto) (d : D) : Option (List D) :=
  match rd S d with
  | .tup xs => some xs
  | .lst xs => some xs
  | _ => none
def lstOf (S : Sto) (d : D) : Option (List D) :=
  match rd S d with
  | .lst xs => some xs
  | _ => none
def strBig (x : Str) : Bool := decide (x.length ≤ sizeLine)
def truth (S : Sto) (d : D) : Option Bool :=
  match rd S d with
  | .non => some false
  | .bl b => some b
  | .int i => some (i != 0)
  | .str x => if strBig x then some ((x.length : Int) != 0) else none
  | .tup xs => some (!xs.isEmpty)
  | .lst xs => some (!xs.isEmpty)
  | _ => none
/-- as data -/
def pyd (S : Sto) (d : D) : Option PyData := (rd S d).toPy
/-- == of data -/
def deq (S : Sto) (a b : D) : Option Bool :=
  match pyd S a, pyd S b with
  | some p, some q => if min p.depth q.depth ≤ 60 then some (PyData.eqv p q) else none
  | _, _ => none
/-- what is asked of a sequence and a datum -/
def inSeq {α : Type} (S : Sto) (x : D) (xs : List D) (f : List PyData → PyData → Option α) : Option α :=
  match pyd S x, D.toPys xs with
  | some p, some ps => if min (PyData.depthAll ps) p.depth ≤ 60 then f ps p else none
  | _, _ => none
def small64 (i : Int) : Bool := decide (-(2 ^ 64) < i) && decide (i < 2 ^ 64)
def mulOk (i j : Int) : Bool := small64 i || small64 j || (decide (i.natAbs < 2 ^ 2000) && decide (j.natAbs < 2 ^ 2000))

inductive BOp where | add | sub | mul | fdiv | mod | pow
  deriving DecidableEq
/-- a list that was just made: frozen, or put into the store -/
def mkL (bx : Bool) (xs : List D) (S : Sto) : R D :=
  if xs.length ≤ sizeLine then (if bx then .ok (.ref S.length) (S ++ [.lst xs]) else .ok (.lst xs) S) else .bad
def bAdd (bx : Bool) (S : Sto) : D → D → R D
  | .int i, b => match b with | .int j => .ok (.int (i + j)) S | _ => .bad
  | .str x, b => match b with | .str y => if x.length + y.length ≤ sizeLine then .ok (.str (x ++ y)) S else .bad | _ => .bad
  | .tup xs, b => match b with | .tup ys => if xs.length + ys.length ≤ sizeLine then .ok (.tup (xs ++ ys)) S else .bad | _ => .bad
  | .lst xs, b => match b with | .lst ys => mkL bx (xs ++ ys) S | _ => .bad
  | _, _ => .bad
def bMul (bx : Bool) (S : Sto) : D → D → R D
  | .int i, b => match b with | .int j => if mulOk i j then .ok (.int (i * j)) S else .bad | _ => .bad
  | .tup xs, b => match b with | .int k => if 1 ≤ k ∧ k ≤ 1000 ∧ xs.length ≤ 1000 then .ok (.tup (List.replicate k.toNat xs).flatten) S else .bad | _ => .bad
  | .lst xs, b => match b with | .int k => if 0 ≤ k ∧ k ≤ 1000 ∧ xs.length ≤ 1000 then mkL bx (List.replicate k.toNat xs).flatten S else .bad | _ => .bad
  | _, _ => .bad
def bInt (S : Sto) (f : Int → Int → Option Int) : D → D → R D
  | .int i, b => match b with | .int j => R.opt S ((f i j).map .int) | _ => .bad
  | _, _ => .bad
def binop (o : BOp) (bx : Bool) (a b : D) (S : Sto) : R D :=
  match o with
  | .add => bAdd bx S (rd S a) (rd S b)
  | .mul => bMul bx S (rd S a) (rd S b)
  | .sub => bInt S (fun i j => some (i - j)) a b
  | .fdiv => bInt S (fun i j => if 0 < j ∧ j < 1073741824 then some (i / j) else none) a b
  | .mod => bInt S (fun i j => if 0 < j then some (i % j) else none) a b
  | .pow => bInt S (fun i j => if 0 ≤ j ∧ j ≤ 1000000 ∧ i.natAbs < 2 ^ 64 then some (i ^ j.toNat) else none) a b
def ints? : List D → Option (List Int)
  | [] => some []
  | .int i :: xs => (ints? xs).map (i :: ·)
  | _ :: _ => none
inductive COp where | eq | ne | lt | le | gt | ge | isin | notin
  deriving DecidableEq
def anyEq (S : Sto) (x : D) (xs : List D) : Option Bool := inSeq S x xs fun ps p => some (ps.any fun y => PyData.eqv y p)
def dkey : D → Option Key
  | .int i => some (.inl i)
  | .str x => some (.inr x)
  | _ => none
def isPlainKeys (ks : List D) : Bool := ks.all fun k => (dkey k).isSome
def keyEq (a b : D) : Bool := decide (dkey a = dkey b)
def dGet (k : D) : List D → List D → Option D
  | x :: ks, v :: vs => if keyEq x k then some v else dGet k ks vs
  | _, _ => none
/-- the key fits the dict's keys -/
def keyFits (k : D) (ks : List D) : Bool := (dkey k).isSome && isPlainKeys ks
/-- tuples of numbers, from the first pair that differs on -/
def lexLe (ns ms : List Int) : Bool := Ob.lexAt (fun j => decide (ns.getD j 0 = ms.getD j 0)) (fun j => decide (ns.getD j 0 ≤ ms.getD j 0)) (decide (ns.length ≤ ms.length)) 0 (min ns.length ms.length)
def cmpop (o : COp) (a b : D) (S : Sto) : Option Bool :=
  match o with
  | .eq => deq S a b
  | .ne => (deq S a b).map (!·)
  | .lt => match a, b with
    | .int i, .int j => some (decide (i < j))
    | .str x, .str y => some (decide (x.cps.toList < y.cps.toList))
    | _, _ => none
  | .le => match a, b with
    | .int i, .int j => some (decide (i ≤ j))
    | .tup xs, .tup ys => (ints? xs).bind fun ns => (ints? ys).map fun ms => lexLe ns ms
    | _, _ => none
  | .gt => match a, b with | .int i, .int j => some (decide (j < i)) | _, _ => none
  | .ge => match a, b with | .int i, .int j => some (decide (j ≤ i)) | _, _ => none
  | .isin => match rd S b with
    | .tup xs => anyEq S a xs
    | .lst xs => anyEq S a xs
    | .dct ks vs => if keyFits a ks then some (dGet a ks vs).isSome else none
    | .str y => match a with | .str x => some (!(Builtin.Str.occurrences y x 0 y.length 1).isEmpty) | _ => none
    | _ => none
  | .notin => match rd S b with
    | .tup xs => (anyEq S a xs).map (!·)
    | .lst xs => (anyEq S a xs).map (!·)
    | .dct ks vs => if keyFits a ks then some (!(dGet a ks vs).isSome) else none
    | .str y => match a with | .str x => some (!(!(Builtin.Str.occurrences y x 0 y.length 1).isEmpty)) | _ => none
    | _ => none
def isop (a c : D) : Option Bool :=
  match c, a with
  | .non, .non => some true
  | .non, _ => some false
  | .bl p, .bl q => some (decide (q = p))
  | .bl _, .int _ => some false
  | .bl _, .non => some false
  | .bl _, .str _ => some false
  | .bl _, .tup _ => some false
  | .bl _, .lst _ => some false
  | .bl _, .ref _ => some false
  | _, _ => none
inductive Ty where | int | bool | str | tuple | list | dict
  deriving DecidableEq
def tyIs (S : Sto) (d : D) (t : Ty) : Option Bool :=
  match rd S d with
  | .non => some false
  | .bl _ => some (decide (t = .bool) || decide (t = .int))
  | .int _ => some (decide (t = .int))
  | .str _ => some (decide (t = .str))
  | .tup _ => some (decide (t = .tuple))
  | .lst _ => some (decide (t = .list))
  | .dct _ _ => some (decide (t = .dict))
  | .ref _ => none
def tyIs2 (S : Sto) (d : D) (t u : Ty) : Option Bool := match tyIs S d t, tyIs S d u with
  | some a, some b => some (a || b)
  | _, _ => none
def index (S : Sto) (a b : D) : Option D :=
  match rd S a, b with
  | .tup xs, .int i => atI xs i
  | .lst xs, .int i => atI xs i
  | .str z, .int i => if strBig z then (atI z.cps.toList i).map fun c => D.str ⟨#[c]⟩ else none
  | .dct ks vs, k => if keyFits k ks then dGet k ks vs else none
  | _, _ => none
def cutD (xs : List D) (lo hi : Option Int) : List D := (xs.drop (HT.sIx xs.length 0 lo)).take (HT.sIx xs.length xs.length hi - HT.sIx xs.length 0 lo)
def asInt : D → Option (Option Int)
  | .int i => some (some i)
  | _ => none
def slice (bx : Bool) (a : D) (lo hi : Option Int) (S : Sto) : R D :=
  match rd S a with
  | .tup xs => .ok (.tup (cutD xs lo hi)) S
  | .lst xs => mkL bx (cutD xs lo hi) S
  | _ => .bad
def revd (bx : Bool) (a : D) (S : Sto) : R D :=
  match rd S a with
  | .tup xs => .ok (.tup xs.reverse) S
  | .lst xs => mkL bx xs.reverse S
  | _ => .bad

/-! ### sorting -/
def unPy (p : Option PyData) : PyData := p.getD .none
def pyOf (d : D) : PyData := unPy d.toPy
open Classical in
noncomputable def sortD (xs : List D) : Option (List D) :=
  if (∀ x ∈ xs, x.toPy.isSome = true) ∧ PySem.W.AllAlike (xs.map pyOf) ∧ PySem.W.Sortable (xs.map pyOf) ∧ xs.length ≤ sizeLine ∧ (∀ x ∈ xs, (pyOf x).depth ≤ 60) then
    some (xs.mergeSort (PySem.W.dataLe false pyOf)) else none
def bools? : List D → Option (List Bool)
  | [] => some []
  | .bl i :: xs => (bools? xs).map (i :: ·)
  | _ :: _ => none
def strs? : List D → Option (List Str)
  | [] => some []
  | .str i :: xs => (strs? xs).map (i :: ·)
  | _ :: _ => none
def keys? : List D → Option (List Key)
  | [] => some []
  | x :: xs => match dkey x, keys? xs with | some k, some ks => some (k :: ks) | _, _ => none
inductive Pr where
  | len | tuple | list | dict | all | any | sum | max2 | min2 | sorted | lenSet | int | rangeL (n : Nat) | rangeT (n : Nat) | abs | count | indexOf | get | get2 | join | append | pop | popAt | repr | extend | sortedSet | listZip
  deriving DecidableEq
def rangeOf (n : Nat) : List D → Option (Int × Nat)
  | [.int j] => if n = 1 ∧ -(2 ^ 62) ≤ j ∧ j < 2 ^ 62 then some (0, j.toNat) else none
  | [.int i, .int j] => if n = 2 ∧ -(2 ^ 62) ≤ i ∧ i < 2 ^ 62 ∧ -(2 ^ 62) ≤ j ∧ j < 2 ^ 62 then some (i, (j - i).toNat) else none
  | _ => none
def rangeD (lo : Int) (n : Nat) : List D := (List.range n).map fun (k : Nat) => D.int (lo + (k : Int))
end Pw
namespace Pw
open PySem PySem.Spec PyProof.Rows L2
def idxOf (S : Sto) (k : D) (xs : List D) : Option Nat := inSeq S k xs fun ps p => PySem.SeqAt.dataPlace ps p
def countOf (S : Sto) (k : D) (xs : List D) : Option Nat := inSeq S k xs fun ps p => some (ps.countP fun y => PyData.eqv y p)
def pLen (S : Sto) (d : D) : R D := match rd S d with
    | .str x => if strBig x then .ok (.int x.length) S else .bad
    | .tup xs => .ok (.int xs.length) S
    | .lst xs => .ok (.int xs.length) S
    | .dct ks vs => if isPlainKeys ks then .ok (.int ks.length) S else .bad
    | _ => .bad
def pTuple (S : Sto) (d : D) : R D := match rd S d with
    | .tup xs => .ok (.tup xs) S
    | .lst xs => .ok (.tup xs) S
    | _ => .bad
def pGet (S : Sto) (d k x : D) : R D := match rd S d with
    | .dct ks vs => if keyFits k ks then .ok ((dGet k ks vs).getD x) S else .bad
    | _ => .bad
def pInt (S : Sto) (d : D) : R D := match d with
    | .int i => .ok (.int i) S
    | .bl b => .ok (.int (if b then 1 else 0)) S
    | _ => .bad
def pMM (S : Sto) (f : Int → Int → Int) (a b : D) : R D := match a with
  | .int i => match b with | .int j => .ok (.int (f i j)) S | _ => .bad
  | _ => .bad
def pJoin (S : Sto) (a d : D) : R D := match a with
  | .str sep => match (seqOf S d).bind strs? with
    | some xs => if (xs.map (·.length)).sum + xs.length * sep.length ≤ 16777216 then .ok (.str (Txt.join sep xs)) S else .bad
    | none => .bad
  | _ => .bad
def R.o {α : Type} (o : Option α) (f : α → R D) : R D := match o with | some a => f a | none => .bad
@[simp] theorem R.o_some {α : Type} (a : α) (f : α → R D) : R.o (some a) f = f a := (rfl)
@[simp] theorem R.o_none {α : Type} (f : α → R D) : R.o none f = .bad := (rfl)
def dAppend (x y : D) (S : Sto) : R D := match x with
    | .ref l => match S[l]? with
      | some (.lst xs) => if xs.length < sizeLine then .ok .non (S.set l (.lst (xs ++ [y]))) else .bad
      | _ => .bad
    | _ => .bad
def dPop (x : D) (S : Sto) : R D := match x with
    | .ref l => match S[l]? with
      | some (.lst xs) => R.o (xs[xs.length - 1]?) fun y => .ok y (S.set l (.lst xs.dropLast))
      | _ => .bad
    | _ => .bad
def dPopAt (x y : D) (S : Sto) : R D := match x with
    | .ref l => match y with
      | .int i => match S[l]? with
        | some (.lst xs) => R.o (ixN xs.length i) fun k => R.o xs[k]? fun z => if -(2 ^ 63) ≤ i ∧ i < 2 ^ 63 then .ok z (S.set l (.lst (xs.eraseIdx k))) else .bad
        | _ => .bad
      | _ => .bad
    | _ => .bad
/-- the kind of thing -/
def kd (S : Sto) (d : D) : Nat := match rd S d with
  | .lst _ => 1
  | .tup _ => 2
  | .dct _ _ => 3
  | .str _ => 4
  | _ => 0
/-- the kinds that have the method -/
def Pr.kindOk : Pr → Nat → Bool
  | .append, k => k == 1
  | .pop, k => k == 1
  | .popAt, k => k == 1
  | .extend, k => k == 1
  | .indexOf, k => k == 1 || k == 2
  | .count, k => k == 1
  | .get, k => k == 3
  | .get2, k => k == 3
  | .join, k => k == 4
  | _, _ => false
/-- as Python shows it -/
def reprD (S : Sto) (d : D) : Option Str := (pyd S d).bind fun p => if p.showable && !p.hasDict && decide (p.shown.length + 64 ≤ sizeLine) && decide (p.depth ≤ 60) then some p.shown else none
def dput (k v : D) (ks vs : List D) : List D × List D :=
  if ks.any (fun x => keyEq x k) then (ks, List.zipWith (fun x u => if keyEq x k then v else u) ks vs) else (ks ++ [k], vs ++ [v])
def mkD (bx : Bool) (ks vs : List D) (S : Sto) : R D := if bx then .ok (.ref S.length) (S ++ [.dct ks vs]) else .ok (.dct ks vs) S
def pDict (bx : Bool) (S : Sto) (d : D) : R D := match rd S d with
    | .dct ks vs => if isPlainKeys ks then mkD bx ks vs S else .bad
    | _ => .bad
def pLenSet (S : Sto) (d : D) : R D := match (seqOf S d).bind strs? with
    | some ws => if ws.length ≤ 1000 then .ok (.int ws.eraseDups.length) S else .bad
    | none => match (seqOf S d).bind ints? with
      | some ns => if ns.length ≤ 1000 then .ok (.int ns.eraseDups.length) S else .bad
      | none => .bad
def dExtend (x y : D) (S : Sto) : R D := match x with
    | .ref l => match y with
      | .ref l2 => match S[l]? with
        | some (.lst xs) => match S[l2]? with
          | some (.lst ys) => if xs.length + ys.length ≤ sizeLine then .ok .non (S.set l (.lst (xs ++ ys))) else .bad
          | _ => .bad
        | _ => .bad
      | _ => .bad
    | _ => .bad
/-- a built-in of values -/
noncomputable def prim1 (p : Pr) (bx : Bool) (d : D) (S : Sto) : R D :=
  match p with
  | .len => pLen S d
  | .tuple => pTuple S d
  | .list => R.o (seqOf S d) fun xs => mkL bx xs S
  | .all => R.o ((lstOf S d).bind bools?) fun bs => .ok (.bl (bs.all id)) S
  | .any => R.o ((lstOf S d).bind bools?) fun bs => .ok (.bl (bs.any id)) S
  | .sum => R.o ((lstOf S d).bind ints?) fun ns => .ok (.int ns.sum) S
  | .sorted => R.o ((seqOf S d).bind sortD) fun xs => mkL bx xs S
  | .int => pInt S d
  | .abs => match d with | .int i => .ok (.int (if i < 0 then -i else i)) S | _ => .bad
  | .pop => dPop d S
  | .repr => R.o (reprD S d) fun x => .ok (.str x) S
  | .dict => pDict bx S d
  | .lenSet => pLenSet S d
  | _ => .bad
def prim2 (p : Pr) (bx : Bool) (d k : D) (S : Sto) : R D :=
  match p with
  | .max2 => pMM S (fun i j => if j > i then j else i) d k
  | .min2 => pMM S (fun i j => if j < i then j else i) d k
  | .indexOf => R.o ((seqOf S d).bind (idxOf S k)) fun i => .ok (.int i) S
  | .count => R.o ((lstOf S d).bind (countOf S k)) fun i => .ok (.int i) S
  | .get => pGet S d k .non
  | .join => pJoin S d k
  | .append => dAppend d k S
  | .popAt => dPopAt d k S
  | .extend => dExtend d k S
  | _ => .bad
noncomputable def prim (p : Pr) (bx : Bool) (as : List D) (S : Sto) : R D :=
  match p with
  | .rangeL n => R.o (rangeOf n as) fun q => if q.2 ≤ sizeLine then mkL bx (rangeD q.1 q.2) S else .bad
  | .rangeT n => R.o (rangeOf n as) fun q => if q.2 ≤ sizeLine then .ok (.tup (rangeD q.1 q.2)) S else .bad
  | p => match as with
    | [d] => prim1 p bx d S
    | [d, k] => prim2 p bx d k S
    | [d, k, x] => match p with | .get2 => pGet S d k x | _ => .bad
    | _ => .bad

/-! ## the language -/
/-- a target -/
inductive Tg where
  | n (i : Nat) | tu (ts : List Tg)
mutual
inductive E where
  | v (i : Nat) | k (d : D) | g (i : Nat)
  | bin (o : BOp) (bx : Bool) (a b : E)
  | neg (a : E)
  | cmp (o : COp) (a b : E) | cmp2 (o o' : COp) (a b c : E)
  | isk (ng : Bool) (a : E) (c : D)
  | and (a b : E) | or (a b : E) | not (a : E)
  | ite (c a b : E)
  | call (f : Nat) (as : List E) | callk (f : Nat) (as bs : List E) (ord : List Nat)
  | pr (p : Pr) (bx : Bool) (as : List E)
  | isi (a : E) (t : Ty) | isi2 (a : E) (t u : Ty) | bad
  | ix (a b : E) | sl (bx : Bool) (a : E) (lo hi : Option E) | rev (bx : Bool) (a : E)
  | tup (as : List E) | lst (bx : Bool) (as : List E)
  | dct0 (bx : Bool)
  | mth (p : Pr) (bx : Bool) (o : E) (as : List E)
  | comp (bx : Bool) (tg : Tg) (it : I) (own : List Nat) (ifs : Option E) (elt : E)
  | dcomp (bx : Bool) (tg : Tg) (it : I) (own : List Nat) (ke ve : E)
inductive I where
  | e (a : E) | rng (as : List E) | enum (a : E) | zip (a b : E) | zip3 (a b c : E)
end
inductive TgS where
  | g (t : Tg) | sub (o i : E)
inductive SI where
  | expr (e : E) | ret (e : E) | ret0 | asg (t : TgS) (e : E) | aug (i : Nat) (o : BOp) (e : E)
  | ite (c : E) (a b : List SI) | for_ (tg : Tg) (it : I) (b : List SI) | while_ (c : E) (b : List SI)
  | raise (c : Str) (fs : List (Str × E)) | pass | bad
inductive SR where
  | nx (e : Ev) (S : Sto) | ret (d : D) (S : Sto) | exc (x : Xc) (e : Ev) (S : Sto) | bad

def tupOf (S : Sto) (d : D) : Option (List D) :=
  match rd S d with
  | .tup xs => some xs
  | _ => none
mutual
def Tg.put : Tg → D → Sto → Ev → Option Ev
  | .n i, d, _, e => if i < e.length then some (e.set i (some d)) else none
  | .tu ts, d, S, e => match seqOf S d with
    | some xs => if xs.length = ts.length then Tg.puts ts xs S e else none
    | none => none
def Tg.puts : List Tg → List D → Sto → Ev → Option Ev
  | [], [], _, e => some e
  | t :: ts, d :: ds, S, e => match Tg.put t d S e with
    | some e' => Tg.puts ts ds S e'
    | none => none
  | _, _, _, _ => none
end
def wipeE (e : Ev) : List Nat → Ev
  | [] => e
  | v :: vs => (wipeE e vs).set v none
/-- what is walked: the items, and the store's lists that must stay as they are meanwhile -/
structure Src where
  xs : List D
  gd : List (Nat × List D)
open Classical in
noncomputable def Src.stays (s : Src) (S : Sto) : Prop := ∀ p ∈ s.gd, S[p.1]? = some (.lst p.2)
def guardOf (d : D) (xs : List D) : List (Nat × List D) := match d with
  | .ref l => [(l, xs)]
  | _ => []
def chars (x : Str) : List D := x.cps.toList.map fun c => D.str ⟨#[c]⟩
def src1 (S : Sto) (d : D) : Option Src :=
  match rd S d with
  | .tup xs => some ⟨xs, []⟩
  | .lst xs => some ⟨xs, guardOf d xs⟩
  | .str x => some ⟨chars x, []⟩
  | _ => none
def enumD (xs : List D) : List D := (List.range xs.length).zipWith (fun (k : Nat) x => D.tup [.int (k : Int), x]) xs
def srcEnum (S : Sto) (d : D) : Option Src :=
  match rd S d with
  | .tup xs => some ⟨enumD xs, []⟩
  | .lst xs => some ⟨enumD xs, guardOf d xs⟩
  | _ => none
def isTup (S : Sto) (d : D) : Bool := match rd S d with | .tup _ => true | _ => false
/-- a sequence's items, and what must stay -/
def seqG (S : Sto) (d : D) : Option (List D × List (Nat × List D)) := match rd S d with
  | .tup xs => some (xs, [])
  | .lst xs => some (xs, guardOf d xs)
  | _ => none
def srcZip (S : Sto) (a b : D) : Option Src := match seqG S a, seqG S b with
  | some (xs, g), some (ys, g2) => some ⟨List.zipWith (fun x y => D.tup [x, y]) xs ys, g ++ g2⟩
  | _, _ => none
def zip3D : List D → List D → List D → List D
  | x :: xs, y :: ys, z :: zs => D.tup [x, y, z] :: zip3D xs ys zs
  | _, _, _ => []
def srcZip3 (S : Sto) (a b c : D) : Option Src := match seqG S a, seqG S b, seqG S c with
  | some (xs, g), some (ys, g2), some (zs, g3) => some ⟨zip3D xs ys zs, g ++ (g2 ++ g3)⟩
  | _, _, _ => none

/-- nothing is raised -/
def R.nox {α : Type} : R α → R α
  | .ok a S => .ok a S
  | .exc _ _ => .bad
  | .bad => .bad
@[simp] theorem R.nox_ok {α : Type} (a : α) (S : Sto) : (R.ok a S).nox = .ok a S := (rfl)
@[simp] theorem R.nox_exc {α : Type} (x : Xc) (S : Sto) : (R.exc x S : R α).nox = .bad := (rfl)
@[simp] theorem R.nox_bad {α : Type} : (R.bad : R α).nox = .bad := (rfl)
section
variable (C : Nat → List D → Sto → R D) (G : Nat → Option D)
open Classical in
/-- the turns of a comprehension -/
noncomputable def compLoop (tg : Tg) (own : List Nat) (src : Src) (e0 : Ev) (t : Ev → Sto → R Bool) (elt : Ev → Sto → R D) : List D → List D → Sto → R (List D)
  | [], acc, S => if src.stays S then .ok acc S else .bad
  | x :: xs, acc, S => if src.stays S then (match Tg.put tg x S (wipeE e0 own) with
    | some e1 => (t e1 S).nox.bind fun b S1 => if b then (elt e1 S1).nox.bind fun y S2 => if acc.length < sizeLine then compLoop tg own src e0 t elt xs (acc ++ [y]) S2 else .bad
      else compLoop tg own src e0 t elt xs acc S1
    | none => .bad) else .bad
open Classical in
/-- the turns of a dict's comprehension -/
noncomputable def dcompLoop (tg : Tg) (own : List Nat) (src : Src) (e0 : Ev) (ke ve : Ev → Sto → R D) : List D → List D × List D → Sto → R (List D × List D)
  | [], acc, S => if src.stays S then .ok acc S else .bad
  | x :: xs, acc, S => if src.stays S then (match Tg.put tg x S (wipeE e0 own) with
    | some e1 => (ke e1 S).nox.bind fun k S1 => (ve e1 S1).nox.bind fun v S2 => if keyFits k acc.1 && decide (acc.1.length < sizeLine) then dcompLoop tg own src e0 ke ve xs (dput k v acc.1 acc.2) S2 else .bad
    | none => .bad) else .bad
/-- an expression's value, and its truth as a test -/
structure Den where
  v : Ev → Sto → R D
  t : Ev → Sto → R Bool
def ofV (v : Ev → Sto → R D) : Den := ⟨v, fun e S => (v e S).bind fun x S1 => R.opt S1 (truth S1 x)⟩
def dCmp2 (o o' : COp) (x y : D) (S : Sto) (c : Sto → R D) : R D := match cmpop o x y S with
    | some true => (c S).bind fun z S3 => R.opt S3 ((cmpop o' y z S3).map .bl)
    | some false => .ok (.bl false) S
    | none => .bad
def dAnd (x : D) (S : Sto) (c : R D) : R D := match truth S x with
    | some true => c
    | some false => .ok x S
    | none => .bad
def dOr (x : D) (S : Sto) (c : R D) : R D := match truth S x with
    | some true => .ok x S
    | some false => c
    | none => .bad
def dVar (i : Nat) (e : Ev) (S : Sto) : R D := match e[i]? with
    | some (some d) => .ok d S
    | _ => .bad
def dNeg (x : D) (S : Sto) : R D := match x with | .int i => .ok (.int (-i)) S | _ => .bad
mutual
noncomputable def den : E → Den
  | .v i => ofV fun e S => dVar i e S
  | .k d => ofV fun _ S => .ok d S
  | .g i => ofV fun _ S => R.opt S (G i)
  | .bin o bx a b => ofV fun e S => ((den a).v e S).bind fun x S1 => ((den b).v e S1).bind fun y S2 => binop o bx x y S2
  | .neg a => ofV fun e S => ((den a).v e S).bind dNeg
  | .cmp o a b => ofV fun e S => ((den a).v e S).bind fun x S1 => ((den b).v e S1).bind fun y S2 => R.opt S2 ((cmpop o x y S2).map .bl)
  | .cmp2 o o' a b c => ofV fun e S => ((den a).v e S).bind fun x S1 => ((den b).v e S1).bind fun y S2 => dCmp2 o o' x y S2 fun S => (den c).v e S
  | .isk ng a c => ofV fun e S => ((den a).v e S).bind fun x S1 => R.opt S1 ((isop x c).map fun b => .bl (if ng then !b else b))
  | .and a b => ⟨fun e S => ((den a).v e S).bind fun x S1 => dAnd x S1 ((den b).v e S1),
      fun e S => ((den a).t e S).bind fun x S1 => if x then (den b).t e S1 else .ok false S1⟩
  | .or a b => ⟨fun e S => ((den a).v e S).bind fun x S1 => dOr x S1 ((den b).v e S1),
      fun e S => ((den a).t e S).bind fun x S1 => if x then .ok true S1 else (den b).t e S1⟩
  | .not a => ⟨fun e S => ((den a).v e S).bind fun x S1 => R.opt S1 ((truth S1 x).map fun b => .bl (!b)), fun e S => ((den a).t e S).bind fun b S1 => .ok (!b) S1⟩
  | .ite c a b => ⟨fun e S => ((den c).t e S).bind fun t S1 => if t then (den a).v e S1 else (den b).v e S1,
      fun e S => ((den c).t e S).bind fun t S1 => if t then (den a).t e S1 else (den b).t e S1⟩
  | .call f as => ofV fun e S => (dens as e S).bind fun xs S1 => C f xs S1
  | .callk f as bs ord => ofV fun e S => (dens as e S).bind fun xs S1 => (dens bs e S1).bind fun ys S2 => C f (ord.map fun j => (xs ++ ys).getD j .non) S2
  | .pr p bx as => ofV fun e S => (dens as e S).bind fun xs S1 => prim p bx xs S1
  | .isi a t => ofV fun e S => ((den a).v e S).bind fun x S1 => R.opt S1 ((tyIs S1 x t).map .bl)
  | .isi2 a t u => ofV fun e S => ((den a).v e S).bind fun x S1 => R.opt S1 ((tyIs2 S1 x t u).map .bl)
  | .bad => ofV fun _ _ => .bad
  | .ix a b => ofV fun e S => ((den a).v e S).bind fun x S1 => ((den b).v e S1).bind fun y S2 => R.opt S2 (index S2 x y)
  | .sl bx a lo hi => ofV fun e S => ((den a).v e S).bind fun x S1 => (denO lo e S1).bind fun l S2 => (denO hi e S2).bind fun h S3 => slice bx x l h S3
  | .rev bx a => ofV fun e S => ((den a).v e S).bind fun x S1 => revd bx x S1
  | .tup as => ofV fun e S => (dens as e S).bind fun xs S1 => if xs.length ≤ sizeLine then .ok (.tup xs) S1 else .bad
  | .lst bx as => ofV fun e S => (dens as e S).bind fun xs S1 => mkL bx xs S1
  | .dct0 bx => ofV fun _ S => if bx then .ok (.ref S.length) (S ++ [.dct [] []]) else .ok (.dct [] []) S
  | .mth p bx o as => ofV fun e S => ((den o).v e S).bind fun x S1 => if p.kindOk (kd S1 x) then (dens as e S1).bind fun ys S2 => if kd S1 x = kd S2 x then prim p bx (x :: ys) S2 else .bad else .bad
  | .comp bx tg it own ifs elt => ofV fun e S => (denI it e S).bind fun src S1 =>
      (compLoop tg own src e (denT ifs) (den elt).v src.xs [] S1).bind fun acc S2 => mkL bx acc S2
  | .dcomp bx tg it own ke ve => ofV fun e S => (denI it e S).bind fun src S1 =>
      (dcompLoop tg own src e (den ke).v (den ve).v src.xs ([], []) S1).bind fun q S2 => mkD bx q.1 q.2 S2
noncomputable def denT : Option E → Ev → Sto → R Bool
  | none, _, S => .ok true S
  | some a, e, S => (den a).t e S
noncomputable def denO : Option E → Ev → Sto → R (Option Int)
  | none, _, S => .ok none S
  | some a, e, S => ((den a).v e S).bind fun x S1 => R.opt S1 (asInt x)
noncomputable def dens : List E → Ev → Sto → R (List D)
  | [], _, S => .ok [] S
  | a :: as, e, S => ((den a).v e S).bind fun x S1 => (dens as e S1).bind fun xs S2 => .ok (x :: xs) S2
noncomputable def denI : I → Ev → Sto → R Src
  | .e a, e, S => ((den a).v e S).bind fun x S1 => R.opt S1 (src1 S1 x)
  | .rng as, e, S => (dens as e S).bind fun xs S1 => R.opt S1 ((rangeOf as.length xs).map fun q => ⟨rangeD q.1 q.2, []⟩)
  | .enum a, e, S => ((den a).v e S).bind fun x S1 => R.opt S1 (srcEnum S1 x)
  | .zip3 a b c, e, S => ((den a).v e S).bind fun x S1 => ((den b).v e S1).bind fun y S2 => ((den c).v e S2).bind fun z S3 => R.opt S3 (srcZip3 S3 x y z)
  | .zip a b, e, S => ((den a).v e S).bind fun x S1 => ((den b).v e S1).bind fun y S2 => R.opt S2 (srcZip S2 x y)
end
end
end Pw
namespace Pw
example (C : Nat → List D → Sto → R D) (G : Nat → Option D) (a b : E) (e : Ev) (S : Sto) : (den C G (.and a b)).v e S = ((den C G a).v e S).bind fun x S1 => dAnd x S1 ((den C G b).v e S1) := rfl
end Pw
namespace Pw
open PySem PySem.Spec PyProof.Rows L2
/-! ## statements -/
def SR.then_ (r : SR) (f : Ev → Sto → SR) : SR := match r with
  | .nx e S => f e S
  | r => r
def R.st {α : Type} (r : R α) (e : Ev) (f : α → Sto → SR) : SR := match r with
  | .ok a S => f a S
  | .exc x S => .exc x e S
  | .bad => .bad
@[simp] theorem R.st_ok {α : Type} (a : α) (S : Sto) (e : Ev) (f : α → Sto → SR) : (R.ok a S).st e f = f a S := (rfl)
@[simp] theorem R.st_exc {α : Type} (x : Xc) (S : Sto) (e : Ev) (f : α → Sto → SR) : (R.exc x S : R α).st e f = .exc x e S := (rfl)
@[simp] theorem R.st_bad {α : Type} (e : Ev) (f : α → Sto → SR) : (R.bad : R α).st e f = .bad := (rfl)
@[simp] theorem SR.then_nx (e : Ev) (S : Sto) (f : Ev → Sto → SR) : (SR.nx e S).then_ f = f e S := (rfl)
@[simp] theorem SR.then_ret (d : D) (S : Sto) (f : Ev → Sto → SR) : (SR.ret d S).then_ f = .ret d S := (rfl)
@[simp] theorem SR.then_exc (x : Xc) (e : Ev) (S : Sto) (f : Ev → Sto → SR) : (SR.exc x e S).then_ f = .exc x e S := (rfl)
@[simp] theorem SR.then_bad (f : Ev → Sto → SR) : SR.bad.then_ f = .bad := (rfl)
def setItemD (o i v : D) (S : Sto) : Option Sto := match o with
  | .ref l => match S[l]? with
    | some (.lst xs) => match i with
      | .int k => (ixN xs.length k).map fun j => S.set l (.lst (xs.set j v))
      | _ => none
    | some (.dct ks vs) => if keyFits i ks && decide (ks.length < sizeLine) then some (S.set l (.dct (dput i v ks vs).1 (dput i v ks vs).2)) else none
    | none => none
  | _ => none
def optS (o : Option Ev) (f : Ev → SR) : SR := match o with
  | some e => f e
  | none => .bad
@[simp] theorem optS_some (e : Ev) (f : Ev → SR) : optS (some e) f = f e := (rfl)
def augop (o : BOp) (x y : D) (S : Sto) : R D := match o with
  | .add => match x with
    | .ref l => match y with
      | .ref l2 => match S[l]? with
        | some (.lst xs) => match S[l2]? with
          | some (.lst ys) => if xs.length + ys.length ≤ sizeLine then .ok (.ref l) (S.set l (.lst (xs ++ ys))) else .bad
          | _ => .bad
        | _ => .bad
      | _ => .bad
    | .int i => match y with | .int j => .ok (.int (i + j)) S | _ => .bad
    | _ => .bad
  | .sub => match x with
    | .int i => match y with | .int j => .ok (.int (i - j)) S | _ => .bad
    | _ => .bad
  | _ => .bad
open Classical in
noncomputable def forLoop (tg : Tg) (src : Src) (body : Ev → Sto → SR) : List D → Ev → Sto → SR
  | [], e, S => if src.stays S then .nx e S else .bad
  | x :: xs, e, S => if src.stays S then optS (Tg.put tg x S e) fun e1 => (body e1 S).then_ fun e2 S2 => forLoop tg src body xs e2 S2 else .bad
def whileN (c : Ev → Sto → R Bool) (b : Ev → Sto → SR) : Nat → Ev → Sto → SR
  | 0, _, _ => .bad
  | n + 1, e, S => (c e S).st e fun t S1 => if t then (b e S1).then_ (fun e2 S2 => whileN c b n e2 S2) else .nx e S1
open Classical in
noncomputable def whileS (c : Ev → Sto → R Bool) (b : Ev → Sto → SR) (e : Ev) (S : Sto) : SR :=
  if h : ∃ n, whileN c b n e S ≠ .bad then whileN c b (choose h) e S else .bad
section
variable (C : Nat → List D → Sto → R D) (G : Nat → Option D)
mutual
noncomputable def denS : SI → Ev → Sto → SR
  | .expr a, e, S => ((den C G a).v e S).st e fun _ S1 => .nx e S1
  | .ret a, e, S => ((den C G a).v e S).st e fun x S1 => .ret x S1
  | .ret0, _, S => .ret .non S
  | .asg t a, e, S => ((den C G a).v e S).st e fun x S1 => match t with
    | .g t => optS (Tg.put t x S1 e) fun e1 => .nx e1 S1
    | .sub o i => ((den C G o).v e S1).st e fun ov S2 => ((den C G i).v e S2).st e fun iv S3 => match setItemD ov iv x S3 with
      | some S4 => .nx e S4
      | none => .bad
  | .aug i o a, e, S => (dVar i e S).st e fun x S1 => ((den C G a).v e S1).st e fun y S2 => (augop o x y S2).st e fun z S3 => if i < e.length then .nx (e.set i (some z)) S3 else .bad
  | .ite c a b, e, S => ((den C G c).t e S).st e fun t S1 => if t then denSs a e S1 else denSs b e S1
  | .for_ tg it b, e, S => (denI C G it e S).st e fun src S1 => forLoop tg src (denSs b) src.xs e S1
  | .while_ c b, e, S => whileS (den C G c).t (denSs b) e S
  | .raise _ _, _, _ => .bad
  | .bad, _, _ => .bad
  | .pass, e, S => .nx e S
noncomputable def denSs : List SI → Ev → Sto → SR
  | [], e, S => .nx e S
  | s :: ss, e, S => (denS s e S).then_ fun e1 S1 => denSs ss e1 S1
end
end
theorem whileN_mono {c : Ev → Sto → R Bool} {b : Ev → Sto → SR} : ∀ (n : Nat) (e : Ev) (S : Sto), whileN c b n e S ≠ .bad → whileN c b (n + 1) e S = whileN c b n e S
  | 0, _, _, h => absurd rfl h
  | n + 1, e, S, h => by
    have ih := fun e S => whileN_mono (c := c) (b := b) n e S
    unfold whileN at h
    show ((c e S).st e fun t S1 => if t then (b e S1).then_ (fun e2 S2 => whileN c b (n + 1) e2 S2) else .nx e S1) = ((c e S).st e fun t S1 => if t then (b e S1).then_ (fun e2 S2 => whileN c b n e2 S2) else .nx e S1)
    cases hc : c e S with
    | ok t S1 =>
      rw [hc] at h
      simp only [R.st_ok] at h ⊢
      cases t with
      | false => rfl
      | true =>
        simp only [if_true] at h ⊢
        cases hb : b e S1 with
        | nx e2 S2 => rw [hb] at h; exact ih _ _ h
        | ret _ _ => rfl
        | exc _ _ _ => rfl
        | bad => rfl
    | exc _ _ => rfl
    | bad => rfl
theorem whileN_le {c : Ev → Sto → R Bool} {b : Ev → Sto → SR} {n m : Nat} {e : Ev} {S : Sto} (h : whileN c b n e S ≠ .bad) (hm : n ≤ m) : whileN c b m e S = whileN c b n e S := by
  induction m with
  | zero => cases Nat.le_zero.mp hm; rfl
  | succ m ih =>
    by_cases hn : n = m + 1
    · subst hn; rfl
    · have h1 := ih (by omega)
      rw [whileN_mono m e S (by rw [h1]; exact h), h1]
theorem whileS_of {c : Ev → Sto → R Bool} {b : Ev → Sto → SR} {n : Nat} {e : Ev} {S : Sto} (h : whileN c b n e S ≠ .bad) : whileS c b e S = whileN c b n e S := by
  unfold whileS
  have hx : ∃ n, whileN c b n e S ≠ .bad := ⟨n, h⟩
  rw [dif_pos hx]
  have hc := Classical.choose_spec hx
  rcases Nat.le_total n (Classical.choose hx) with q | q
  · exact whileN_le h q
  · exact (whileN_le hc q).symm
theorem whileS_ne {c : Ev → Sto → R Bool} {b : Ev → Sto → SR} {e : Ev} {S : Sto} (h : whileS c b e S ≠ .bad) : ∃ n, whileS c b e S = whileN c b n e S := by
  unfold whileS at h ⊢
  by_cases hx : ∃ n, whileN c b n e S ≠ .bad
  · rw [dif_pos hx] at h ⊢; exact ⟨_, rfl⟩
  · rw [dif_neg hx] at h; exact absurd rfl h
/-- one turn of a while -/
theorem whileS_turn {c : Ev → Sto → R Bool} {b : Ev → Sto → SR} {e e2 : Ev} {S S1 S2 : Sto} (hc : c e S = .ok true S1) (hb : b e S1 = .nx e2 S2) : whileS c b e S = whileS c b e2 S2 := by
  by_cases hx : ∃ n, whileN c b n e2 S2 ≠ .bad
  · obtain ⟨n, hn⟩ := hx
    have e1 : whileN c b (n + 1) e S = whileN c b n e2 S2 := by
      show (c e S).st e _ = _
      rw [hc]; simp [hb]
    rw [whileS_of hn, ← e1]
    exact whileS_of (by rw [e1]; exact hn)
  · have hy : ¬ ∃ n, whileN c b n e S ≠ .bad := by
      rintro ⟨n, hn⟩
      cases n with
      | zero => exact hn rfl
      | succ n =>
        refine hx ⟨n, ?_⟩
        have e1 : whileN c b (n + 1) e S = whileN c b n e2 S2 := by
          show (c e S).st e _ = _
          rw [hc]; simp [hb]
        rw [← e1]; exact hn
    unfold whileS
    rw [dif_neg hx, dif_neg hy]
theorem whileS_end {c : Ev → Sto → R Bool} {b : Ev → Sto → SR} {e : Ev} {S S1 : Sto} (hc : c e S = .ok false S1) : whileS c b e S = .nx e S1 := by
  have e1 : whileN c b 1 e S = .nx e S1 := by
    show (c e S).st e _ = _
    rw [hc]; simp
  rw [whileS_of (n := 1) (by rw [e1]; intro z; cases z), e1]
theorem whileS_ret {c : Ev → Sto → R Bool} {b : Ev → Sto → SR} {e : Ev} {S S1 S2 : Sto} {d : D} (hc : c e S = .ok true S1) (hb : b e S1 = .ret d S2) : whileS c b e S = .ret d S2 := by
  have e1 : whileN c b 1 e S = .ret d S2 := by
    show (c e S).st e _ = _
    rw [hc]; simp [hb]
  rw [whileS_of (n := 1) (by rw [e1]; intro z; cases z), e1]
theorem whileS_exc {c : Ev → Sto → R Bool} {b : Ev → Sto → SR} {e e2 : Ev} {S S1 S2 : Sto} {x : Xc} (hc : c e S = .ok true S1) (hb : b e S1 = .exc x e2 S2) : whileS c b e S = .exc x e2 S2 := by
  have e1 : whileN c b 1 e S = .exc x e2 S2 := by
    show (c e S).st e _ = _
    rw [hc]; simp [hb]
  rw [whileS_of (n := 1) (by rw [e1]; intro z; cases z), e1]

/-! ## a call: what was made in it and is told behind it is frozen; the rest of what was made goes -/
mutual
def frz1 (n : Nat) (S : Sto) (F : List D → Option (List D)) : D → Option D
  | .ref l => if l < n then some (.ref l) else match S[l]? with
    | some (.lst xs) => (F xs).map .lst
    | some (.dct ks vs) => (F vs).map (D.dct ks)
    | none => none
  | .tup xs => (frz1s n S F xs).map .tup
  | .lst xs => (frz1s n S F xs).map .lst
  | .dct ks vs => (frz1s n S F vs).map (D.dct ks)
  | .non => some .non
  | .bl b => some (.bl b)
  | .int i => some (.int i)
  | .str x => some (.str x)
def frz1s (n : Nat) (S : Sto) (F : List D → Option (List D)) : List D → Option (List D)
  | [] => some []
  | x :: xs => match frz1 n S F x, frz1s n S F xs with
    | some y, some ys => some (y :: ys)
    | _, _ => none
end
def frzs (n : Nat) (S : Sto) : Nat → List D → Option (List D)
  | 0 => frz1s n S fun _ => none
  | k + 1 => frz1s n S (frzs n S k)
def frz (n : Nat) (S : Sto) (d : D) : Option D := frz1 n S (frzs n S 6) d
mutual
/-- all places of the store in it are below n -/
def D.low (n : Nat) : D → Bool
  | .ref l => decide (l < n)
  | .tup xs => D.lows n xs
  | .lst xs => D.lows n xs
  | .dct ks vs => D.lows n vs
  | .non => true
  | .bl _ => true
  | .int _ => true
  | .str _ => true
def D.lows (n : Nat) : List D → Bool
  | [] => true
  | x :: xs => D.low n x && D.lows n xs
end
def MO.low (n : Nat) : MO → Bool
  | .lst xs => D.lows n xs
  | .dct _ vs => D.lows n vs
def OldOk (S S' : Sto) : Prop := ∀ l, l < S.length → S'[l]? = S[l]? ∨ ∃ m, S'[l]? = some m ∧ m.low S.length = true
open Classical in
noncomputable def close (S S' : Sto) (d : D) : D × Sto :=
  if S'.length ≤ S.length then (d, S') else match frz S.length S' d with
    | some d' => if OldOk S S' then (d', S'.take S.length) else (d, S')
    | none => (d, S')
open Classical in
noncomputable def closeX (S S' : Sto) (x : Xc) : Xc × Sto :=
  if S'.length ≤ S.length then (x, S') else match frz1s S.length S' (frzs S.length S' 6) (x.fs.map (·.2)) with
    | some ds => if OldOk S S' then (⟨x.cls, (x.fs.map (·.1)).zip ds⟩, S'.take S.length) else (x, S')
    | none => (x, S')
noncomputable def closeR (fz : Bool) (S : Sto) : SR → R D
  | .nx _ S' => .ok .non (if fz then (close S S' .non).2 else S')
  | .ret d S' => if fz then .ok (close S S' d).1 (close S S' d).2 else .ok d S'
  | .exc x _ S' => if fz then .exc (closeX S S' x).1 (closeX S S' x).2 else .exc x S'
  | .bad => .bad
structure Fn where
  slots : Nat
  pars : Nat
  /-- what is made in it is frozen at its end -/
  fz : Bool
  body : List SI
/-- a call of the f-th def, so many calls deep at most -/
noncomputable def callN (Fs : Nat → Option Fn) (G : Nat → Option D) : Nat → Nat → List D → Sto → R D
  | 0, _, _, _ => .bad
  | n + 1, f, ds, S => match Fs f with
    | some F => if ds.length = F.pars then closeR F.fz S (denSs (callN Fs G n) G F.body (ds.map some ++ List.replicate (F.slots - F.pars) none) S) else .bad
    | none => .bad
end Pw

set_option Elab.async false
set_option linter.all false
set_option maxRecDepth 100000
namespace Pw
open PySem PySem.Spec PyProof.Rows L2

/-! ## what is wanted -/
def RelX (K : PySem.W.Frag) (mg : Str → Option Value) (H : Hp) (M : Pl) (x : Xc) (cls : Value) (d : Option Addr) : Prop :=
  ∃ C, mg x.cls = some (.ref C) ∧ cls = .ref C ∧
    ((x.fs = [] ∧ d = none) ∨ ∃ dd vs, x.fs ≠ [] ∧ d = some dd ∧ H dd = some (.xd ((x.fs.map (·.1)).zip vs)) ∧ dd ∉ M.m ∧ dd ∉ M.r ∧ RelDs K H M (x.fs.map (·.2)) vs)
def WPE (K : PySem.W.Frag) (mg : Str → Option Value) (H : Hp) (M : Pl) (r : R D) (Q : VK) (E : XK) : Prop :=
  match r with
  | .ok d S' => ∀ v H' M', Ext H M H' M' → RelS K H' M' S' → RelD K H' M' d v → Q v H'
  | .exc x S' => ∀ cls dd H' M', Ext H M H' M' → RelS K H' M' S' → RelX K mg H' M' x cls dd → E cls dd H'
  | .bad => False
def WPT (K : PySem.W.Frag) (mg : Str → Option Value) (H : Hp) (M : Pl) (r : R Bool) (Q : Bool → Hp → Prop) (E : XK) : Prop :=
  match r with
  | .ok d S' => ∀ H' M', Ext H M H' M' → RelS K H' M' S' → Q d H'
  | .exc x S' => ∀ cls dd H' M', Ext H M H' M' → RelS K H' M' S' → RelX K mg H' M' x cls dd → E cls dd H'
  | .bad => False
def WPA (K : PySem.W.Frag) (mg : Str → Option Value) (H : Hp) (M : Pl) (r : R (List D)) (Q : List V → Hp → Prop) (E : XK) : Prop :=
  match r with
  | .ok d S' => ∀ v H' M', Ext H M H' M' → RelS K H' M' S' → RelDs K H' M' d v → Q v H'
  | .exc x S' => ∀ cls dd H' M', Ext H M H' M' → RelS K H' M' S' → RelX K mg H' M' x cls dd → E cls dd H'
  | .bad => False
/-- any result: what is told of it -/
def WPG (K : PySem.W.Frag) (mg : Str → Option Value) (H : Hp) (M : Pl) {α : Type} (r : R α) (Q : α → Sto → Hp → Pl → Prop) (E : XK) : Prop :=
  match r with
  | .ok a S' => ∀ H' M', Ext H M H' M' → RelS K H' M' S' → Q a S' H' M'
  | .exc x S' => ∀ cls dd H' M', Ext H M H' M' → RelS K H' M' S' → RelX K mg H' M' x cls dd → E cls dd H'
  | .bad => False
section
variable {K : PySem.W.Frag} {mg : Str → Option Value} {H H' : Hp} {M M' : Pl} {S : Sto} {E : XK}
theorem WPG.ext {α : Type} {r : R α} {Q : α → Sto → Hp → Pl → Prop} (x : Ext H M H' M') (h : WPG K mg H M r Q E) : WPG K mg H' M' r Q E := by
  cases r with
  | ok a S' => exact fun H2 M2 y => h H2 M2 (x.trans y)
  | exc z S' => exact fun c d H2 M2 y => h c d H2 M2 (x.trans y)
  | bad => exact h
theorem WPE.g {r : R D} {Q : VK} : WPE K mg H M r Q E ↔ WPG K mg H M r (fun d _ H' M' => ∀ v, RelD K H' M' d v → Q v H') E := by
  cases r with
  | ok a S' => exact ⟨fun h H2 M2 x s v r => h v H2 M2 x s r, fun h v H2 M2 x s r => h H2 M2 x s v r⟩
  | exc z S' => exact Iff.rfl
  | bad => exact Iff.rfl
theorem WPA.g {r : R (List D)} {Q : List V → Hp → Prop} : WPA K mg H M r Q E ↔ WPG K mg H M r (fun d _ H' M' => ∀ v, RelDs K H' M' d v → Q v H') E := by
  cases r with
  | ok a S' => exact ⟨fun h H2 M2 x s v r => h v H2 M2 x s r, fun h v H2 M2 x s r => h H2 M2 x s v r⟩
  | exc z S' => exact Iff.rfl
  | bad => exact Iff.rfl
theorem WPT.g {r : R Bool} {Q : Bool → Hp → Prop} : WPT K mg H M r Q E ↔ WPG K mg H M r (fun d _ H' M' => Q d H') E := by
  cases r with
  | ok a S' => exact Iff.rfl
  | exc z S' => exact Iff.rfl
  | bad => exact Iff.rfl
theorem WPE.ext {r : R D} {Q : VK} (x : Ext H M H' M') (h : WPE K mg H M r Q E) : WPE K mg H' M' r Q E := WPE.g.mpr ((WPE.g.mp h).ext x)
theorem WPT.ext {r : R Bool} {Q : Bool → Hp → Prop} (x : Ext H M H' M') (h : WPT K mg H M r Q E) : WPT K mg H' M' r Q E := WPT.g.mpr ((WPT.g.mp h).ext x)
theorem WPA.ext {r : R (List D)} {Q : List V → Hp → Prop} (x : Ext H M H' M') (h : WPA K mg H M r Q E) : WPA K mg H' M' r Q E := WPA.g.mpr ((WPA.g.mp h).ext x)
/-- one after the other: the first's end, told to the machine's next step -/
theorem WPE.bind {r : R D} {f : D → Sto → R D} {Q Q' : VK} (h : WPE K mg H M (r.bind f) Q E)
    (n : ∀ d S1 v H1 M1, Ext H M H1 M1 → RelS K H1 M1 S1 → RelD K H1 M1 d v → WPE K mg H1 M1 (f d S1) Q E → Q' v H1) : WPE K mg H M r Q' E := by
  cases r with
  | ok a S' => exact fun v H1 M1 x s r => n a S' v H1 M1 x s r (WPE.ext x h)
  | exc z S' => exact h
  | bad => exact h
theorem WPA.bindE {r : R (List D)} {f : List D → Sto → R D} {Q : VK} {Q' : List V → Hp → Prop} (h : WPE K mg H M (r.bind f) Q E)
    (n : ∀ d S1 v H1 M1, Ext H M H1 M1 → RelS K H1 M1 S1 → RelDs K H1 M1 d v → WPE K mg H1 M1 (f d S1) Q E → Q' v H1) : WPA K mg H M r Q' E := by
  cases r with
  | ok a S' => exact fun v H1 M1 x s r => n a S' v H1 M1 x s r (WPE.ext x h)
  | exc z S' => exact h
  | bad => exact h
theorem WPT.bindE {r : R Bool} {f : Bool → Sto → R D} {Q : VK} {Q' : Bool → Hp → Prop} (h : WPE K mg H M (r.bind f) Q E)
    (n : ∀ d S1 H1 M1, Ext H M H1 M1 → RelS K H1 M1 S1 → WPE K mg H1 M1 (f d S1) Q E → Q' d H1) : WPT K mg H M r Q' E := by
  cases r with
  | ok a S' => exact fun H1 M1 x s => n a S' H1 M1 x s (WPE.ext x h)
  | exc z S' => exact h
  | bad => exact h
theorem WPE.bindT {r : R D} {f : D → Sto → R Bool} {Q : Bool → Hp → Prop} {Q' : VK} (h : WPT K mg H M (r.bind f) Q E)
    (n : ∀ d S1 v H1 M1, Ext H M H1 M1 → RelS K H1 M1 S1 → RelD K H1 M1 d v → WPT K mg H1 M1 (f d S1) Q E → Q' v H1) : WPE K mg H M r Q' E := by
  cases r with
  | ok a S' => exact fun v H1 M1 x s r => n a S' v H1 M1 x s r (WPT.ext x h)
  | exc z S' => exact h
  | bad => exact h
theorem WPT.bind {r : R Bool} {f : Bool → Sto → R Bool} {Q Q' : Bool → Hp → Prop} (h : WPT K mg H M (r.bind f) Q E)
    (n : ∀ d S1 H1 M1, Ext H M H1 M1 → RelS K H1 M1 S1 → WPT K mg H1 M1 (f d S1) Q E → Q' d H1) : WPT K mg H M r Q' E := by
  cases r with
  | ok a S' => exact fun H1 M1 x s => n a S' H1 M1 x s (WPT.ext x h)
  | exc z S' => exact h
  | bad => exact h
theorem WPE.bindA {r : R D} {f : D → Sto → R (List D)} {Q : List V → Hp → Prop} {Q' : VK} (h : WPA K mg H M (r.bind f) Q E)
    (n : ∀ d S1 v H1 M1, Ext H M H1 M1 → RelS K H1 M1 S1 → RelD K H1 M1 d v → WPA K mg H1 M1 (f d S1) Q E → Q' v H1) : WPE K mg H M r Q' E := by
  cases r with
  | ok a S' => exact fun v H1 M1 x s r => n a S' v H1 M1 x s r (WPA.ext x h)
  | exc z S' => exact h
  | bad => exact h
theorem WPA.bind {r : R (List D)} {f : List D → Sto → R (List D)} {Q Q' : List V → Hp → Prop} (h : WPA K mg H M (r.bind f) Q E)
    (n : ∀ d S1 v H1 M1, Ext H M H1 M1 → RelS K H1 M1 S1 → RelDs K H1 M1 d v → WPA K mg H1 M1 (f d S1) Q E → Q' v H1) : WPA K mg H M r Q' E := by
  cases r with
  | ok a S' => exact fun v H1 M1 x s r => n a S' v H1 M1 x s r (WPA.ext x h)
  | exc z S' => exact h
  | bad => exact h
theorem WPE.opt {o : Option D} {Q : VK} (s : RelS K H M S) (h : WPE K mg H M (R.opt S o) Q E) : ∃ d, o = some d ∧ ∀ v H' M', Ext H M H' M' → RelS K H' M' S → RelD K H' M' d v → Q v H' := by
  cases o with
  | none => exact h.elim
  | some d => exact ⟨d, rfl, h⟩
end

/-- the slots -/
def RelE (K : PySem.W.Frag) (H : Hp) (M : Pl) (e : Ev) (σ : L2.St) : Prop := σ.length = e.length ∧ ∀ (i : Nat) (d : D), e[i]? = some (some d) → ∃ v, σ[i]? = some (some v) ∧ RelD K H M d v
theorem RelE.mono {K : PySem.W.Frag} {H H' : Hp} {M M' : Pl} {e : Ev} {σ : L2.St} (x : Ext H M H' M') (r : RelE K H M e σ) : RelE K H' M' e σ := ⟨r.1, fun i d h => let ⟨v, h1, h2⟩ := r.2 i d h; ⟨v, h1, h2.mono x⟩⟩
theorem RelE.set {K : PySem.W.Frag} {H : Hp} {M : Pl} {e : Ev} {σ : L2.St} {d : D} {v : V} (r : RelE K H M e σ) (i : Nat) (q : RelD K H M d v) : RelE K H M (e.set i (some d)) (σ.set i (some v)) := by
  refine ⟨by simp [r.1], fun j d' h => ?_⟩
  by_cases hj : j = i
  · subst hj
    by_cases hl : j < e.length
    · rw [List.getElem?_set_self hl] at h; cases h
      exact ⟨v, by rw [List.getElem?_set_self (by rw [r.1]; exact hl)], q⟩
    · rw [List.getElem?_eq_none (by simp; omega)] at h; cases h
  · rw [List.getElem?_set_ne (Ne.symm hj)] at h
    obtain ⟨u, h1, h2⟩ := r.2 j d' h
    exact ⟨u, by rw [List.getElem?_set_ne (Ne.symm hj)]; exact h1, h2⟩

/-! ## the judgements -/
/-- e does what v says -/
def DE (X : Cx) (e : Expr) (v : Ev → Sto → R D) : Prop := ∀ W, Takes X W → ∃ t, PE X e t ∧ ∀ (σ : L2.St) (H : Hp) (M : Pl) (env : Ev) (S : Sto) (Q : VK), RelE X.K H M env σ → RelS X.K H M S →
  WPE X.K X.mg H M (v env S) Q (fun c d H' => W c d σ H') → t σ H Q
def DT (X : Cx) (e : Expr) (v : Ev → Sto → R Bool) : Prop := ∀ W, Takes X W → ∃ t, PT X e t ∧ ∀ (σ : L2.St) (H : Hp) (M : Pl) (env : Ev) (S : Sto) (Q : Bool → Hp → Prop), RelE X.K H M env σ → RelS X.K H M S →
  WPT X.K X.mg H M (v env S) Q (fun c d H' => W c d σ H') → t σ H Q
def DA (X : Cx) (es : List Expr) (v : Ev → Sto → R (List D)) : Prop := ∀ W, Takes X W → ∃ t, PA X es t ∧ ∀ (σ : L2.St) (H : Hp) (M : Pl) (env : Ev) (S : Sto) (Q : List V → Hp → Prop), RelE X.K H M env σ → RelS X.K H M S →
  WPA X.K X.mg H M (v env S) Q (fun c d H' => W c d σ H') → t σ H Q

section
variable {X : Cx} {a b c : Expr} {va vb vc : Ev → Sto → R D} {pos : Pos}
theorem de_var {i : Nat} {x : Str} (hN : X.N[i]? = some x) (hv : Vis X.env.scope x) (hd : (x == ("__debug__" : Str)) = false) (hcd : (x == ("__classdict__" : Str)) = false) : DE X (.Name x pos) (fun e S => dVar i e S) := by
  intro W tk
  refine ⟨_, pe_var hN hv hd hcd, fun σ H M env S Q re rs h => ?_⟩
  replace h : WPE X.K X.mg H M (dVar i env S) Q (fun c d H' => W c d σ H') := h
  unfold dVar at h
  cases hi : env[i]? with
  | none => rw [hi] at h; exact h.elim
  | some o =>
    rw [hi] at h
    cases o with
    | none => exact h.elim
    | some d =>
      obtain ⟨v, h1, h2⟩ := re.2 i d hi
      exact ⟨v, h1, h v H M (Ext.refl _ _) rs h2⟩
/-- a constant -/
theorem de_k {d : D} {v : V} {e : Expr} (hp : PE X e (tC v)) (r : ∀ H M, RelD X.K H M d v) : DE X e (fun _ S => .ok d S) := by
  intro W tk
  exact ⟨_, hp, fun σ H M env S Q re rs h => h v H M (Ext.refl _ _) rs (r H M)⟩
theorem de_opt {d : D} {o : Option D} {v : V} {e : Expr} (hp : PE X e (tC v)) (ho : o = some d) (r : ∀ H M, RelD X.K H M d v) : DE X e (fun _ S => R.opt S o) := by
  subst ho
  exact de_k hp r
/-- an operator by values -/
theorem de_op2 {f : D → D → Sto → R D} {e : Expr} (h2 : ∃ r : R2, (∀ ta tb, PE X a ta → PE X b tb → PE X e (tOp r ta tb)) ∧ ∀ (H : Hp) (M : Pl) (S : Sto) (x y : V) (dx dy : D) (Q : VK) (E : XK), RelS X.K H M S → RelD X.K H M dx x → RelD X.K H M dy y →
      WPE X.K X.mg H M (f dx dy S) Q E → r x y H Q) (ha : DE X a va) (hb : DE X b vb) :
    DE X e (fun e S => (va e S).bind fun x S1 => (vb e S1).bind fun y S2 => f x y S2) := by
  intro W tk
  obtain ⟨r, hr, hq⟩ := h2
  obtain ⟨ta, pa, qa⟩ := ha W tk
  obtain ⟨tb, pb, qb⟩ := hb W tk
  refine ⟨_, hr _ _ pa pb, fun σ H M env S Q re rs h => ?_⟩
  refine qa σ H M env S _ re rs (WPE.bind h fun dx S1 x H1 M1 x1 rs1 rx h1 => ?_)
  refine qb σ H1 M1 env S1 _ (re.mono x1) rs1 (WPE.bind h1 fun dy S2 y H2 M2 x2 rs2 ry h2 => ?_)
  exact hq H2 M2 S2 x y dx dy Q _ rs2 (rx.mono x2) ry h2
theorem de_un {f : D → Sto → R D} {e : Expr} {r : V → Hp → VK → Prop} (h1 : ∀ ta, PE X a ta → PE X e (tUn r ta)) (hq : ∀ (H : Hp) (M : Pl) (S : Sto) (x : V) (dx : D) (Q : VK) (E : XK), RelS X.K H M S → RelD X.K H M dx x →
      WPE X.K X.mg H M (f dx S) Q E → r x H Q) (ha : DE X a va) : DE X e (fun e S => (va e S).bind f) := by
  intro W tk
  obtain ⟨ta, pa, qa⟩ := ha W tk
  refine ⟨_, h1 _ pa, fun σ H M env S Q re rs h => ?_⟩
  exact qa σ H M env S _ re rs (WPE.bind h fun dx S1 x H1 M1 x1 rs1 rx h1 => hq H1 M1 S1 x dx Q _ rs1 rx h1)
theorem da_nil : DA X [] (fun _ S => .ok [] S) := by
  intro W tk
  exact ⟨_, pa_nil, fun σ H M env S Q re rs h => h [] H M (Ext.refl _ _) rs .nil⟩
theorem da_cons {e : Expr} {es : List Expr} {v : Ev → Sto → R D} {vs : Ev → Sto → R (List D)} (hs : starEach (e :: es) X.env = (false, eval e X.env) :: starEach es X.env) (ha : DE X e v) (hr : DA X es vs) :
    DA X (e :: es) (fun e S => (v e S).bind fun x S1 => (vs e S1).bind fun xs S2 => .ok (x :: xs) S2) := by
  intro W tk
  obtain ⟨ta, pa, qa⟩ := ha W tk
  obtain ⟨tb, pb, qb⟩ := hr W tk
  refine ⟨_, pa_cons pa pb hs, fun σ H M env S Q re rs h => ?_⟩
  refine qa σ H M env S _ re rs (WPE.bindA h fun dx S1 x H1 M1 x1 rs1 rx h1 => ?_)
  refine qb σ H1 M1 env S1 _ (re.mono x1) rs1 (WPA.bind h1 fun dy S2 y H2 M2 x2 rs2 ry h2 => ?_)
  exact h2 (x :: y) H2 M2 (Ext.refl _ _) rs2 (.cons (rx.mono x2) ry)
/-- a call by values -/
theorem de_args {es : List Expr} {vs : Ev → Sto → R (List D)} {f : List D → Sto → R D} {e : Expr} {r : List V → Hp → VK → Prop} (h1 : ∀ ta, PA X es ta → PE X e (fun σ H Q => ta σ H fun vs H1 => r vs H1 Q))
    (hq : ∀ (H : Hp) (M : Pl) (S : Sto) (xs : List V) (ds : List D) (Q : VK) (E : XK), RelS X.K H M S → RelDs X.K H M ds xs → WPE X.K X.mg H M (f ds S) Q E → r xs H Q) (ha : DA X es vs) :
    DE X e (fun e S => (vs e S).bind f) := by
  intro W tk
  obtain ⟨ta, pa, qa⟩ := ha W tk
  refine ⟨_, h1 _ pa, fun σ H M env S Q re rs h => ?_⟩
  exact qa σ H M env S _ re rs (WPA.bindE h fun dx S1 x H1 M1 x1 rs1 rx h1 => hq H1 M1 S1 x dx Q _ rs1 rx h1)
end
end Pw

set_option Elab.async false
set_option linter.all false
set_option maxRecDepth 100000
namespace Pw
open PySem PySem.Spec PyProof.Rows L2

/-! ## what is read -/
inductive RdD (K : PySem.W.Frag) (H : Hp) (M : Pl) : D → V → Prop
  | non : RdD K H M .non .non
  | bl (b : Bool) : RdD K H M (.bl b) (.bl b)
  | int (i : Int) : RdD K H M (.int i) (.int i)
  | str (x : Str) : RdD K H M (.str x) (.str x)
  | tup {a : Addr} {vs : List V} {ds : List D} : TupAt K H a vs → RelDs K H M ds vs → RdD K H M (.tup ds) (.ref a)
  | lst {a : Addr} {vs : List V} {ds : List D} : SqL K H a vs → RelDs K H M ds vs → RdD K H M (.lst ds) (.ref a)
  | dctK {a : Addr} {kvs : List (Key × V)} {ks ds : List D} : H a = some (.dK kvs) → ks = (kvs.map (·.1)).map kD → RelDs K H M ds (kvs.map (·.2)) → RdD K H M (.dct ks ds) (.ref a)
section
variable {K : PySem.W.Frag} {mg : Str → Option Value} {H H' : Hp} {M M' : Pl} {S : Sto} {E : XK} {Q : VK}
theorem rd_rel (rs : RelS K H M S) {d : D} {v : V} (r : RelD K H M d v) : RdD K H M (rd S d) v := by
  cases r with
  | non => exact .non
  | bl b => exact .bl b
  | int i => exact .int i
  | str x => exact .str x
  | tup h r => exact .tup h r
  | lst h n q r => exact .lst (.inl h) r
  | lstF h r => exact .lst h.sq r
  | dctK h n q e r => exact .dctK h e r
  | @ref l a h =>
    obtain ⟨m, hm⟩ := rs.lt h
    obtain ⟨o, ho, q⟩ := rs.at_ l a m h hm
    rw [rd_ref, hm]
    cases m with
    | lst xs => obtain ⟨vs, rfl, r⟩ := q; exact .lst (.inl (.inl ho)) r
    | dct ks ds =>
      obtain ⟨kvs, rfl, e, r⟩ := q
      exact .dctK ho e r
theorem RdD.sqL {d : List D} {v : V} (r : RdD K H M (.lst d) v) : ∃ a vs, v = .ref a ∧ SqL K H a vs ∧ RelDs K H M d vs := by
  cases r with | lst h r => exact ⟨_, _, rfl, h, r⟩
theorem RdD.sqT {d : List D} {v : V} (r : RdD K H M (.tup d) v) : ∃ a vs, v = .ref a ∧ TupAt K H a vs ∧ RelDs K H M d vs := by
  cases r with | tup h r => exact ⟨_, _, rfl, h, r⟩
theorem RdD.int_ {i : Int} {v : V} (r : RdD K H M (.int i) v) : v = .int i := by cases r; rfl
theorem RdD.str_ {i : Str} {v : V} (r : RdD K H M (.str i) v) : v = .str i := by cases r; rfl
theorem RelD.int_ {i : Int} {v : V} (r : RelD K H M (.int i) v) : v = .int i := by cases r; rfl
theorem RelD.bl_ {i : Bool} {v : V} (r : RelD K H M (.bl i) v) : v = .bl i := by cases r; rfl
theorem RelD.non_ {v : V} (r : RelD K H M .non v) : v = .non := by cases r; rfl
theorem RelD.str_ {i : Str} {v : V} (r : RelD K H M (.str i) v) : v = .str i := by cases r; rfl
theorem RelD.ref_ {l : Nat} {v : V} (r : RelD K H M (.ref l) v) : ∃ a, v = .ref a ∧ M.m[l]? = some a := by cases r with | ref h => exact ⟨_, rfl, h⟩
theorem seqOf_rel (rs : RelS K H M S) {d : D} {v : V} {xs : List D} (r : RelD K H M d v) (h : seqOf S d = some xs) : ∃ a vs, v = .ref a ∧ (SqL K H a vs ∨ TupAt K H a vs) ∧ RelDs K H M xs vs := by
  have q := rd_rel rs r
  unfold seqOf at h
  cases e : rd S d with
  | tup ys => rw [e] at h q; cases h; obtain ⟨a, vs, h1, h2, h3⟩ := q.sqT; exact ⟨a, vs, h1, .inr h2, h3⟩
  | lst ys => rw [e] at h q; cases h; obtain ⟨a, vs, h1, h2, h3⟩ := q.sqL; exact ⟨a, vs, h1, .inl h2, h3⟩
  | _ => rw [e] at h; cases h
theorem lstOf_rel (rs : RelS K H M S) {d : D} {v : V} {xs : List D} (r : RelD K H M d v) (h : lstOf S d = some xs) : ∃ a vs, v = .ref a ∧ SqL K H a vs ∧ RelDs K H M xs vs := by
  have q := rd_rel rs r
  unfold lstOf at h
  cases e : rd S d with
  | lst ys => rw [e] at h q; cases h; exact q.sqL
  | _ => rw [e] at h; cases h
mutual
theorem RelD.dp : ∀ {d : D} {v : V} {p : PyData}, RelD K H M d v → d.toPy = some p → Dp K H v p
  | _, _, _, .non, h => by simp only [D.toPy, Option.some.injEq] at h; subst h; exact .non
  | _, _, _, .bl b, h => by simp only [D.toPy, Option.some.injEq] at h; subst h; exact .bl b
  | _, _, _, .int b, h => by simp only [D.toPy, Option.some.injEq] at h; subst h; exact .int b
  | _, _, _, .str b, h => by simp only [D.toPy, Option.some.injEq] at h; subst h; exact .str b
  | _, _, _, .tup (ds := ds) hs r, h => by
    simp only [D.toPy, Option.map_eq_some_iff] at h
    obtain ⟨ps, h, rfl⟩ := h
    exact .tup hs.sq (RelDs.dp r h)
  | _, _, _, .lst (ds := ds) hs _ _ r, h => by
    simp only [D.toPy, Option.map_eq_some_iff] at h
    obtain ⟨ps, h, rfl⟩ := h
    exact .lst (.inl hs) (RelDs.dp r h)
  | _, _, _, .lstF (ds := ds) hs r, h => by
    simp only [D.toPy, Option.map_eq_some_iff] at h
    obtain ⟨ps, h, rfl⟩ := h
    exact .lst hs.sq (RelDs.dp r h)
  | _, _, _, .dctK _ _ _ _ _, h => by simp [D.toPy] at h
  | _, _, _, .ref _, h => by simp [D.toPy] at h
theorem RelDs.dp : ∀ {ds : List D} {vs : List V} {ps : List PyData}, RelDs K H M ds vs → D.toPys ds = some ps → DpAll K H vs ps
  | _, _, _, .nil, h => by simp only [D.toPys, Option.some.injEq] at h; subst h; exact .nil
  | _, _, _, .cons (d := d) (ds := ds) r rs, h => by
    simp only [D.toPys] at h
    cases h1 : d.toPy with
    | none => rw [h1] at h; cases h
    | some p =>
      cases h2 : D.toPys ds with
      | none => rw [h1, h2] at h; cases h
      | some ps => rw [h1, h2] at h; cases h; exact .cons (RelD.dp r h1) (RelDs.dp rs h2)
end
theorem RdD.dp {d : D} {v : V} {p : PyData} (r : RdD K H M d v) (h : d.toPy = some p) : Dp K H v p := by
  cases r with
  | non => simp only [D.toPy, Option.some.injEq] at h; subst h; exact .non
  | bl b => simp only [D.toPy, Option.some.injEq] at h; subst h; exact .bl b
  | int b => simp only [D.toPy, Option.some.injEq] at h; subst h; exact .int b
  | str b => simp only [D.toPy, Option.some.injEq] at h; subst h; exact .str b
  | tup hs r =>
    simp only [D.toPy, Option.map_eq_some_iff] at h
    obtain ⟨ps, h, rfl⟩ := h
    exact .tup hs.sq (r.dp h)
  | lst hs r =>
    simp only [D.toPy, Option.map_eq_some_iff] at h
    obtain ⟨ps, h, rfl⟩ := h
    exact .lst hs (r.dp h)
  | dctK _ _ _ => simp [D.toPy] at h
/-- a new list: frozen, or put into the store -/
theorem WPE.mkL {bx : Bool} {xs : List D} (rs : RelS K H M S) (h : WPE K mg H M (mkL bx xs S) Q E) : xs.length ≤ sizeLine ∧ ∀ vs p, RelDs K H M xs vs → H p = none → Q (.ref p) (upd H p (.lst vs)) := by
  unfold Pw.mkL at h
  by_cases hl : xs.length ≤ sizeLine
  · rw [if_pos hl] at h
    refine ⟨hl, fun vs p r hp => ?_⟩
    cases bx with
    | false =>
      have np : p ∉ M.m := fun z => by obtain ⟨u, e, _⟩ := rs.tracked z; rw [hp] at e; cases e
      have nr : p ∉ M.r := fun z => by obtain ⟨_, u, e⟩ := rs.apart p z; rw [hp] at e; cases e
      exact h (.ref p) _ M (Ext.new hp) (rs.new hp) (.lst (.inl upd_same) np nr (r.mono (Ext.new hp)))
    | true =>
      refine h (.ref p) _ ⟨M.m ++ [p], M.r⟩ (Ext.newB hp) (rs.newB hp ⟨vs, rfl, r⟩) (.ref ?_)
      show (M.m ++ [p])[S.length]? = some p
      rw [← rs.len, List.getElem?_append_right (Nat.le_refl _)]
      simp
  · rw [if_neg hl] at h; exact h.elim
theorem WPE.ok {d : D} (h : WPE K mg H M (.ok d S) Q E) {v : V} (rs : RelS K H M S) (r : RelD K H M d v) : Q v H := h v H M (Ext.refl _ _) rs r
/-- a new tuple -/
theorem WPE.okT {xs : List D} {vs : List V} (rs : RelS K H M S) (h : WPE K mg H M (.ok (.tup xs) S) Q E) (r : RelDs K H M xs vs) {p : Addr} {o : Obj} (hp : H p = none) (ho : o.dict = none) : Q (.ref p) (upd H p (.frz o (.tup vs))) :=
  h (.ref p) _ M (Ext.new hp) (rs.new hp) (.tup (.inl ⟨o, upd_same, ho⟩) (r.mono (Ext.new hp)))
end

/-! ## tuples, made -/
section
variable {X : Cx} {a b c : Expr} {pos : Pos}
/-- what is wanted of a new tuple -/
def NewT (vs : List V) (H : Hp) (Q : VK) : Prop := ∀ p o, H p = none → o.dict = none → Q (.ref p) (upd H p (.frz o (.tup vs)))
theorem Inv.newT {pins : List (Addr × Obj)} {σ : L2.St} {H : Hp} {s : Shared} {t' : Nat} {vs : List V} {its : List Value} {Q : VK} (I : Inv X pins σ H s) (r : Vals vs its) (hz : vs.length ≤ sizeLine) (q : NewT vs H Q) :
    EP X pins σ Q (.ref s.heap.objs.size) { s with heap := s.heap.push { cls := .type "tuple", data := .seq its.toArray }, toks := t' } := by
  have hf : H s.heap.objs.size = none := I.hok.fresh (Nat.le_refl _)
  refine ⟨.ref s.heap.objs.size, upd H s.heap.objs.size (.frz { cls := .type "tuple", data := .seq its.toArray } (.tup vs)), I.laid (t' := t') (fun b u e => Heap.get?_push_of_some _ e) (Nat.le_refl _) ?_, rfl, q _ _ hf rfl⟩
  exact ⟨Heap.get?_push_size _ rfl, hz, its, r, IsTup.new _ _⟩
def tTupF (t : TA) : TE := fun σ H Q => t σ H fun xs H1 => xs.length ≤ sizeLine ∧ NewT xs H1 Q
theorem pe_tupF {es : List Expr} {t : TA} {x1} (h : PA X es t) : PE X (.Tuple es x1 pos) (tTupF t) := by
  refine ⟨fun pins s σ H Q I hq => ?_⟩
  exact wpAny_Tuple_spliced (thn (h.run pos pins s σ H _ I hq) fun us s1 ⟨xs, H1, I1, r, z, q⟩ => ⟨by rw [← r.length]; exact z, Inv.newT (t' := s1.toks) I1 r z q⟩)
/-- t + u -/
def rCatF (K : PySem.W.Frag) : R2 := fun x y H Q => ∃ a b xs ys, x = .ref a ∧ y = .ref b ∧ SqT K H a xs ∧ SqT K H b ys ∧ xs.length + ys.length ≤ sizeLine ∧
  (xs = [] → Q (.ref b) H) ∧ (xs ≠ [] → ys = [] → Q (.ref a) H) ∧ (xs ≠ [] → ys ≠ [] → NewT (xs ++ ys) H Q)
theorem op_catF : OpR X (binaryOp .Add) (rCatF X.K) := by
  intro pins s σ H x y v u Q I rx ry h
  obtain ⟨a, b, xs, ys, rfl, rfl, ha, hb, hz, q0, q1, q2⟩ := h
  cases rx
  cases ry
  obtain ⟨its, r1, p1, _⟩ := I.tuple ha
  obtain ⟨its2, r2, p2, _⟩ := I.tuple hb
  by_cases hx : xs = []
  · subst hx
    cases r1
    exact cat_tup0 p1 p2 ⟨.ref b, H, I, rfl, q0 rfl⟩
  · refine HT.cat_tup p1 p2 (fun z => hx (r1.nil_iff.mp z)) (fun z => ⟨.ref a, H, I, rfl, q1 hx (r2.nil_iff.mp z)⟩) (fun z => ?_) (by rw [← r1.length, ← r2.length]; exact hz)
    exact Inv.newT (t' := s.toks) I (r1.append r2) (by rw [List.length_append]; exact hz) (q2 hx fun w => z (r2.nil_iff.mpr w))
/-- t[lo:hi] -/
def rSlF (K : PySem.W.Frag) : V → Option Int → Option Int → Hp → VK → Prop := fun x lo hi H Q => ∃ a xs, x = .ref a ∧ SqT K H a xs ∧
  (HT.sIx xs.length 0 lo = 0 ∧ HT.sIx xs.length xs.length hi = xs.length → Q (.ref a) H) ∧ (¬ (HT.sIx xs.length 0 lo = 0 ∧ HT.sIx xs.length xs.length hi = xs.length) → NewT (cutV xs lo hi) H Q)
theorem sl_tupF : SlR X (rSlF X.K) := by
  intro pins s σ H x v vl vu lo hi sl Q I rx hs pl pu h
  obtain ⟨a, xs, rfl, hx, q1, q2⟩ := h
  cases rx
  obtain ⟨its, r, ht, hz⟩ := I.tuple hx
  have hlen : its.toArray.size = xs.length := by rw [List.size_toArray]; exact r.length.symm
  refine ⟨"tuple", _, PyProof.Rows.slot_tuple_getitem.lookup, ht.typeIs, ?_⟩
  by_cases hw : HT.sIx xs.length 0 lo = 0 ∧ HT.sIx xs.length xs.length hi = xs.length
  · exact getItem_tuple_whole ht hs pl pu (by rw [hlen]; exact hw) ⟨.ref a, H, I, rfl, q1 hw⟩
  · refine HT.getItem_tuple_cut ht hs pl pu (by rw [hlen]; exact hw) ?_ (by rw [hlen]; exact hz)
    rw [hlen]
    exact Inv.newT (t' := s.toks) I ((r.drop (HT.sIx xs.length 0 lo)).take (HT.sIx xs.length xs.length hi - HT.sIx xs.length 0 lo)) (Nat.le_trans (cutV_length xs lo hi) hz) (q2 hw)
/-- tuple(xs) -/
theorem call_tupleF : CallR X (.type "tuple") (fun xs H Q => ∃ p ys, xs = [.ref p] ∧ ((SqL X.K H p ys ∧ NewT ys H Q) ∨ (SqT X.K H p ys ∧ Q (.ref p) H))) := by
  intro pins s σ H xs us Q I r h
  obtain ⟨p, ys, rfl, h⟩ := h
  obtain ⟨u, rfl, rx⟩ := vals1 r
  cases rx
  rcases h with ⟨hq, q⟩ | ⟨hq, q⟩
  · obtain ⟨its, r', pl, hz⟩ := I.list hq
    have hlen := r'.length
    refine call_tuple_list pl.isList (fun h' kp => ?_) (by simp only [List.size_toArray] <;> omega)
    have I1 : Inv X pins σ H { s with heap := h' } := I.kept (t' := s.toks) kp
    exact Inv.newT (t' := s.toks) I1 r' hz q
  · obtain ⟨its, r', pl, hz⟩ := I.tuple hq
    exact call_tuple_same pl ⟨.ref p, H, I, rfl, q⟩
/-- t * k -/
def rRepF (K : PySem.W.Frag) : R2 := fun x y H Q => ∃ l k xs, x = .ref l ∧ y = .int k ∧ SqT K H l xs ∧ 1 ≤ k ∧ k ≤ 1000 ∧ xs.length ≤ 1000 ∧ (xs = [] ∨ k = 1 → Q (.ref l) H) ∧ (xs ≠ [] → NewT (List.replicate k.toNat xs).flatten H Q)
theorem tuple_mul0 (l : Addr) (items : Array Value) (n : Nat) (dd : Option Addr) (sl : Array (Option Value)) (x : Int) (u : Tok) (c0 : (decide (x < -(2 ^ 63)) || decide (x ≥ 2 ^ 63)) = false) (c1 : (items.isEmpty || x == 1) = true) :
    Meets (Builtin.«tuple.__mul__» ⟨[.ref l, .int x u], []⟩) (fun _ R s => s.heap.get? l = some { cls := .type "tuple", dict := dd, data := .seq items n, slots := sl } ∧
      R (.ok (.ret (Value.ref l))) s) :=
  .of_wp fun prog w A R s h => by
    obtain ⟨hp, g, d, tk, os⟩ := s
    obtain ⟨hl, h⟩ := h
    have f1 := AutoSeq1.idx_int
    wp_walk using wpAny_loadPart' hl
    repeat (first
      | (refine wpAny_ite_false (decide_eq_false (by rw [c0]; exact Bool.false_ne_true)) ?_; wp_walk using wpAny_loadPart' hl)
      | (refine wpAny_ite_true (decide_eq_true c1) ?_; wp_walk using wpAny_loadPart' hl))
    exact ⟨_, rfl, h⟩
/-- a list times a number -/
theorem int_rmul_list (a : Int) (t : Tok) (l : Addr) (items : Array Value) (n : Nat) (dd : Option Addr) (sl : Array (Option Value)) :
    Meets (Builtin.«int.__rmul__» ⟨[.int a t, .ref l], []⟩) (fun _ R s => s.heap.get? l = some { cls := .type "list", dict := dd, data := .seq items n, slots := sl } ∧ R (.ok (.ret Value.notImplemented)) s) :=
  .of_wp fun prog w A R s h => by obtain ⟨hp, g, d, tk, os⟩ := s; obtain ⟨hl, h⟩ := h; wp_walk using wpAny_loadPart' hl; exact ⟨_, rfl, h⟩
theorem list_mulW (l : Addr) (items : Array Value) (n : Nat) (dd : Option Addr) (sl : Array (Option Value)) (x : Int) (u : Tok) (hc0 : ¬(!Builtin.List.listFitsIndex x) = true) (hc1 : ¬items.size * x.toNat > (2 ^ 63 - 1) / 8) (hc2 : ¬Builtin.List.listTooLong (items.size * x.toNat) = true) :
    Meets (Builtin.«list.__mul__» ⟨[.ref l, .int x u], []⟩) (fun _ R s => s.heap.get? l = some { cls := .type "list", dict := dd, data := .seq items n, slots := sl } ∧ R (.ok (.ret (Value.ref s.heap.objs.size))) { s with heap := s.heap.push { cls := Value.type "list", data := Data.seq (List.foldl (fun x1 x2 => x1 ++ x2) #[] (List.replicate (if items.isEmpty = true then 0 else x.toNat) items)) }, toks := s.toks }) :=
  .of_wp fun prog w A R s h => by
    obtain ⟨hp, g, d, tk, os⟩ := s; obtain ⟨hl, h⟩ := h
    have hsz := AutoListH.joined_fits hc2
    wp_walk using wpAny_loadPart' hl; refine wpAny_ite_false (decide_eq_false (Nat.not_lt.mpr hsz)) ?_; wp_walk using wpAny_loadPart' hl; exact ⟨_, rfl, h⟩
def rRepL (K : PySem.W.Frag) : R2 := fun x y H Q => ∃ l k xs, x = .ref l ∧ y = .int k ∧ SqL K H l xs ∧ 0 ≤ k ∧ k ≤ 1000 ∧ xs.length ≤ 1000 ∧ ∀ p, H p = none → Q (.ref p) (upd H p (.lst (List.replicate k.toNat xs).flatten))
theorem op_repL : OpR X (binaryOp .Mult) (rRepL X.K) := by
  intro pins s σ H x y v u Q I rx ry h
  obtain ⟨l, k, xs, rfl, rfl, hH, h1, h2, hz0, q⟩ := h
  cases rx
  obtain ⟨t, rfl⟩ := ry
  obtain ⟨its, r, ⟨⟨cls, dd, data, sl⟩, n, e, hc, hdn, hd⟩, _⟩ := I.list hH
  simp only at hc hd
  subst hc hd
  have hl := r.length
  have hk : k.toNat ≤ 1000 := by omega
  have hm : xs.length * k.toNat ≤ 1000 * 1000 := Nat.mul_le_mul hz0 hk
  have hz : xs.length * k.toNat ≤ sizeLine := Nat.le_trans hm (by decide)
  have hlen : its.toArray.size * k.toNat ≤ sizeLine := by rw [List.size_toArray, ← hl]; exact hz
  have hcap : ¬ its.toArray.size * k.toNat > (2 ^ 63 - 1) / 8 := by
    have : (sizeLine : Nat) ≤ (2 ^ 63 - 1) / 8 := by decide
    omega
  have hfit : ¬ (!Builtin.List.listFitsIndex k) = true := by
    rw [fitsIndex_both (by omega) (by omega)]
    exact Bool.false_ne_true
  have hlong : ¬ Builtin.List.listTooLong (its.toArray.size * k.toNat) = true := by
    rw [notLongL hlen]
    exact Bool.false_ne_true
  have hnew : List.foldl (fun x1 x2 => x1 ++ x2) #[] (List.replicate (if its.toArray.isEmpty = true then 0 else k.toNat) its.toArray) = (List.replicate k.toNat its).flatten.toArray := by
    have f0 : ∀ m : Nat, List.foldl (fun x1 x2 => x1 ++ x2) #[] (List.replicate m its.toArray) = (List.replicate m its).flatten.toArray := fun m => by
      have := foldl_rep its m []
      rw [List.nil_append] at this
      exact this
    rw [f0]
    cases its with
    | nil => simp
    | cons a r' => rw [if_neg (by simp)]
  refine wpAny_binaryOp_repeat_ref (T := "list") (U := "int") (by decide) ⟨_, e, rfl⟩ (fun s' => typeIs_int s' k t) noFill_list_mul F.fills_int_mul F.slot_int_rmul repeat_list F.slot_int_index.lookup
    (call_meets F.slot_int_rmul (typeIs_int s k t) F.entry_int_rmul (F.args_int_rmul_2 _ _) (int_rmul_list k t l its.toArray n dd sl)
      ⟨e, rfl, ⟨_, e, rfl⟩, call_meets F.slot_list_mul ⟨_, e, rfl⟩ F.entry_list_mul (F.args_list_mul_2 _ _) (list_mulW l its.toArray n dd sl k t hfit hcap hlong) ⟨e, ?_⟩⟩)
  rw [hnew]
  exact ⟨.ref _, _, I.lnew (t' := s.toks) (r.rep k.toNat) (by rw [PyProof.Rows.lm_len_rep_flat, Nat.mul_comm]; exact hz), rfl, q _ I.fresh⟩
end

/-! ## operators -/
section
variable {X : Cx} {a b c : Expr} {pos : Pos}
def rCatG (K : PySem.W.Frag) : R2 := fun x y H Q => ∃ l b xs zs, x = .ref l ∧ y = .ref b ∧ SqL K H l xs ∧ SqL K H b zs ∧ xs.length + zs.length ≤ sizeLine ∧ ∀ p, H p = none → Q (.ref p) (upd H p (.lst (xs ++ zs)))
theorem op_catG : OpR X (binaryOp .Add) (rCatG X.K) := by
  intro pins s σ H x y v u Q I rx ry h
  obtain ⟨l, b, xs, zs, rfl, rfl, hH, hB, hz, q⟩ := h
  cases rx
  cases ry
  obtain ⟨its, r, ⟨⟨cls, dd, data, sl⟩, n, ho, hc, hdn, hd⟩, _⟩ := I.list hH
  obtain ⟨its2, r2, ⟨⟨cls2, dd2, data2, sl2⟩, n2, ho2, hc2, hdn2, hd2⟩, _⟩ := I.list hB
  simp only at hc hd hc2 hd2
  subst hc hd hc2 hd2
  have hl := r.length
  have hl2 := r2.length
  have ea : its.toArray ++ its2.toArray = (its ++ its2).toArray := by simp
  refine concat_meets ⟨_, ho, rfl⟩ ⟨_, ho2, rfl⟩ noFill_list_add seq_list_add PySem.F.slot_list_add PySem.F.entry_list_add (PySem.F.args_list_add_2 _ _) (list_addW l b its.toArray its2.toArray n n2 dd dd2 sl sl2 (by rw [List.size_toArray, List.size_toArray]; omega)) ⟨ho, ho2, ?_⟩
  rw [ea]
  exact ⟨.ref _, _, I.lnew (t' := s.toks) (r.append r2) (by rw [List.length_append]; omega), rfl, q _ I.fresh⟩
def rAddAll (K : PySem.W.Frag) : R2 := fun x y H Q => (∃ i j, x = .int i ∧ y = .int j ∧ Q (.int (i + j)) H) ∨ (∃ i j, x = .str i ∧ y = .str j ∧ i.length + j.length ≤ sizeLine ∧ Q (.str (i ++ j)) H) ∨ rCatF K x y H Q ∨ rCatG K x y H Q
theorem op_addAll : OpR X (binaryOp .Add) (rAddAll X.K) := op_add.or (op_add_str.or (op_catF.or op_catG))
theorem add_ok {bx : Bool} {H : Hp} {M : Pl} {S : Sto} {x y : V} {dx dy : D} {Q : VK} {E : XK} (rs : RelS X.K H M S) (rx : RelD X.K H M dx x) (ry : RelD X.K H M dy y)
    (h : WPE X.K X.mg H M (binop .add bx dx dy S) Q E) : rAddAll X.K x y H Q := by
  replace h : WPE X.K X.mg H M (bAdd bx S (rd S dx) (rd S dy)) Q E := h
  have qx := rd_rel rs rx
  have qy := rd_rel rs ry
  cases ex : rd S dx with
  | int i =>
    rw [ex] at h qx
    cases ey : rd S dy with
    | int j =>
      rw [ey] at h qy
      rw [qx.int_, qy.int_]
      exact .inl ⟨i, j, rfl, rfl, WPE.ok h rs (.int _)⟩
    | _ => rw [ey] at h; exact h.elim
  | str i =>
    rw [ex] at h qx
    cases ey : rd S dy with
    | str j =>
      rw [ey] at h qy
      rw [qx.str_, qy.str_]
      simp only [bAdd] at h
      split at h
      · exact .inr (.inl ⟨i, j, rfl, rfl, ‹_›, WPE.ok h rs (.str _)⟩)
      · exact h.elim
    | _ => rw [ey] at h; exact h.elim
  | tup xs =>
    rw [ex] at h qx
    cases ey : rd S dy with
    | tup ys =>
      rw [ey] at h qy
      obtain ⟨a1, v1, rfl, s1, r1⟩ := qx.sqT
      obtain ⟨a2, v2, rfl, s2, r2⟩ := qy.sqT
      simp only [bAdd] at h
      split at h
      · rename_i hz
        refine .inr (.inr (.inl ⟨a1, a2, v1, v2, rfl, rfl, s1.sq, s2.sq, by rw [← r1.length, ← r2.length]; exact hz, fun e => ?_, fun e1 e2 => ?_, fun _ _ p o hp ho => WPE.okT rs h (r1.append r2) hp ho⟩))
        · subst e
          have : xs = [] := List.length_eq_zero_iff.mp (by rw [r1.length]; rfl)
          subst this
          exact h _ H M (Ext.refl _ _) rs (.tup s2 (by simpa using r2))
        · subst e2
          have : ys = [] := List.length_eq_zero_iff.mp (by rw [r2.length]; rfl)
          subst this
          exact h _ H M (Ext.refl _ _) rs (.tup s1 (by simpa using r1))
      · exact h.elim
    | _ => rw [ey] at h; exact h.elim
  | lst xs =>
    rw [ex] at h qx
    cases ey : rd S dy with
    | lst ys =>
      rw [ey] at h qy
      obtain ⟨a1, v1, rfl, s1, r1⟩ := qx.sqL
      obtain ⟨a2, v2, rfl, s2, r2⟩ := qy.sqL
      simp only [bAdd] at h
      obtain ⟨hl, k⟩ := WPE.mkL rs h
      refine .inr (.inr (.inr ⟨a1, a2, v1, v2, rfl, rfl, s1, s2, ?_, fun p hp => k _ p (r1.append r2) hp⟩))
      rw [← r1.length, ← r2.length, ← List.length_append]
      exact hl
    | _ => rw [ey] at h; exact h.elim
  | _ => rw [ex] at h; exact h.elim
theorem int_ok {f : Int → Int → Option Int} {C : Int → Int → Prop} {g : Int → Int → Int} (hf : ∀ i j k, f i j = some k → C i j ∧ k = g i j) {H : Hp} {M : Pl} {S : Sto} {x y : V} {dx dy : D} {Q : VK} {E : XK} (rs : RelS X.K H M S) (rx : RelD X.K H M dx x) (ry : RelD X.K H M dy y)
    (h : WPE X.K X.mg H M (bInt S f dx dy) Q E) : rI C (fun i j => .int (g i j)) x y H Q := by
  cases dx with
  | int i =>
    cases dy with
    | int j =>
      rw [rx.int_, ry.int_]
      simp only [bInt] at h
      cases e : f i j with
      | none => rw [e] at h; exact h.elim
      | some k =>
        rw [e] at h
        obtain ⟨hc, rfl⟩ := hf i j k e
        exact ⟨i, j, rfl, rfl, hc, WPE.ok h rs (.int _)⟩
    | _ => exact h.elim
  | _ => exact h.elim
end
end Pw

set_option Elab.async false
set_option linter.all false
set_option maxRecDepth 100000
namespace Pw
open PySem PySem.Spec PyProof.Rows L2
section
variable {X : Cx} {H : Hp} {M : Pl} {S : Sto} {Q : VK} {E : XK}
mutual
theorem toPy_plain : ∀ (d : D) (p : PyData), d.toPy = some p → p.plain = true
  | .non, _, h => by simp only [D.toPy, Option.some.injEq] at h; subst h; rfl
  | .bl b, _, h => by simp only [D.toPy, Option.some.injEq] at h; subst h; rfl
  | .int b, _, h => by simp only [D.toPy, Option.some.injEq] at h; subst h; rfl
  | .str b, _, h => by simp only [D.toPy, Option.some.injEq] at h; subst h; rfl
  | .tup xs, _, h => by
    simp only [D.toPy, Option.map_eq_some_iff] at h
    obtain ⟨ps, h, rfl⟩ := h
    simp only [PyData.plain]; exact toPys_plain xs ps h
  | .lst xs, _, h => by
    simp only [D.toPy, Option.map_eq_some_iff] at h
    obtain ⟨ps, h, rfl⟩ := h
    simp only [PyData.plain]; exact toPys_plain xs ps h
  | .dct _ _, _, h => by simp [D.toPy] at h
  | .ref _, _, h => by simp [D.toPy] at h
theorem toPys_plain : ∀ (ds : List D) (ps : List PyData), D.toPys ds = some ps → PyData.plainAll ps = true
  | [], _, h => by simp only [D.toPys, Option.some.injEq] at h; subst h; rfl
  | d :: ds, _, h => by
    simp only [D.toPys] at h
    cases h1 : d.toPy with
    | none => rw [h1] at h; cases h
    | some p =>
      cases h2 : D.toPys ds with
      | none => rw [h1, h2] at h; cases h
      | some ps =>
        rw [h1, h2] at h; cases h
        simp only [PyData.plainAll, toPy_plain d p h1, toPys_plain ds ps h2, Bool.and_self]
end
/-- == and != -/
def rEqP (K : PySem.W.Frag) (ng : Bool) : R2 := fun x y H Q => ∃ p q, Dp K H x p ∧ Dp K H y q ∧ p.plain = true ∧ q.plain = true ∧ min p.depth q.depth ≤ 60 ∧ Q (.bl (if ng then !PyData.eqv p q else PyData.eqv p q)) H
theorem op_eqP (hu : X.A.units + 64 < cLine) : OpR X (compareOp .Eq) (rEqP X.K false) := by
  intro pins s σ H x y v u Q I rx ry h
  obtain ⟨d, e, hd, he, sd, se, hm, q⟩ := h
  obtain ⟨as, r1⟩ := Dp.reads I d x v hd rx
  obtain ⟨bs, r2⟩ := Dp.reads I e y u he ry
  exact SeqAt.eq_plain r1 r2 sd se (by omega) ⟨.bl _, H, I, rfl, q⟩
theorem op_neP (hu : X.A.units + 64 < cLine) : OpR X (compareOp .NotEq) (rEqP X.K true) := by
  intro pins s σ H x y v u Q I rx ry h
  obtain ⟨d, e, hd, he, sd, se, hm, q⟩ := h
  obtain ⟨as, r1⟩ := Dp.reads I d x v hd rx
  obtain ⟨bs, r2⟩ := Dp.reads I e y u he ry
  exact SeqAt.ne_plain r1 r2 sd se (by omega) ⟨.bl _, H, I, rfl, q⟩
theorem deq_ok (rs : RelS X.K H M S) {x y : V} {dx dy : D} (rx : RelD X.K H M dx x) (ry : RelD X.K H M dy y) {k : Bool} (h : deq S dx dy = some k) :
    ∃ p q, Dp X.K H x p ∧ Dp X.K H y q ∧ p.plain = true ∧ q.plain = true ∧ min p.depth q.depth ≤ 60 ∧ k = PyData.eqv p q := by
  unfold deq at h
  cases hp : pyd S dx with
  | none => rw [hp] at h; cases h
  | some p =>
    cases hq : pyd S dy with
    | none => rw [hp, hq] at h; cases h
    | some q =>
      rw [hp, hq] at h
      simp only at h
      split at h
      · cases h
        exact ⟨p, q, (rd_rel rs rx).dp hp, (rd_rel rs ry).dp hq, toPy_plain _ _ hp, toPy_plain _ _ hq, ‹_›, rfl⟩
      · cases h
/-- membership -/
def rInP (K : PySem.W.Frag) (ng : Bool) : R2 := fun x y H Q => ∃ p ps b vs, y = .ref b ∧ Dp K H x p ∧ DpAll K H vs ps ∧ (SqL K H b vs ∨ SqT K H b vs) ∧ p.plain = true ∧ PyData.plainAll ps = true ∧ min (PyData.depthAll ps) p.depth ≤ 60 ∧
  Q (.bl (if ng then !(ps.any fun y => PyData.eqv y p) else ps.any fun y => PyData.eqv y p)) H
theorem op_inP (hu : X.A.units + 64 < cLine) : OpR X (compareOp .In) (rInP X.K false) := by
  intro pins s σ H x y v u Q I rx ry h
  obtain ⟨p, ps, b, vs, rfl, hp, hps, hs, pp, pq, hm, q⟩ := h
  obtain ⟨as, r1⟩ := Dp.reads I p x v hp rx
  rcases hs with hs | hs
  · obtain ⟨bs, r2⟩ := Dp.reads I (.list ps) (.ref b) u (.lst hs hps) ry
    exact SeqAt.in_list_data r2 r1 pq pp (by omega) ⟨.bl _, H, I, rfl, q⟩
  · obtain ⟨bs, r2⟩ := Dp.reads I (.tuple ps) (.ref b) u (.tup hs hps) ry
    exact SeqAt.in_tuple_data r2 r1 pq pp (by omega) ⟨.bl _, H, I, rfl, q⟩
theorem op_notInP (hu : X.A.units + 64 < cLine) : OpR X (compareOp .NotIn) (rInP X.K true) := by
  intro pins s σ H x y v u Q I rx ry h
  obtain ⟨p, ps, b, vs, rfl, hp, hps, hs, pp, pq, hm, q⟩ := h
  obtain ⟨as, r1⟩ := Dp.reads I p x v hp rx
  rcases hs with hs | hs
  · obtain ⟨bs, r2⟩ := Dp.reads I (.list ps) (.ref b) u (.lst hs hps) ry
    exact SeqAt.notIn_list_data r2 r1 pq pp (by omega) ⟨.bl _, H, I, rfl, q⟩
  · obtain ⟨bs, r2⟩ := Dp.reads I (.tuple ps) (.ref b) u (.tup hs hps) ry
    exact SeqAt.notIn_tuple_data r2 r1 pq pp (by omega) ⟨.bl _, H, I, rfl, q⟩
theorem inSeq_ok {α : Type} (rs : RelS X.K H M S) {x : V} {dx : D} (rx : RelD X.K H M dx x) {xs : List D} {vs : List V} (rv : RelDs X.K H M xs vs) {f : List PyData → PyData → Option α} {k : α} (h : inSeq S dx xs f = some k) :
    ∃ p ps, Dp X.K H x p ∧ DpAll X.K H vs ps ∧ p.plain = true ∧ PyData.plainAll ps = true ∧ min (PyData.depthAll ps) p.depth ≤ 60 ∧ f ps p = some k := by
  unfold inSeq at h
  cases hp : pyd S dx with
  | none => rw [hp] at h; cases h
  | some p =>
    cases hq : D.toPys xs with
    | none => rw [hp, hq] at h; cases h
    | some ps =>
      rw [hp, hq] at h
      simp only at h
      split at h
      · exact ⟨p, ps, (rd_rel rs rx).dp hp, rv.dp hq, toPy_plain _ _ hp, toPys_plain _ _ hq, ‹_›, h⟩
      · cases h
/-! ### dicts -/
theorem dkey_kD {d : D} {k : Key} (h : dkey d = some k) : d = kD k := by
  cases d with
  | int i => cases h; rfl
  | str x => cases h; rfl
  | _ => cases h
theorem dkey_of (k : Key) : dkey (kD k) = some k := by cases k <;> rfl
theorem relD_key {d : D} {k : Key} {v : V} (h : dkey d = some k) (r : RelD X.K H M d v) : v = kV k := by
  have := dkey_kD h
  subst this
  cases k with
  | inl i => exact r.int_
  | inr x => exact r.str_
theorem kD_inj {a b : Key} (h : kD a = kD b) : a = b := by
  cases a <;> cases b <;> simp [kD] at h <;> rw [h]
theorem keyEq_iff (k : Key) (d : D) {j : Key} (h : dkey d = some j) : keyEq (kD k) d = decide (k = j) := by
  unfold keyEq
  rw [dkey_of, h]
  simp
/-- d[k] by the relation -/
theorem dGet_ok : ∀ {kvs : List (Key × V)} {ds : List D} {d : D} {k : Key}, dkey d = some k → RelDs X.K H M ds (kvs.map (·.2)) →
    match dGet d ((kvs.map (·.1)).map kD) ds with
    | some r => ∃ v, valV kvs k = some v ∧ RelD X.K H M r v
    | none => valV kvs k = none
  | [], _, d, k, hk, .nil => by simp [dGet, valV]
  | (j, v) :: kvs, _, d, k, hk, .cons r rr => by
    simp only [List.map_cons, dGet, keyEq_iff j d hk]
    by_cases e : j = k
    · simp only [e, decide_true, if_true]
      exact ⟨v, valV_pos rfl, r⟩
    · have ih := dGet_ok (d := d) hk rr
      simp only [e, decide_false, Bool.false_eq_true, if_false]
      rw [valV_neg e]
      exact ih
def rInDk (ng : Bool) : R2 := fun x y H Q => ∃ a o, y = .ref a ∧ DGet H a x o ∧ Q (.bl (if ng then !o.isSome else o.isSome)) H
theorem op_inDk (hu : X.A.units + 64 < cLine) : OpR X (compareOp .In) (rInDk false) := by
  intro pins s σ H x y v u Q I rx ry h
  obtain ⟨a, o, rfl, g, q⟩ := h
  cases ry
  exact d_in (by omega) I g rx fun s3 I3 => ⟨.bl _, H, I3, rfl, q⟩
theorem op_notInDk (hu : X.A.units + 64 < cLine) : OpR X (compareOp .NotIn) (rInDk true) := by
  intro pins s σ H x y v u Q I rx ry h
  obtain ⟨a, o, rfl, g, q⟩ := h
  cases ry
  exact d_notIn (by omega) I g rx fun s3 I3 => ⟨.bl _, H, I3, rfl, q⟩
theorem keyFits_key {d : D} {ks : List D} (h : keyFits d ks = true) : ∃ k, dkey d = some k := by
  unfold keyFits at h
  rw [Bool.and_eq_true] at h
  exact Option.isSome_iff_exists.mp h.1
theorem RdD.dct_ {ks ds : List D} {v : V} (r : RdD X.K H M (.dct ks ds) v) : ∃ a kvs, v = .ref a ∧ H a = some (.dK kvs) ∧ ks = (kvs.map (·.1)).map kD ∧ RelDs X.K H M ds (kvs.map (·.2)) := by
  cases r with | dctK h e r => exact ⟨_, _, rfl, h, e, r⟩

/-! ### a comparison -/
def cOp : COp → CmpOp
  | .eq => .Eq | .ne => .NotEq | .lt => .Lt | .le => .LtE | .gt => .Gt | .ge => .GtE | .isin => .In | .notin => .NotIn
def rLtS : R2 := fun x y H Q => ∃ i j, x = .str i ∧ y = .str j ∧ Q (.bl (decide (i.cps.toList < j.cps.toList))) H
def rInS (ng : Bool) : R2 := fun x y H Q => ∃ i j, x = .str i ∧ y = .str j ∧ Q (.bl (if ng then !(!(Builtin.Str.occurrences j i 0 j.length 1).isEmpty) else !(Builtin.Str.occurrences j i 0 j.length 1).isEmpty)) H
def rCmp (K : PySem.W.Frag) : COp → R2
  | .eq => rEqP K false
  | .ne => rEqP K true
  | .lt => fun x y H Q => (∃ i j, x = .int i ∧ y = .int j ∧ Q (.bl (decide (i < j))) H) ∨ rLtS x y H Q
  | .le => fun x y H Q => (∃ i j, x = .int i ∧ y = .int j ∧ Q (.bl (decide (i ≤ j))) H) ∨ rLeT K x y H Q
  | .gt => rI0 fun i j => .bl (decide (j < i))
  | .ge => rI0 fun i j => .bl (decide (j ≤ i))
  | .isin => fun x y H Q => rInP K false x y H Q ∨ rInDk false x y H Q ∨ rInS false x y H Q
  | .notin => fun x y H Q => rInP K true x y H Q ∨ rInDk true x y H Q ∨ rInS true x y H Q
theorem op_cmp (hu : X.A.units + 64 < cLine) : ∀ o : COp, OpR X (compareOp (cOp o)) (rCmp X.K o)
  | .eq => op_eqP hu
  | .ne => op_neP hu
  | .lt => op_lt.or op_lt_str
  | .le => op_le.or (op_leT (by omega))
  | .gt => op_gt
  | .ge => op_ge
  | .isin => (op_inP hu).or ((op_inDk hu).or op_in_str)
  | .notin => (op_notInP hu).or ((op_notInDk hu).or op_notin_str)
theorem in_ok (rs : RelS X.K H M S) {x y : V} {dx dy : D} (rx : RelD X.K H M dx x) (ry : RelD X.K H M dy y) {k : Bool} (ng : Bool) (h : cmpop .isin dx dy S = some k) (q : Q (.bl (if ng then !k else k)) H) :
    rInP X.K ng x y H Q ∨ rInDk ng x y H Q ∨ rInS ng x y H Q := by
  have qy := rd_rel rs ry
  simp only [cmpop] at h
  cases ey : rd S dy with
  | tup xs =>
    rw [ey] at h qy
    obtain ⟨b, vs, rfl, hs, rv⟩ := qy.sqT
    obtain ⟨p, ps, h1, h2, h3, h4, h5, h6⟩ := inSeq_ok rs rx rv h
    cases h6
    exact .inl ⟨p, ps, b, vs, rfl, h1, h2, .inr hs.sq, h3, h4, h5, q⟩
  | lst xs =>
    rw [ey] at h qy
    obtain ⟨b, vs, rfl, hs, rv⟩ := qy.sqL
    obtain ⟨p, ps, h1, h2, h3, h4, h5, h6⟩ := inSeq_ok rs rx rv h
    cases h6
    exact .inl ⟨p, ps, b, vs, rfl, h1, h2, .inl (hs), h3, h4, h5, q⟩
  | dct ks ds =>
    rw [ey] at h qy
    obtain ⟨a, kvs, rfl, ha, rfl, rv⟩ := qy.dct_
    simp only at h
    split at h
    · rename_i hf
      obtain ⟨kk, hk⟩ := keyFits_key hf
      have hx := relD_key hk rx
      subst hx
      have hg := dGet_ok (kvs := kvs) (d := dx) hk rv
      cases h
      refine .inr (.inl ⟨a, valV kvs kk, rfl, DGet.k ha, ?_⟩)
      cases e : dGet dx ((kvs.map (·.1)).map kD) ds with
      | none => rw [e] at hg q; rw [hg]; exact q
      | some r => rw [e] at hg q; obtain ⟨v, hv, _⟩ := hg; rw [hv]; exact q
    · cases h
  | str z =>
    rw [ey] at h qy
    simp only at h
    cases dx with
    | str w =>
      cases h
      rw [rx.str_, qy.str_]
      exact .inr (.inr ⟨w, z, rfl, rfl, q⟩)
    | _ => cases h
  | _ => rw [ey] at h; cases h
theorem le_ints_rel : ∀ {xs : List D} {ns : List Int} {vs : List V}, ints? xs = some ns → RelDs X.K H M xs vs → vs = ns.map V.int
  | [], ns, _, h, .nil => by cases h; rfl
  | .int i :: xs, ns, _, h, .cons r rr => by
    simp only [ints?, Option.map_eq_some_iff] at h
    obtain ⟨ms, h, rfl⟩ := h
    rw [r.int_, le_ints_rel h rr]
    rfl
theorem cmp_ok (o : COp) (rs : RelS X.K H M S) {x y : V} {dx dy : D} (rx : RelD X.K H M dx x) (ry : RelD X.K H M dy y) {k : Bool} (h : cmpop o dx dy S = some k) (q : Q (.bl k) H) : rCmp X.K o x y H Q := by
  cases o with
  | eq =>
    obtain ⟨p, p', h1, h2, h3, h4, h5, rfl⟩ := deq_ok rs rx ry h
    exact ⟨p, p', h1, h2, h3, h4, h5, q⟩
  | ne =>
    simp only [cmpop, Option.map_eq_some_iff] at h
    obtain ⟨k', h, rfl⟩ := h
    obtain ⟨p, p', h1, h2, h3, h4, h5, rfl⟩ := deq_ok rs rx ry h
    exact ⟨p, p', h1, h2, h3, h4, h5, q⟩
  | lt =>
    cases dx with
    | int i => cases dy with
      | int j => cases h; rw [rx.int_, ry.int_]; exact .inl ⟨i, j, rfl, rfl, q⟩
      | _ => cases h
    | str i => cases dy with
      | str j => cases h; rw [rx.str_, ry.str_]; exact .inr ⟨i, j, rfl, rfl, q⟩
      | _ => cases h
    | _ => cases h
  | le =>
    cases dx with
    | int i => cases dy with
      | int j => cases h; rw [rx.int_, ry.int_]; exact .inl ⟨i, j, rfl, rfl, q⟩
      | _ => cases h
    | tup xs => cases dy with
      | tup ys =>
        simp only [cmpop, Option.bind_eq_some_iff, Option.map_eq_some_iff] at h
        obtain ⟨ns, hn, ms, hm, rfl⟩ := h
        obtain ⟨a1, v1, rfl, s1, r1⟩ := (rd_rel rs rx).sqT
        obtain ⟨a2, v2, rfl, s2, r2⟩ := (rd_rel rs ry).sqT
        rw [le_ints_rel hn r1] at s1
        rw [le_ints_rel hm r2] at s2
        exact .inr ⟨a1, a2, ns, ms, rfl, rfl, s1.sq, s2.sq, q⟩
      | _ => cases h
    | _ => cases h
  | gt =>
    cases dx with
    | int i => cases dy with
      | int j => cases h; rw [rx.int_, ry.int_]; exact ⟨i, j, rfl, rfl, q⟩
      | _ => cases h
    | _ => cases h
  | ge =>
    cases dx with
    | int i => cases dy with
      | int j => cases h; rw [rx.int_, ry.int_]; exact ⟨i, j, rfl, rfl, q⟩
      | _ => cases h
    | _ => cases h
  | isin => exact in_ok (ng := false) rs rx ry h q
  | notin =>
    have e : ∃ k', cmpop .isin dx dy S = some k' ∧ k = !k' := by
      simp only [cmpop] at h ⊢
      cases ey : rd S dy with
      | tup xs => rw [ey] at h; simp only [Option.map_eq_some_iff] at h ⊢; obtain ⟨k', h1, h2⟩ := h; exact ⟨k', h1, h2.symm⟩
      | lst xs => rw [ey] at h; simp only [Option.map_eq_some_iff] at h ⊢; obtain ⟨k', h1, h2⟩ := h; exact ⟨k', h1, h2.symm⟩
      | dct ks vs =>
        rw [ey] at h
        simp only at h ⊢
        split at h
        · rename_i hf; rw [if_pos hf]; cases h; exact ⟨_, rfl, rfl⟩
        · cases h
      | str z =>
        rw [ey] at h
        cases dx with
        | str w => cases h; exact ⟨_, rfl, rfl⟩
        | _ => cases h
      | _ => rw [ey] at h; cases h
    obtain ⟨k', h1, rfl⟩ := e
    exact in_ok (ng := true) rs rx ry h1 q
end
end Pw

set_option Elab.async false
set_option linter.all false
set_option maxRecDepth 100000
namespace TR
open PySem PySem.Spec PyProof.Rows L2 HT PySem.Calls PySem.P
section
variable {prog : Program} {w : World} {A : Around} {E : Value → Shared → Prop} {s : Shared}
theorem adjust_rev (n : Nat) : Builtin.Slice.sliceAdjust none none (-1) (n : Int) = ((n : Int) - 1, -1) := rfl
theorem places_rev (n : Nat) : Builtin.Slice.slicePlaces ((n : Int) - 1) (-1) (-1) = n := by
  unfold Builtin.Slice.slicePlaces
  have h1 : ¬ ((-1 : Int) > 0) := by decide
  have e : (- -1 : Int) = 1 := by decide
  simp only [h1, if_false, e, Int.ediv_one]
  split <;> omega
theorem sliceApplied_rev {sl : Addr} {vk : Value} {n : Nat} {Q : Int × Int × Nat → Shared → Prop} (hs : s.heap.IsSliceOf sl .none .none vk) (pk : IsPart vk (some (-1)))
    (h : Q ((n : Int) - 1, -1, n) s) : wpAny (model prog w) A (Builtin.Slice.sliceApplied (.ref sl) (pure (n : Int))) Q E s := by
  obtain ⟨os, hos, hcs, hds⟩ := id hs
  unfold Builtin.Slice.sliceApplied Builtin.Slice.sliceFields
  refine wpAny_bind (wpAny_bind (wpAny_field hos hds (x := .none) rfl (wpAny_bind (wpAny_field hos hds (x := .none) rfl (wpAny_bind (wpAny_field hos hds (x := vk) rfl (wpAny_pure ?_)))))))
  refine wpAny_bind (slicePart_ pk ?_)
  show wpAny _ _ (if ((-1 : Int) == 0) = true then _ else _) _ _ s
  rw [if_neg (by decide)]
  refine wpAny_bind (slicePart_none (wpAny_bind (slicePart_none (wpAny_bind (wpAny_pure ?_)))))
  show wpAny _ _ (match Builtin.Slice.sliceAdjust none none (-1) (n : Int) with | (lo, hi) => pure (lo, (-1 : Int), Builtin.Slice.slicePlaces lo hi (-1))) _ _ s
  rw [adjust_rev n]
  show wpAny _ _ (pure ((n : Int) - 1, (-1 : Int), Builtin.Slice.slicePlaces ((n : Int) - 1) (-1) (-1))) _ _ s
  rw [places_rev]
  exact wpAny_pure h
theorem fmc {α β : Type} {f g : α → Option β} : ∀ (l : List α), (∀ x ∈ l, f x = g x) → l.filterMap f = l.filterMap g
  | [], _ => rfl
  | a :: l, h => by
    rw [List.filterMap_cons, List.filterMap_cons, h a List.mem_cons_self, fmc l fun x hx => h x (List.mem_cons_of_mem _ hx)]
theorem pick_rev (xs : Array Value) : ((List.range xs.size).filterMap fun (m : Nat) => xs[((xs.size : Int) - 1 + (m : Int) * -1).toNat]?).toArray = xs.toList.reverse.toArray := by
  congr 1
  have e : (List.range xs.size).filterMap (fun (m : Nat) => xs[((xs.size : Int) - 1 + (m : Int) * -1).toNat]?) = ((List.range xs.size).map fun k => xs.size - 1 - k).filterMap (xs[·]?) := by
    rw [List.filterMap_map]
    refine fmc _ fun m hm => ?_
    have hm' := List.mem_range.mp hm
    have : ((xs.size : Int) - 1 + (m : Int) * -1).toNat = xs.size - 1 - m := by omega
    rw [this]; rfl
  rw [e, PySem.W.krv_range, List.filterMap_reverse, PySem.W.krv_all]
theorem getItem_tuple_rev {t sl : Addr} {items : Array Value} {vk : Value} {Q : Value → Shared → Prop} (ht : IsTup s.heap t items) (hs : s.heap.IsSliceOf sl .none .none vk) (pk : IsPart vk (some (-1)))
    (h : Q (.ref s.heap.objs.size) { s with heap := s.heap.push { cls := .type "tuple", data := .seq items.toList.reverse.toArray } })
    (hsz : items.size ≤ sizeLine) : wpAny (model prog w) A (getItem (.ref t) (.ref sl)) Q E s := by
  have htake : sizeOk (.seq items.toList.reverse.toArray) := by
    show items.toList.reverse.toArray.size ≤ sizeLine
    rw [List.size_toArray, List.length_reverse, Array.length_toList]
    omega
  obtain ⟨os, hos, hcs, hds⟩ := id hs
  have hTs : s.TypeIs (.ref sl) "slice" := ⟨os, hos, hcs⟩
  unfold getItem
  try with_reducible refine wpAny_holding ?_
  first | refine wpAny_bind (wpAny_pure ?_) | skip
  refine wpAny_bind (wpAny_sequenceKey ht.typeIs (by decide) ?_)
  refine wpAny_bind (wpAny_callSpecial?_slot (name := Str.ofString "__getitem__") ht.typeIs PyProof.Rows.slot_tuple_getitem
    (wpAny_call_entry PyProof.Rows.slot_tuple_getitem ht.typeIs entry_tuple_getitem ?_ (args_tuple_getitem _ _)))
  show wpAny _ _ (Builtin.Tuple.tupleItemsOf (.ref t) >>= _) _ _ s
  refine wpAny_bind (tupleItemsOf_ ht ?_)
  refine wpAny_bind (wpAny_typeOf hTs ?_)
  rw [if_pos (by decide)]
  refine wpAny_bind (sliceApplied_rev hs pk ?_)
  have hno : ¬ ((((items.size : Int) - 1) == 0 && (-1 : Int) == 1 && items.size == items.size) = true) := by
    intro q
    rw [Bool.and_eq_true, Bool.and_eq_true] at q
    exact absurd (eq_of_beq q.1.2) (by decide)
  show wpAny _ _ (if (((items.size : Int) - 1) == 0 && (-1 : Int) == 1 && items.size == items.size) = true then _ else _) _ _ s
  rw [if_neg hno, pick_rev]
  first
    | exact wpAny_bind (m := Builtin.Tuple.tupleExact _) (wpAny_newObj_type (wpAny_pure ⟨_, rfl, wpAny_pure h⟩) htake)
    | exact wpAny_bind (m := Builtin.Tuple.tupleExact _) (wpAny_newObj_type (wpAny_bind (wpAny_pure (wpAny_pure ⟨_, rfl, wpAny_pure h⟩))) htake)
    | exact wpAny_bind (wpAny_bind (m := Builtin.Tuple.tupleExact _) (wpAny_newObj_type (wpAny_pure (wpAny_pure ⟨_, rfl, wpAny_pure h⟩)) htake))
    | exact wpAny_bind (wpAny_bind (m := Builtin.Tuple.tupleExact _) (wpAny_newObj_type (wpAny_pure ⟨_, rfl, wpAny_pure h⟩) htake))
end
end TR
namespace Pw
open PySem PySem.Spec PyProof.Rows L2
section
variable {X : Cx} {a b c : Expr} {va vb vc : Ev → Sto → R D} {ua ub uc : Ev → Sto → R Bool} {pos : Pos}
/-! ### the reverse of a list, of a tuple -/
def tRevA (K : PySem.W.Frag) (te : TE) : TE := tUn (fun x H1 Q => (∃ a xs, x = .ref a ∧ SqL K H1 a xs ∧ ∀ p, H1 p = none → Q (.ref p) (upd H1 p (.lst xs.reverse))) ∨ (∃ a xs, x = .ref a ∧ SqT K H1 a xs ∧ NewT xs.reverse H1 Q)) te
theorem pe_revA {e : Expr} {te : TE} {k : Nat} {p1 p2 p3 pos : Pos} (he : PE X e te) : PE X (.Subscript e (.Slice none none (some (.UnaryOp .USub (.Constant (.int 1) k p1) p2)) p3) pos) (tRevA X.K te) := by
  refine ⟨fun pins s σ H Q I h => ?_⟩
  refine Subscript_ (thn (he.run pins s σ H _ I h) fun v s1 ⟨x, H1, I1, r1, q1⟩ => ?_)
  have hst : PO X (some (.UnaryOp .USub (.Constant (.int 1) k p1) p2)) (tPart (tUn (rU fun i => .int (-i)) (tC (.int 1)))) := po_some (pe_un un_neg pe_int)
  refine wpAny_Slice (thn (po_none.run pins s1 σ H1 (fun o H2 => o = none ∧ H2 = H1) I1 ⟨rfl, rfl⟩) fun vl s2 ⟨l, H2, I2, pl, el, e2⟩ => ?_)
  subst el e2
  refine thn (po_none.run pins s2 σ H2 (fun o H3 => o = none ∧ H3 = H2) I2 ⟨rfl, rfl⟩) fun vu s3 ⟨u, H3, I3, pu, eu, e3⟩ => ?_
  subst eu e3
  refine thn (hst.run pins s3 σ H3 (fun o H4 => o = some (-1) ∧ H4 = H3) I3 ⟨1, rfl, -1, rfl, rfl, rfl⟩) fun vs s4 ⟨o, H4, I4, ps, eo, e4⟩ => ?_
  subst eo e4
  have I5 : Inv X pins σ H4 { s4 with heap := s4.heap.push { cls := .type "slice", data := .fields #[vl, vu, vs] } } := I4.kept (t' := s4.toks) fun b ob q => Heap.get?_push_of_some _ q
  rcases q1 with ⟨a, xs, ex, hx, q⟩ | ⟨a, xs, ex, hx, q⟩
  · subst ex
    cases r1
    obtain ⟨its, r, ht, hz⟩ := I5.list hx
    have hlen := r.length
    show wpAny (model X.prog X.w) X.A (subscriptTail e (.Slice none none (some (.UnaryOp .USub (.Constant (.int 1) k p1) p2)) p3) (.ref a) (.ref s4.heap.objs.size)) (EP X pins σ Q) X.xe { s4 with heap := s4.heap.push { cls := .type "slice", data := .fields #[vl, vu, vs] } }
    refine tail_any (ops := [.ref a, .ref s4.heap.objs.size]) ht.isList.typeIs (PySem.slot_list_getitem.lookup) ?_ (by with_unfolding_all rfl)
    refine wpAny_getItem_list_slice ht.isList (Heap.IsSliceOf.new _ vl vu vs) pl pu ps (by decide) ?_ (by rw [List.size_toArray]; omega)
    rw [PySem.W.krv_pick]
    refine ⟨.ref _, _, I5.laid (t' := s4.toks) (o := .lst xs.reverse) (fun b ob q => Heap.get?_push_of_some _ q) (Nat.le_refl _) ?_, rfl, q _ (I5.hok.fresh (Nat.le_refl _))⟩
    refine ⟨by rw [List.length_reverse]; omega, its.reverse, 0, r.reverse, ?_⟩
    rw [List.toList_toArray]
    exact Heap.get?_push_size _ rfl
  · subst ex
    cases r1
    obtain ⟨its, r, ht, hz⟩ := I5.tuple hx
    have hlen := r.length
    cases pl
    cases pu
    show wpAny (model X.prog X.w) X.A (subscriptTail e (.Slice none none (some (.UnaryOp .USub (.Constant (.int 1) k p1) p2)) p3) (.ref a) (.ref s4.heap.objs.size)) (EP X pins σ Q) X.xe { s4 with heap := s4.heap.push { cls := .type "slice", data := .fields #[.none, .none, vs] } }
    refine tail_any (ops := [.ref a, .ref s4.heap.objs.size]) ht.typeIs (PyProof.Rows.slot_tuple_getitem.lookup) ?_ (by with_unfolding_all rfl)
    refine TR.getItem_tuple_rev ht (Heap.IsSliceOf.new _ .none .none vs) ps ?_ (by rw [List.size_toArray]; omega)
    rw [List.toList_toArray]
    exact Inv.newT (t' := s4.toks) I5 r.reverse (by rw [List.length_reverse]; omega) q
end
end Pw

set_option Elab.async false
set_option linter.all false
set_option maxRecDepth 100000
set_option maxHeartbeats 1000000
namespace Pw
open PySem PySem.Spec PyProof.Rows L2
section
variable {X : Cx} {H : Hp} {M : Pl} {S : Sto} {Q : VK} {E : XK}
theorem op_repF : OpR X (binaryOp .Mult) (rRepF X.K) := by
  intro pins s σ H x y v u Q I rx ry h
  obtain ⟨l, k, xs, rfl, rfl, hT, h1, h2, hz, q0, q⟩ := h
  cases rx
  obtain ⟨t, rfl⟩ := ry
  obtain ⟨its, r, ⟨⟨cls, dd, data, sl⟩, ho, hc, n, hd⟩, hs⟩ := I.tuple hT
  simp only at hc hd
  subst hc hd
  have hle : its.length = xs.length := r.length.symm
  have c0 : (decide (k < -(2 ^ 63)) || decide (k ≥ 2 ^ 63)) = false := by
    rw [decide_eq_false (by omega), decide_eq_false (by omega)] <;> rfl
  by_cases hx : xs = [] ∨ k = 1
  · have c1 : (its.toArray.isEmpty || k == 1) = true := by
      rcases hx with hx | hx
      · have hn : its = [] := by rw [hx] at hle; exact List.eq_nil_of_length_eq_zero hle
        rw [hn]; rfl
      · rw [hx]; simp
    exact wpAny_binaryOp_repeat_ref (T := "tuple") (U := "int") (by decide) ⟨_, ho, rfl⟩ (fun s' => typeIs_int s' k t) noFill_tuple_mul F.fills_int_mul F.slot_int_rmul repeat_tuple F.slot_int_index.lookup
      (call_meets F.slot_int_rmul (typeIs_int s k t) F.entry_int_rmul (F.args_int_rmul_2 _ _) (int_rmul_tuple k t l its.toArray n dd sl)
        ⟨ho, rfl, ⟨_, ho, rfl⟩, call_meets F.slot_tuple_mul ⟨_, ho, rfl⟩ F.entry_tuple_mul (F.args_tuple_mul_2 _ _) (tuple_mul0 l its.toArray n dd sl k t c0 c1) ⟨ho, .ref l, H, I, rfl, q0 hx⟩⟩)
  · obtain ⟨hx, hk1⟩ := not_or.mp hx
    have hn : its ≠ [] := fun e => hx (by
      rw [e] at hle
      exact List.eq_nil_of_length_eq_zero hle.symm)
    have hi : its.toArray.isEmpty = false := by
      cases its with
      | nil => exact absurd rfl hn
      | cons a b => rfl
    have hsz0 : its.toArray.size = xs.length := by rw [List.size_toArray, hle]
    have hm : ((its.toArray.size : Nat) : Int) * k ≤ 1000000 := by
      rw [hsz0]
      have a1 : ((xs.length : Nat) : Int) * k ≤ 1000 * k := Int.mul_le_mul_of_nonneg_right (by omega) (by omega)
      omega
    have flen : (List.replicate k.toNat its).flatten.length ≤ sizeLine := by
      rw [PyProof.Rows.lm_len_rep_flat, hle, sizeLine_eq]
      have a1 : k.toNat * xs.length ≤ 1000 * 1000 := Nat.mul_le_mul (by omega) hz
      omega
    have c1 : (its.toArray.isEmpty || k == 1) = false := by
      rw [hi, Bool.false_or]
      exact beq_eq_false_iff_ne.mpr (by omega)
    have c2 : (decide (k ≤ 0) || its.toArray.isEmpty) = false := by
      rw [hi, Bool.or_false]
      exact decide_eq_false (by omega)
    have c4 : Builtin.Tuple.tupleTooMany (((its.toArray.size : Nat) : Int) * k) = false := by
      unfold Builtin.Tuple.tupleTooMany
      rw [sizeLine_eq]
      exact decide_eq_false (by omega)
    refine wpAny_binaryOp_repeat_ref (T := "tuple") (U := "int") (by decide) ⟨_, ho, rfl⟩ (fun s' => typeIs_int s' k t) noFill_tuple_mul F.fills_int_mul F.slot_int_rmul repeat_tuple F.slot_int_index.lookup
      (call_meets F.slot_int_rmul (typeIs_int s k t) F.entry_int_rmul (F.args_int_rmul_2 _ _) (int_rmul_tuple k t l its.toArray n dd sl)
        ⟨ho, rfl, ⟨_, ho, rfl⟩, call_meets F.slot_tuple_mul ⟨_, ho, rfl⟩ F.entry_tuple_mul (F.args_tuple_mul_2 _ _) (tuple_mulW l its.toArray n dd sl k t c0 c1 c2 (by omega) c4 (by rw [size_rep, List.size_toArray]; exact flen)) ⟨ho, ?_⟩⟩)
    rw [size_rep]
    exact Inv.newT (t' := s.toks) I (r.rep k.toNat) (by rw [PyProof.Rows.lm_len_rep_flat, sizeLine_eq]; have a1 : k.toNat * xs.length ≤ 1000 * 1000 := Nat.mul_le_mul (by omega) hz; omega) (q hx)
/-! ### binary operators -/
def bOp : BOp → Operator
  | .add => .Add | .sub => .Sub | .mul => .Mult | .fdiv => .FloorDiv | .mod => .Mod | .pow => .Pow
def CMulA (i j : Int) : Prop := CMul i j ∨ CMulW i j
def rBin (K : PySem.W.Frag) : BOp → R2
  | .add => rAddAll K
  | .sub => rI0 fun i j => .int (i - j)
  | .mul => fun x y H Q => rI CMul (fun i j => .int (i * j)) x y H Q ∨ rI CMulW (fun i j => .int (i * j)) x y H Q ∨ rRepF K x y H Q ∨ rRepL K x y H Q
  | .fdiv => rI CDiv fun i j => .int (i / j)
  | .mod => rI (fun _ j => 0 < j) fun i j => .int (i % j)
  | .pow => rI CPow fun i j => .int (i ^ j.toNat)
theorem op_bin : ∀ o : BOp, OpR X (binaryOp (bOp o)) (rBin X.K o)
  | .add => op_addAll
  | .sub => op_sub
  | .mul => op_mul.or (op_mulW.or (op_repF.or op_repL))
  | .fdiv => op_fdiv
  | .mod => op_mod
  | .pow => op_pow
theorem rep_rel : ∀ {ds : List D} {vs : List V}, RelDs X.K H M ds vs → ∀ k : Nat, RelDs X.K H M (List.replicate k ds).flatten (List.replicate k vs).flatten
  | ds, vs, r, 0 => .nil
  | ds, vs, r, k + 1 => by
    rw [List.replicate_succ, List.replicate_succ, List.flatten_cons, List.flatten_cons]
    exact r.append (rep_rel r k)
theorem bin_ok (o : BOp) (bx : Bool) (rs : RelS X.K H M S) {x y : V} {dx dy : D} (rx : RelD X.K H M dx x) (ry : RelD X.K H M dy y) (h : WPE X.K X.mg H M (binop o bx dx dy S) Q E) : rBin X.K o x y H Q := by
  cases o with
  | add => exact add_ok rs rx ry h
  | sub =>
    obtain ⟨i, j, h1, h2, _, q⟩ := int_ok (C := fun _ _ => True) (g := fun i j => i - j) (fun i j k e => ⟨trivial, (Option.some.inj e).symm⟩) rs rx ry h
    exact ⟨i, j, h1, h2, q⟩
  | mul =>
    replace h : WPE X.K X.mg H M (bMul bx S (rd S dx) (rd S dy)) Q E := h
    have qx := rd_rel rs rx
    have qy := rd_rel rs ry
    cases ex : rd S dx with
    | int i =>
      rw [ex] at h qx
      cases ey : rd S dy with
      | int j =>
        rw [ey] at h qy
        rw [qx.int_, qy.int_]
        simp only [bMul] at h
        split at h
        · rename_i hm
          have q := WPE.ok h rs (.int (i * j))
          unfold mulOk at hm
          simp only [Bool.or_eq_true, Bool.and_eq_true, decide_eq_true_eq, Pw.small64] at hm
          rcases hm with (hm | hm) | hm
          · exact .inl ⟨i, j, rfl, rfl, .inl hm, q⟩
          · exact .inl ⟨i, j, rfl, rfl, .inr hm, q⟩
          · exact .inr (.inl ⟨i, j, rfl, rfl, wide_mul hm.1 hm.2 (by decide) (by decide) (by decide), q⟩)
        · exact h.elim
      | _ => rw [ey] at h; exact h.elim
    | tup xs =>
      rw [ex] at h qx
      cases ey : rd S dy with
      | int j =>
        rw [ey] at h qy
        obtain ⟨a1, v1, rfl, s1, r1⟩ := qx.sqT
        rw [qy.int_]
        simp only [bMul] at h
        split at h
        · rename_i hm
          refine .inr (.inr (.inl ⟨a1, j, v1, rfl, rfl, s1.sq, hm.1, hm.2.1, by rw [← r1.length]; exact hm.2.2, fun e => ?_, fun _ p o hp ho => WPE.okT rs h (rep_rel r1 _) hp ho⟩))
          rcases e with e | e
          · subst e
            have : xs = [] := List.length_eq_zero_iff.mp (by rw [r1.length]; rfl)
            subst this
            have e0 : (List.replicate j.toNat ([] : List D)).flatten = [] := by simp
            rw [e0] at h
            exact WPE.ok h rs (.tup s1 .nil)
          · subst e
            have e0 : (List.replicate (1 : Int).toNat xs).flatten = xs := by simp
            rw [e0] at h
            exact WPE.ok h rs (.tup s1 r1)
        · exact h.elim
      | _ => rw [ey] at h; exact h.elim
    | lst xs =>
      rw [ex] at h qx
      cases ey : rd S dy with
      | int j =>
        rw [ey] at h qy
        obtain ⟨a1, v1, rfl, s1, r1⟩ := qx.sqL
        rw [qy.int_]
        simp only [bMul] at h
        split at h
        · rename_i hm
          obtain ⟨hl, k⟩ := WPE.mkL rs h
          exact .inr (.inr (.inr ⟨a1, j, v1, rfl, rfl, s1, hm.1, hm.2.1, by rw [← r1.length]; exact hm.2.2, fun p hp => k _ p (rep_rel r1 _) hp⟩))
        · exact h.elim
      | _ => rw [ey] at h; exact h.elim
    | _ => rw [ex] at h; exact h.elim
  | fdiv =>
    exact int_ok (C := CDiv) (g := fun i j => i / j) (fun i j k e => by split at e <;> cases e; exact ⟨‹_›, rfl⟩) rs rx ry h
  | mod =>
    exact int_ok (C := fun _ j => 0 < j) (g := fun i j => i % j) (fun i j k e => by split at e <;> cases e; exact ⟨‹_›, rfl⟩) rs rx ry h
  | pow =>
    exact int_ok (C := CPow) (g := fun i j => i ^ j.toNat) (fun i j k e => by split at e <;> cases e; exact ⟨‹_›, rfl⟩) rs rx ry h
variable {a b c : Expr} {va vb vc : Ev → Sto → R D} {ua ub uc : Ev → Sto → R Bool} {pos : Pos}
theorem de_bin (o : BOp) (bx : Bool) (ha : DE X a va) (hb : DE X b vb) : DE X (.BinOp a (bOp o) b pos) (fun e S => (va e S).bind fun x S1 => (vb e S1).bind fun y S2 => binop o bx x y S2) :=
  de_op2 ⟨rBin X.K o, fun _ _ pa pb => pe_op (op_bin o) pa pb, fun H M S x y dx dy Q E rs rx ry h => bin_ok o bx rs rx ry h⟩ ha hb
/-- a truth by the value -/
theorem truth_ok (rs : RelS X.K H M S) {x : V} {d : D} {k : Bool} (r : RelD X.K H M d x) (h : truth S d = some k) : TruV X.K x H k := by
  have q := rd_rel rs r
  unfold truth at h
  cases e : rd S d with
  | non => rw [e] at h q; cases h; cases q; exact rfl
  | bl b => rw [e] at h q; cases h; cases q; exact rfl
  | int i => rw [e] at h q; cases h; cases q; exact rfl
  | str z =>
    rw [e] at h q
    simp only at h
    split at h
    · cases h; cases q; exact ⟨of_decide_eq_true ‹_›, rfl⟩
    · cases h
  | tup xs =>
    rw [e] at h q; cases h
    obtain ⟨a, vs, rfl, hs, r⟩ := q.sqT
    refine .inr (.inl ⟨vs, hs.sq, ?_⟩)
    cases r <;> rfl
  | lst xs =>
    rw [e] at h q; cases h
    obtain ⟨a, vs, rfl, hs, r⟩ := q.sqL
    refine .inl ⟨vs, hs, ?_⟩
    cases r <;> rfl
  | _ => rw [e] at h; cases h
def PlainTest (X : Cx) (a : Expr) : Prop := ∀ whole, isTrue a X.env whole = (do let v ← whole; standAt a.pos; holding [v] (truthy v))
theorem dt_of (he : PlainTest X a) (ha : DE X a va) : DT X a (ofV va).t := by
  intro W tk
  obtain ⟨ta, pa, qa⟩ := ha W tk
  refine ⟨_, pt_truth pa he, fun σ H M env S Q re rs h => ?_⟩
  refine qa σ H M env S _ re rs (WPE.bindT h fun d S1 v H1 M1 x s r h1 => ?_)
  cases e : truth S1 d with
  | none => rw [e] at h1; exact h1.elim
  | some k => rw [e] at h1; exact ⟨k, truth_ok s r e, h1 H1 M1 (Ext.refl _ _) s⟩
/-! ### comparisons -/
theorem de_cmp (hu : X.A.units + 64 < cLine) (o : COp) (hm : behindInMarks (cOp o) b = false) (ha : DE X a va) (hb : DE X b vb) :
    DE X (.Compare a [cOp o] [b] pos) (fun e S => (va e S).bind fun x S1 => (vb e S1).bind fun y S2 => R.opt S2 ((cmpop o x y S2).map .bl)) :=
  de_op2 ⟨rCmp X.K o, fun _ _ pa pb => pe_cmpR (op_cmp hu o) pa pb hm, fun H M S x y dx dy Q E rs rx ry h => by
    cases e : cmpop o dx dy S with
    | none => rw [e] at h; exact h.elim
    | some k => rw [e] at h; exact cmp_ok o rs rx ry e (WPE.ok h rs (.bl k))⟩ ha hb
theorem bind_assoc {α β γ : Type} (r : R α) (f : α → Sto → R β) (g : β → Sto → R γ) : (r.bind f).bind g = r.bind fun a S => (f a S).bind g := by cases r <;> rfl
theorem opt_bl_bind (S : Sto) (o : Option Bool) : ((R.opt S (o.map D.bl)).bind fun x S1 => R.opt S1 (truth S1 x)) = R.opt S o := by cases o <;> rfl
theorem wpt_opt {mg : Str → Option Value} {K : PySem.W.Frag} {H : Hp} {M : Pl} {S : Sto} {o : Option Bool} {Q : Bool → Hp → Prop} {E : XK} (rs : RelS K H M S) (h : WPT K mg H M (R.opt S o) Q E) : ∃ k, o = some k ∧ Q k H := by
  cases o with
  | none => exact h.elim
  | some k => exact ⟨k, rfl, h H M (Ext.refl _ _) rs⟩
/-- an operator by values whose value is a bool, as a test -/
theorem dt_op2 {f : D → D → Sto → Option Bool} {e : Expr} (h2 : ∃ r : R2, (∀ ta tb, PE X a ta → PE X b tb → PT X e (tTest (tOp r ta tb))) ∧ ∀ (H : Hp) (M : Pl) (S : Sto) (x y : V) (dx dy : D) (k : Bool) (Q : VK), RelS X.K H M S → RelD X.K H M dx x → RelD X.K H M dy y →
      f dx dy S = some k → Q (.bl k) H → r x y H Q) (ha : DE X a va) (hb : DE X b vb) :
    DT X e (ofV fun e S => (va e S).bind fun x S1 => (vb e S1).bind fun y S2 => R.opt S2 ((f x y S2).map .bl)).t := by
  intro W tk
  obtain ⟨r, hr, hq⟩ := h2
  obtain ⟨ta, pa, qa⟩ := ha W tk
  obtain ⟨tb, pb, qb⟩ := hb W tk
  refine ⟨_, hr _ _ pa pb, fun σ H M env S Q re rs h => ?_⟩
  replace h : WPT X.K X.mg H M (((va env S).bind fun x S1 => (vb env S1).bind fun y S2 => R.opt S2 ((f x y S2).map .bl)).bind fun x S1 => R.opt S1 (truth S1 x)) Q (fun c d H' => W c d σ H') := h
  rw [bind_assoc] at h
  refine qa σ H M env S _ re rs (WPE.bindT h fun dx S1 x H1 M1 x1 rs1 rx h1 => ?_)
  rw [bind_assoc] at h1
  refine qb σ H1 M1 env S1 _ (re.mono x1) rs1 (WPE.bindT h1 fun dy S2 y H2 M2 x2 rs2 ry h2 => ?_)
  rw [opt_bl_bind] at h2
  obtain ⟨k, e, q⟩ := wpt_opt rs2 h2
  exact hq H2 M2 S2 x y dx dy k _ rs2 (rx.mono x2) ry e ⟨k, rfl, q⟩
theorem dt_cmp (hu : X.A.units + 64 < cLine) (o : COp) (hm : behindInMarks (cOp o) b = false) (ha : DE X a va) (hb : DE X b vb) :
    DT X (.Compare a [cOp o] [b] pos) (ofV fun e S => (va e S).bind fun x S1 => (vb e S1).bind fun y S2 => R.opt S2 ((cmpop o x y S2).map .bl)).t :=
  dt_op2 ⟨rCmp X.K o, fun _ _ pa pb => pt_cmpR (op_cmp hu o) pa pb hm, fun H M S x y dx dy k Q rs rx ry e q => cmp_ok o rs rx ry e q⟩ ha hb
/-- a < b < c -/
theorem de_cmp2 (hu : X.A.units + 64 < cLine) (o o' : COp) (hm : lastMarks [cOp o, cOp o'] [b, c] = false) (ha : DE X a va) (hb : DE X b vb) (hc : DE X c vc) :
    DE X (.Compare a [cOp o, cOp o'] [b, c] pos) (fun e S => (va e S).bind fun x S1 => (vb e S1).bind fun y S2 => dCmp2 o o' x y S2 fun S => vc e S) := by
  intro W tk
  obtain ⟨ta, pa, qa⟩ := ha W tk
  obtain ⟨tb, pb, qb⟩ := hb W tk
  obtain ⟨tc, pc, qc⟩ := hc W tk
  refine ⟨_, pe_chain (op_cmp hu o) (op_cmp hu o') pa pb pc hm, fun σ H M env S Q re rs h => ?_⟩
  refine qa σ H M env S _ re rs (WPE.bind h fun dx S1 x H1 M1 x1 rs1 rx h1 => ?_)
  refine qb σ H1 M1 env S1 _ (re.mono x1) rs1 (WPE.bind h1 fun dy S2 y H2 M2 x2 rs2 ry h2 => ?_)
  unfold dCmp2 at h2
  cases e : cmpop o dx dy S2 with
  | none => rw [e] at h2; exact h2.elim
  | some k =>
    rw [e] at h2
    refine cmp_ok o rs2 (rx.mono x2) ry e ⟨k, rfl, ?_⟩
    cases k with
    | false => exact WPE.ok h2 rs2 (.bl false)
    | true =>
      refine qc σ H2 M2 env S2 _ ((re.mono x1).mono x2) rs2 (WPE.bind h2 fun dz S3 z H3 M3 x3 rs3 rz h3 => ?_)
      cases e' : cmpop o' dy dz S3 with
      | none => rw [e'] at h3; exact h3.elim
      | some k' => rw [e'] at h3; exact cmp_ok o' rs3 (ry.mono x3) rz e' (WPE.ok h3 rs3 (.bl k'))
theorem dt_cmp2 (hu : X.A.units + 64 < cLine) (o o' : COp) (hm : lastMarks [cOp o, cOp o'] [b, c] = false) (ha : DE X a va) (hb : DE X b vb) (hc : DE X c vc) :
    DT X (.Compare a [cOp o, cOp o'] [b, c] pos) (ofV fun e S => (va e S).bind fun x S1 => (vb e S1).bind fun y S2 => dCmp2 o o' x y S2 fun S => vc e S).t := by
  intro W tk
  obtain ⟨ta, pa, qa⟩ := ha W tk
  obtain ⟨tb, pb, qb⟩ := hb W tk
  obtain ⟨tc, pc, qc⟩ := hc W tk
  refine ⟨_, pt_chain (op_cmp hu o) (op_cmp hu o') pa pb pc hm, fun σ H M env S Q re rs h => ?_⟩
  replace h : WPT X.K X.mg H M (((va env S).bind fun x S1 => (vb env S1).bind fun y S2 => dCmp2 o o' x y S2 fun S => vc env S).bind fun x S1 => R.opt S1 (truth S1 x)) Q (fun c d H' => W c d σ H') := h
  rw [bind_assoc] at h
  refine qa σ H M env S _ re rs (WPE.bindT h fun dx S1 x H1 M1 x1 rs1 rx h1 => ?_)
  rw [bind_assoc] at h1
  refine qb σ H1 M1 env S1 _ (re.mono x1) rs1 (WPE.bindT h1 fun dy S2 y H2 M2 x2 rs2 ry h2 => ?_)
  unfold dCmp2 at h2
  cases e : cmpop o dx dy S2 with
  | none => rw [e] at h2; exact h2.elim
  | some k =>
    rw [e] at h2
    refine cmp_ok o rs2 (rx.mono x2) ry e ⟨k, rfl, ?_⟩
    cases k with
    | false =>
      refine ⟨false, rfl, ?_⟩
      exact h2 H2 M2 (Ext.refl _ _) rs2
    | true =>
      simp only at h2
      rw [bind_assoc] at h2
      refine qc σ H2 M2 env S2 _ ((re.mono x1).mono x2) rs2 (WPE.bindT h2 fun dz S3 z H3 M3 x3 rs3 rz h3 => ?_)
      rw [opt_bl_bind] at h3
      obtain ⟨k', e', q⟩ := wpt_opt rs3 h3
      exact cmp_ok o' rs3 (ry.mono x3) rz e' ⟨k', rfl, q⟩
/-! ### is a constant -/
def rIsC (ng : Bool) : R2 := fun x y H Q => (y = .non ∨ ∃ b, y = .bl b) ∧ Q (.bl (if ng then !decide (x = y) else decide (x = y))) H
theorem plain_c {x y : V} {v u : Value} (rx : RelV x v) (ry : RelV y u) (h : y = .non ∨ ∃ b, y = .bl b) : plainIs v u = true ∧ (v == u) = decide (x = y) := by
  rcases h with rfl | ⟨b, rfl⟩
  · cases ry
    cases x with
    | int i => obtain ⟨t, rfl⟩ := rx; exact ⟨rfl, rfl⟩
    | str i => obtain ⟨t, rfl⟩ := rx; exact ⟨rfl, rfl⟩
    | byt i => obtain ⟨t, rfl⟩ := rx; exact ⟨rfl, rfl⟩
    | flt i => obtain ⟨t, rfl⟩ := rx; exact ⟨rfl, rfl⟩
    | _ => cases rx; exact ⟨rfl, rfl⟩
  · cases ry
    cases x with
    | int i => obtain ⟨t, rfl⟩ := rx; exact ⟨rfl, rfl⟩
    | str i => obtain ⟨t, rfl⟩ := rx; exact ⟨rfl, rfl⟩
    | byt i => obtain ⟨t, rfl⟩ := rx; exact ⟨rfl, rfl⟩
    | flt i => obtain ⟨t, rfl⟩ := rx; exact ⟨rfl, rfl⟩
    | bl q =>
      cases rx
      refine ⟨rfl, ?_⟩
      cases q <;> cases b <;> rfl
    | _ => cases rx; exact ⟨rfl, rfl⟩
theorem op_isC : OpR X (compareOp .Is) (rIsC false) := by
  intro pins s σ H x y v u Q I rx ry h
  obtain ⟨hy, q⟩ := h
  obtain ⟨h1, h2⟩ := plain_c rx ry hy
  exact wpAny_is_plain h1 (fin_bl I q h2.symm)
theorem op_notC : OpR X (compareOp .IsNot) (rIsC true) := by
  intro pins s σ H x y v u Q I rx ry h
  obtain ⟨hy, q⟩ := h
  obtain ⟨h1, h2⟩ := plain_c rx ry hy
  exact wpAny_isNot_plain h1 (fin_bl I q (by rw [h2]; rfl))
def cV : D → V
  | .bl b => .bl b
  | _ => .non
theorem is_ok {c d : D} {x : V} {k : Bool} (r : RelD X.K H M d x) (h : isop d c = some k) : k = decide (x = cV c) ∧ (cV c = .non ∨ ∃ b, cV c = .bl b) := by
  cases c with
  | non => cases d <;> cases r <;> cases h <;> exact ⟨rfl, .inl rfl⟩
  | bl p =>
    cases d with
    | bl q =>
      cases r; cases h
      refine ⟨?_, .inr ⟨p, rfl⟩⟩
      show decide (q = p) = decide (V.bl q = V.bl p)
      simp
    | dct _ _ => cases h
    | _ => cases r <;> cases h <;> exact ⟨rfl, .inr ⟨p, rfl⟩⟩
  | _ => cases d <;> cases h
def isE (ng : Bool) : CmpOp := if ng then .IsNot else .Is
theorem op_is (ng : Bool) : OpR X (compareOp (isE ng)) (rIsC ng) := by cases ng; exact op_isC; exact op_notC
theorem de_isk (ng : Bool) (c : D) (hm : behindInMarks (isE ng) b = false) (pb : PE X b (tC (cV c))) (ha : DE X a va) :
    DE X (.Compare a [isE ng] [b] pos) (fun e S => (va e S).bind fun x S1 => R.opt S1 ((isop x c).map fun b => .bl (if ng then !b else b))) := by
  intro W tk
  obtain ⟨ta, pa, qa⟩ := ha W tk
  refine ⟨_, pe_cmpR (op_is ng) pa pb hm, fun σ H M env S Q re rs h => ?_⟩
  refine qa σ H M env S _ re rs (WPE.bind h fun dx S1 x H1 M1 x1 rs1 rx h1 => ?_)
  show rIsC ng x (cV c) H1 Q
  cases e : isop dx c with
  | none => rw [e] at h1; exact h1.elim
  | some k =>
    rw [e] at h1
    obtain ⟨rfl, hc⟩ := is_ok rx e
    exact ⟨hc, WPE.ok h1 rs1 (.bl _)⟩
theorem dt_isk (ng : Bool) (c : D) (hm : behindInMarks (isE ng) b = false) (pb : PE X b (tC (cV c))) (ha : DE X a va) :
    DT X (.Compare a [isE ng] [b] pos) (ofV fun e S => (va e S).bind fun x S1 => R.opt S1 ((isop x c).map fun b => .bl (if ng then !b else b))).t := by
  intro W tk
  obtain ⟨ta, pa, qa⟩ := ha W tk
  refine ⟨_, pt_cmpR (op_is ng) pa pb hm, fun σ H M env S Q re rs h => ?_⟩
  replace h : WPT X.K X.mg H M (((va env S).bind fun x S1 => R.opt S1 ((isop x c).map fun b => .bl (if ng then !b else b))).bind fun x S1 => R.opt S1 (truth S1 x)) Q (fun c d H' => W c d σ H') := h
  rw [bind_assoc] at h
  refine qa σ H M env S _ re rs (WPE.bindT h fun dx S1 x H1 M1 x1 rs1 rx h1 => ?_)
  show rIsC ng x (cV c) H1 (fun x H' => ∃ k, x = V.bl k ∧ Q k H')
  cases e : isop dx c with
  | none => rw [e] at h1; exact h1.elim
  | some k =>
    rw [e] at h1
    obtain ⟨rfl, hc⟩ := is_ok rx e
    exact ⟨hc, _, rfl, h1 H1 M1 (Ext.refl _ _) rs1⟩
/-! ### and, or, not, if -/
theorem de_one {op} (ha : DE X a va) : DE X (.BoolOp op [a] pos) va := fun W tk => let ⟨t, p, q⟩ := ha W tk; ⟨t, pe_one p, q⟩
theorem de_and {r : List Expr} (ha : DE X a va) (hb : DE X (.BoolOp .And (b :: r) pos) vb) : DE X (.BoolOp .And (a :: b :: r) pos) (fun e S => (va e S).bind fun x S1 => dAnd x S1 (vb e S1)) := by
  intro W tk
  obtain ⟨ta, pa, qa⟩ := ha W tk
  obtain ⟨tb, pb, qb⟩ := hb W tk
  refine ⟨_, pe_andT pa pb, fun σ H M env S Q re rs h => ?_⟩
  refine qa σ H M env S _ re rs (WPE.bind h fun dx S1 x H1 M1 x1 rs1 rx h1 => ?_)
  unfold dAnd at h1
  cases e : truth S1 dx with
  | none => rw [e] at h1; exact h1.elim
  | some k =>
    rw [e] at h1
    refine ⟨k, truth_ok rs1 rx e, ?_⟩
    cases k with
    | true => exact qb σ H1 M1 env S1 Q (re.mono x1) rs1 h1
    | false => exact WPE.ok h1 rs1 rx
theorem de_or {r : List Expr} (ha : DE X a va) (hb : DE X (.BoolOp .Or (b :: r) pos) vb) : DE X (.BoolOp .Or (a :: b :: r) pos) (fun e S => (va e S).bind fun x S1 => dOr x S1 (vb e S1)) := by
  intro W tk
  obtain ⟨ta, pa, qa⟩ := ha W tk
  obtain ⟨tb, pb, qb⟩ := hb W tk
  refine ⟨_, pe_orT pa pb, fun σ H M env S Q re rs h => ?_⟩
  refine qa σ H M env S _ re rs (WPE.bind h fun dx S1 x H1 M1 x1 rs1 rx h1 => ?_)
  unfold dOr at h1
  cases e : truth S1 dx with
  | none => rw [e] at h1; exact h1.elim
  | some k =>
    rw [e] at h1
    refine ⟨k, truth_ok rs1 rx e, ?_⟩
    cases k with
    | true => exact WPE.ok h1 rs1 rx
    | false => exact qb σ H1 M1 env S1 Q (re.mono x1) rs1 h1
theorem de_not (ha : DE X a va) : DE X (.UnaryOp .Not a pos) (fun e S => (va e S).bind fun x S1 => R.opt S1 ((truth S1 x).map fun b => .bl (!b))) := by
  intro W tk
  obtain ⟨ta, pa, qa⟩ := ha W tk
  refine ⟨_, pe_notT pa, fun σ H M env S Q re rs h => ?_⟩
  refine qa σ H M env S _ re rs (WPE.bind h fun dx S1 x H1 M1 x1 rs1 rx h1 => ?_)
  cases e : truth S1 dx with
  | none => rw [e] at h1; exact h1.elim
  | some k => rw [e] at h1; exact ⟨k, truth_ok rs1 rx e, WPE.ok h1 rs1 (.bl _)⟩
theorem de_ite (hc : DT X c uc) (ha : DE X a va) (hb : DE X b vb) : DE X (.IfExp c a b pos) (fun e S => (uc e S).bind fun t S1 => if t then va e S1 else vb e S1) := by
  intro W tk
  obtain ⟨tc, pc, qc⟩ := hc W tk
  obtain ⟨ta, pa, qa⟩ := ha W tk
  obtain ⟨tb, pb, qb⟩ := hb W tk
  refine ⟨_, pe_ifExp pc pa pb, fun σ H M env S Q re rs h => ?_⟩
  refine qc σ H M env S _ re rs (WPT.bindE h fun k S1 H1 M1 x1 rs1 h1 => ?_)
  cases k with
  | true => exact qa σ H1 M1 env S1 Q (re.mono x1) rs1 h1
  | false => exact qb σ H1 M1 env S1 Q (re.mono x1) rs1 h1
/-- tests -/
def DW (X : Cx) (e : Expr) (v : Ev → Sto → R Bool) : Prop := ∀ W, Takes X W → ∃ t, PW X e t ∧ ∀ (σ : L2.St) (H : Hp) (M : Pl) (env : Ev) (S : Sto) (Q : Bool → Hp → Prop), RelE X.K H M env σ → RelS X.K H M S →
  WPT X.K X.mg H M (v env S) Q (fun c d H' => W c d σ H') → t σ H Q
theorem DW.dt {e : Expr} {v : Ev → Sto → R Bool} (h : DW X e v) : DT X e v := fun W tk => let ⟨t, p, q⟩ := h W tk; ⟨t, p.pt, q⟩
theorem dw_and1 (ha : DT X a ua) : DW X (.BoolOp .And [a] pos) ua := fun W tk => let ⟨t, p, q⟩ := ha W tk; ⟨t, pw_and1 p, q⟩
theorem dw_or1 (ha : DT X a ua) : DW X (.BoolOp .Or [a] pos) ua := fun W tk => let ⟨t, p, q⟩ := ha W tk; ⟨t, pw_or1 p, q⟩
theorem dw_and {r : List Expr} (ha : DT X a ua) (hb : DW X (.BoolOp .And (b :: r) pos) ub) : DW X (.BoolOp .And (a :: b :: r) pos) (fun e S => (ua e S).bind fun x S1 => if x then ub e S1 else .ok false S1) := by
  intro W tk
  obtain ⟨ta, pa, qa⟩ := ha W tk
  obtain ⟨tb, pb, qb⟩ := hb W tk
  refine ⟨_, pw_and pa pb, fun σ H M env S Q re rs h => ?_⟩
  refine qa σ H M env S _ re rs (WPT.bind h fun k S1 H1 M1 x1 rs1 h1 => ?_)
  cases k with
  | true => exact qb σ H1 M1 env S1 Q (re.mono x1) rs1 h1
  | false => exact h1 H1 M1 (Ext.refl _ _) rs1
theorem dw_or {r : List Expr} (ha : DT X a ua) (hb : DW X (.BoolOp .Or (b :: r) pos) ub) : DW X (.BoolOp .Or (a :: b :: r) pos) (fun e S => (ua e S).bind fun x S1 => if x then .ok true S1 else ub e S1) := by
  intro W tk
  obtain ⟨ta, pa, qa⟩ := ha W tk
  obtain ⟨tb, pb, qb⟩ := hb W tk
  refine ⟨_, pw_or pa pb, fun σ H M env S Q re rs h => ?_⟩
  refine qa σ H M env S _ re rs (WPT.bind h fun k S1 H1 M1 x1 rs1 h1 => ?_)
  cases k with
  | true => exact h1 H1 M1 (Ext.refl _ _) rs1
  | false => exact qb σ H1 M1 env S1 Q (re.mono x1) rs1 h1
theorem dt_not (ha : DT X a ua) : DT X (.UnaryOp .Not a pos) (fun e S => (ua e S).bind fun b S1 => .ok (!b) S1) := by
  intro W tk
  obtain ⟨ta, pa, qa⟩ := ha W tk
  refine ⟨_, pt_not pa, fun σ H M env S Q re rs h => ?_⟩
  exact qa σ H M env S _ re rs (WPT.bind h fun k S1 H1 M1 x1 rs1 h1 => h1 H1 M1 (Ext.refl _ _) rs1)
/-! ### arithmetic of one, subscripts, displays -/
theorem de_neg (ha : DE X a va) : DE X (.UnaryOp .USub a pos) (fun e S => (va e S).bind dNeg) :=
  de_un (fun _ pa => pe_un un_neg pa) (fun H M S x dx Q E rs rx h => by
    cases dx with
    | int i => rw [rx.int_]; exact ⟨i, rfl, WPE.ok h rs (.int _)⟩
    | _ => exact h.elim) ha
def rIxD : R2 := fun x y H Q => ∃ a v, x = .ref a ∧ DGet H a y (some v) ∧ Q v H
theorem ix_dict (hu : X.A.units + 64 < cLine) : IxR X rIxD := by
  intro value slice pins s σ H x y v u Q I rx ry h hs
  obtain ⟨a, w, rfl, g, q⟩ := h
  cases rx
  exact tail_any (dict_typeIs I g) PySem.F.slot_dict_getitem.lookup (d_getItem (by omega) I g ry fun w' s3 I3 rw' => ⟨w, H, I3, rw', q⟩) hs
def rIxAll (K : PySem.W.Frag) : R2 := fun x y H Q => rIx K x y H Q ∨ rIxD x y H Q
theorem ix_all (hu : X.A.units + 64 < cLine) : IxR X (rIxAll X.K) := ix_seq.or (ix_dict hu)
theorem atI_rel {ds : List D} {vs : List V} (r : RelDs X.K H M ds vs) {i : Int} {d : D} (h : atI ds i = some d) : ∃ v, atI vs i = some v ∧ RelD X.K H M d v := by
  unfold atI at h ⊢
  rw [← r.length]
  cases e : ixN ds.length i with
  | none => rw [e] at h; cases h
  | some j => rw [e] at h; exact r.get h
theorem index_ok (rs : RelS X.K H M S) {x y : V} {dx dy d : D} (rx : RelD X.K H M dx x) (ry : RelD X.K H M dy y) (h : Pw.index S dx dy = some d) (q : ∀ v, RelD X.K H M d v → Q v H) : rIxAll X.K x y H Q := by
  have qx := rd_rel rs rx
  unfold Pw.index at h
  cases e : rd S dx with
  | tup xs =>
    rw [e] at h qx
    cases dy with
    | int i =>
      obtain ⟨a, vs, rfl, hs, r⟩ := qx.sqT
      obtain ⟨v, hv, rv⟩ := atI_rel r h
      rw [ry.int_]
      exact .inl (.inr (.inl ⟨a, vs, i, v, rfl, rfl, hs.sq, hv, q v rv⟩))
    | _ => cases h
  | lst xs =>
    rw [e] at h qx
    cases dy with
    | int i =>
      obtain ⟨a, vs, rfl, hs, r⟩ := qx.sqL
      obtain ⟨v, hv, rv⟩ := atI_rel r h
      rw [ry.int_]
      exact .inl (.inl ⟨a, vs, i, v, rfl, rfl, hs, hv, q v rv⟩)
    | _ => cases h
  | str z =>
    rw [e] at h qx
    cases dy with
    | int i =>
      simp only at h
      split at h
      · rename_i hb
        simp only [Option.map_eq_some_iff] at h
        obtain ⟨c, hc, rfl⟩ := h
        rw [ry.int_, qx.str_]
        exact .inl (.inr (.inr ⟨z, i, c, rfl, rfl, of_decide_eq_true hb, hc, q _ (.str _)⟩))
      · cases h
    | _ => cases h
  | dct ks ds =>
    rw [e] at h qx
    obtain ⟨a, kvs, rfl, ha, rfl, rv⟩ := qx.dct_
    simp only at h
    split at h
    · rename_i hf
      obtain ⟨kk, hk⟩ := keyFits_key hf
      have hx := relD_key hk ry
      subst hx
      have hg := dGet_ok (kvs := kvs) (d := dy) hk rv
      rw [h] at hg
      obtain ⟨v, hv, r⟩ := hg
      refine .inr ⟨a, v, rfl, ?_, q v r⟩
      rw [← hv]
      exact DGet.k ha
    · cases h
  | _ => rw [e] at h; cases h
theorem de_ix (hu : X.A.units + 64 < cLine) (hs : PlainIx b) (ha : DE X a va) (hb : DE X b vb) : DE X (.Subscript a b pos) (fun e S => (va e S).bind fun x S1 => (vb e S1).bind fun y S2 => R.opt S2 (Pw.index S2 x y)) :=
  de_op2 ⟨rIxAll X.K, fun _ _ pa pb => pe_ix (ix_all hu) pa pb hs, fun H M S x y dx dy Q E rs rx ry h => by
    obtain ⟨d, e, q⟩ := WPE.opt rs h
    exact index_ok rs rx ry e fun v rv => q v H M (Ext.refl _ _) rs rv⟩ ha hb
/-- a part of a slice -/
def DO (X : Cx) (e : Option Expr) (v : Ev → Sto → R (Option Int)) : Prop :=
  (e = none ∧ v = fun _ S => .ok none S) ∨ ∃ a va, e = some a ∧ DE X a va ∧ v = fun e S => (va e S).bind fun x S1 => R.opt S1 (asInt x)
theorem DO.part {e : Option Expr} {v : Ev → Sto → R (Option Int)} (h : DO X e v) (W : WX) (tk : Takes X W) : ∃ t, PO X e t ∧ ∀ (σ : L2.St) (H : Hp) (M : Pl) (env : Ev) (S : Sto) (f : Option Int → Sto → R D) (Q : VK) (Q' : Option Int → Hp → Prop), RelE X.K H M env σ → RelS X.K H M S →
      WPE X.K X.mg H M ((v env S).bind f) Q (fun c d H' => W c d σ H') → (∀ d S1 H1 M1, Ext H M H1 M1 → RelS X.K H1 M1 S1 → WPE X.K X.mg H1 M1 (f d S1) Q (fun c d H' => W c d σ H') → Q' d H1) → t σ H Q' := by
  rcases h with ⟨rfl, rfl⟩ | ⟨b, vb, rfl, hb, rfl⟩
  · exact ⟨_, po_none, fun σ H M env S f Q Q' re rs h k => k none S H M (Ext.refl _ _) rs h⟩
  · obtain ⟨tb, pb, qb⟩ := hb W tk
    refine ⟨_, po_some pb, fun σ H M env S f Q Q' re rs h k => ?_⟩
    rw [bind_assoc] at h
    refine qb σ H M env S _ re rs (WPE.bind h fun dx S1 x H1 M1 x1 rs1 rx h1 => ?_)
    cases dx with
    | int i => rw [rx.int_]; exact ⟨i, rfl, k _ S1 H1 M1 x1 rs1 h1⟩
    | _ => exact h1.elim
theorem cutV_rel {ds : List D} {vs : List V} (r : RelDs X.K H M ds vs) (lo hi : Option Int) : RelDs X.K H M (cutD ds lo hi) (cutV vs lo hi) := by
  unfold cutD cutV
  rw [← r.length]
  exact (r.drop _).take _
def rSlAll (K : PySem.W.Frag) : V → Option Int → Option Int → Hp → VK → Prop := fun x lo hi H Q => rSlF K x lo hi H Q ∨ rSlL K x lo hi H Q
theorem slice_ok {bx : Bool} (rs : RelS X.K H M S) {x : V} {dx : D} {l u : Option Int} (rx : RelD X.K H M dx x) (h : WPE X.K X.mg H M (slice bx dx l u S) Q E) : rSlAll X.K x l u H Q := by
  have qx := rd_rel rs rx
  unfold slice at h
  cases e : rd S dx with
  | tup xs =>
    rw [e] at h qx
    obtain ⟨a, vs, rfl, hs, r⟩ := qx.sqT
    refine .inl ⟨a, vs, rfl, hs.sq, fun hw => ?_, fun _ p o hp ho => WPE.okT rs h (cutV_rel r l u) hp ho⟩
    refine WPE.ok h rs (.tup hs ?_)
    have : cutD xs l u = xs := by
      unfold cutD
      rw [r.length, hw.1, hw.2, ← r.length, List.drop_zero, Nat.sub_zero, List.take_length]
    rw [this]; exact r
  | lst xs =>
    rw [e] at h qx
    obtain ⟨a, vs, rfl, hs, r⟩ := qx.sqL
    obtain ⟨_, k⟩ := WPE.mkL rs h
    exact .inr ⟨a, vs, rfl, hs, fun p hp => k _ p (cutV_rel r l u) hp⟩
  | _ => rw [e] at h; exact h.elim
theorem de_sl {lo hi : Option Expr} {vl vh : Ev → Sto → R (Option Int)} {bx : Bool} {p2 : Pos} (ha : DE X a va) (hl : DO X lo vl) (hh : DO X hi vh) :
    DE X (.Subscript a (.Slice lo hi none p2) pos) (fun e S => (va e S).bind fun x S1 => (vl e S1).bind fun l S2 => (vh e S2).bind fun h S3 => slice bx x l h S3) := by
  intro W tk
  obtain ⟨ta, pa, qa⟩ := ha W tk
  obtain ⟨tl, pl, ql⟩ := hl.part W tk
  obtain ⟨th, ph, qh⟩ := hh.part W tk
  refine ⟨_, pe_slice (sl_tupF.or sl_list) pa pl ph, fun σ H M env S Q re rs h => ?_⟩
  refine qa σ H M env S _ re rs (WPE.bind h fun dx S1 x H1 M1 x1 rs1 rx h1 => ?_)
  refine ql σ H1 M1 env S1 _ Q _ (re.mono x1) rs1 h1 fun dl S2 H2 M2 x2 rs2 h2 => ?_
  refine qh σ H2 M2 env S2 _ Q _ ((re.mono x1).mono x2) rs2 h2 fun dh S3 H3 M3 x3 rs3 h3 => ?_
  exact slice_ok rs3 ((rx.mono x2).mono x3) h3
theorem de_rev {bx : Bool} {k : Nat} {p1 p2 p3 : Pos} (ha : DE X a va) : DE X (.Subscript a (.Slice none none (some (.UnaryOp .USub (.Constant (.int 1) k p1) p2)) p3) pos) (fun e S => (va e S).bind (revd bx)) :=
  de_un (fun _ pa => pe_revA pa) (fun H M S x dx Q E rs rx h => by
    have qx := rd_rel rs rx
    unfold revd at h
    cases e : rd S dx with
    | tup xs =>
      rw [e] at h qx
      obtain ⟨a, vs, rfl, hs, r⟩ := qx.sqT
      exact .inr ⟨a, vs, rfl, hs.sq, fun p o hp ho => WPE.okT rs h r.reverse hp ho⟩
    | lst xs =>
      rw [e] at h qx
      obtain ⟨a, vs, rfl, hs, r⟩ := qx.sqL
      obtain ⟨_, q⟩ := WPE.mkL rs h
      exact .inl ⟨a, vs, rfl, hs, fun p hp => q _ p r.reverse hp⟩
    | _ => rw [e] at h; exact h.elim) ha
theorem de_tup {es : List Expr} {vs : Ev → Sto → R (List D)} {x1} (h : DA X es vs) : DE X (.Tuple es x1 pos) (fun e S => (vs e S).bind fun xs S1 => if xs.length ≤ sizeLine then .ok (.tup xs) S1 else .bad) :=
  de_args (r := fun xs H1 Q => xs.length ≤ sizeLine ∧ NewT xs H1 Q) (fun _ pa => pe_tupF pa) (fun H M S xs ds Q E rs r h => by
    split at h
    · rename_i hz
      exact ⟨by rw [← r.length]; exact hz, fun p o hp ho => WPE.okT rs h r hp ho⟩
    · exact h.elim) h
theorem de_lst {es : List Expr} {vs : Ev → Sto → R (List D)} {bx : Bool} (h : DA X es vs) : DE X (.List es pos) (fun e S => (vs e S).bind fun xs S1 => mkL bx xs S1) :=
  de_args (r := fun xs H1 Q => xs.length ≤ sizeLine ∧ ∀ p, H1 p = none → Q (.ref p) (upd H1 p (.lst xs))) (fun _ pa => pe_lst pa) (fun H M S xs ds Q E rs r h => by
    obtain ⟨hz, k⟩ := WPE.mkL rs h
    exact ⟨by rw [← r.length]; exact hz, fun p hp => k _ p r hp⟩) h
end
end Pw

set_option Elab.async false
set_option linter.all false
set_option maxRecDepth 100000
set_option maxHeartbeats 1000000
namespace Pw
open PySem PySem.Spec PyProof.Rows L2

/-! ## built-ins -/
def noStar : Expr → Bool
  | .Starred _ _ => false
  | _ => true
theorem starEach_cons {e : Expr} {es : List Expr} {env : Env} (h : noStar e = true) : starEach (e :: es) env = (false, eval e env) :: starEach es env := by
  cases e <;> first | rfl | cases h
theorem starEach_plain {pos : Pos} {env : Env} : ∀ {es : List Expr}, es.all noStar = true → (backTo pos (starEach es env)).any (·.1) = false
  | [], _ => rfl
  | e :: es, h => by
    rw [List.all_cons, Bool.and_eq_true] at h
    rw [starEach_cons h.1]
    show (false || (backTo pos (starEach es env)).any (·.1)) = false
    rw [starEach_plain h.2]
    rfl
theorem starEach_plain2 {pos : Pos} {env : Env} : ∀ {es : List Expr}, es.all noStar = true → (backTo pos (starEach es env)).all (fun x => !x.1) = true
  | [], _ => rfl
  | e :: es, h => by
    rw [List.all_cons, Bool.and_eq_true] at h
    rw [starEach_cons h.1]
    show (true && (backTo pos (starEach es env)).all (fun x => !x.1)) = true
    rw [starEach_plain2 h.2]
    rfl
theorem RelDs.one {K : PySem.W.Frag} {H : Hp} {M : Pl} {d : D} {xs : List V} (h : RelDs K H M [d] xs) : ∃ v, xs = [v] ∧ RelD K H M d v := by
  cases h with | cons r t => cases t; exact ⟨_, rfl, r⟩
theorem RelDs.two {K : PySem.W.Frag} {H : Hp} {M : Pl} {d e : D} {xs : List V} (h : RelDs K H M [d, e] xs) : ∃ v u, xs = [v, u] ∧ RelD K H M d v ∧ RelD K H M e u := by
  cases h with | cons r t => obtain ⟨u, rfl, q⟩ := t.one; exact ⟨_, _, rfl, r, q⟩
theorem RelDs.three {K : PySem.W.Frag} {H : Hp} {M : Pl} {d e f : D} {xs : List V} (h : RelDs K H M [d, e, f] xs) : ∃ v u w, xs = [v, u, w] ∧ RelD K H M d v ∧ RelD K H M e u ∧ RelD K H M f w := by
  cases h with | cons r t => obtain ⟨u, w, rfl, q⟩ := t.two; exact ⟨_, _, _, rfl, r, q⟩
theorem CallR.or {X : Cx} {f : Value} {r r' : List V → Hp → VK → Prop} (h : CallR X f r) (h' : CallR X f r') : CallR X f (fun xs H Q => r xs H Q ∨ r' xs H Q) := by
  intro pins s σ H xs us Q I rx q
  rcases q with q | q
  · exact h pins s σ H xs us Q I rx q
  · exact h' pins s σ H xs us Q I rx q
/-- what a rule must be to tell f -/
def Tells (X : Cx) (f : List D → Sto → R D) (r : List V → Hp → VK → Prop) : Prop :=
  ∀ (H : Hp) (M : Pl) (S : Sto) (xs : List V) (ds : List D) (Q : VK) (E : XK), RelS X.K H M S → RelDs X.K H M ds xs → WPE X.K X.mg H M (f ds S) Q E → r xs H Q
section
variable {X : Cx} {x : Str} {p pos : Pos} {e : Expr} {es : List Expr} {vs : Ev → Sto → R (List D)} {f : List D → Sto → R D} {r : List V → Hp → VK → Prop} {id T : String}
theorem de_callB (hc : CallR X (.builtin id) r) (hq : Tells X f r) (hg : Gl X x) (hm : X.mg x = none) (hv : bootBuiltins x = some (.builtin id)) (hn : x ≠ "__name__") (hdb : (x == ("__debug__" : Str)) = false)
    (hs : (e :: es).all noStar = true) (ha : DA X (e :: es) vs) : DE X (.Call (.Name x p) (e :: es) [] pos) (fun e S => (vs e S).bind f) := by
  rw [List.all_cons, Bool.and_eq_true] at hs
  exact de_args (r := r) (fun _ pa => pe_callB hc hg hm hv pa hn hdb (starEach_cons hs.1) (starEach_plain hs.2)) hq ha
theorem de_callTy (hc : CallR X (.type T) r) (hq : Tells X f r) (hg : Gl X x) (hm : X.mg x = none) (hv : bootBuiltins x = some (.type T)) (hn : x ≠ "__name__") (hdb : (x == ("__debug__" : Str)) = false)
    (hs : (e :: es).all noStar = true) (ha : DA X (e :: es) vs) : DE X (.Call (.Name x p) (e :: es) [] pos) (fun e S => (vs e S).bind f) := by
  rw [List.all_cons, Bool.and_eq_true] at hs
  exact de_args (r := r) (fun _ pa => pe_callTy hc hg hm hv pa hn hdb (starEach_cons hs.1) (starEach_plain hs.2)) hq ha
end
section
variable {X : Cx}
theorem len_tells {bx : Bool} : Tells X (prim .len bx) (fun xs H Q => (∃ x n, xs = [x] ∧ LenV X.K x H n ∧ Q (.int n) H) ∨ ∃ a kvs, xs = [V.ref a] ∧ H a = some (.dK kvs) ∧ Q (.int kvs.length) H) := by
  intro H M S xs ds Q E rs rv h
  match ds, rv, h with
  | [], _, h => exact h.elim
  | [d], rv, h =>
    obtain ⟨v, rfl, r⟩ := rv.one
    have q := rd_rel rs r
    replace h : WPE X.K X.mg H M (pLen S d) Q E := h
    unfold pLen at h
    cases e : rd S d with
    | str x =>
      rw [e] at h q
      simp only at h
      split at h
      · rename_i hb
        have := q.str_
        subst this
        exact .inl ⟨_, x.length, rfl, ⟨of_decide_eq_true hb, rfl⟩, h.ok rs (.int _)⟩
      · exact h.elim
    | tup ys =>
      rw [e] at h q
      obtain ⟨a, ws, rfl, hs, rr⟩ := q.sqT
      refine .inl ⟨_, ws.length, rfl, .inr ⟨ws, hs.sq, rfl⟩, h.ok rs ?_⟩
      rw [← rr.length]; exact .int _
    | lst ys =>
      rw [e] at h q
      obtain ⟨a, ws, rfl, hs, rr⟩ := q.sqL
      refine .inl ⟨_, ws.length, rfl, .inl ⟨ws, hs, rfl⟩, h.ok rs ?_⟩
      rw [← rr.length]; exact .int _
    | dct ks us =>
      rw [e] at h q
      obtain ⟨a, kvs, rfl, ha, hk, rr⟩ := q.dct_
      simp only at h
      split at h
      · refine .inr ⟨a, kvs, rfl, ha, h.ok rs ?_⟩
        rw [hk, List.length_map, List.length_map]; exact .int _
      · exact h.elim
    | _ => rw [e] at h; exact h.elim
  | [_, _], _, h => exact h.elim
  | [_, _, _], _, h => exact h.elim
  | _ :: _ :: _ :: _ :: _, _, h => exact h.elim
theorem tuple_tells {bx : Bool} : Tells X (prim .tuple bx) (fun xs H Q => ∃ p ys, xs = [V.ref p] ∧ ((SqL X.K H p ys ∧ NewT ys H Q) ∨ (SqT X.K H p ys ∧ Q (.ref p) H))) := by
  intro H M S xs ds Q E rs rv h
  match ds, rv, h with
  | [], _, h => exact h.elim
  | [d], rv, h =>
    obtain ⟨v, rfl, r⟩ := rv.one
    have q := rd_rel rs r
    replace h : WPE X.K X.mg H M (pTuple S d) Q E := h
    unfold pTuple at h
    cases e : rd S d with
    | tup ys =>
      rw [e] at h q
      obtain ⟨a, ws, rfl, hs, rr⟩ := q.sqT
      exact ⟨a, ws, rfl, .inr ⟨hs.sq, h.ok rs (.tup hs rr)⟩⟩
    | lst ys =>
      rw [e] at h q
      obtain ⟨a, ws, rfl, hs, rr⟩ := q.sqL
      exact ⟨a, ws, rfl, .inl ⟨hs, fun p o hp ho => WPE.okT rs h rr hp ho⟩⟩
    | _ => rw [e] at h; exact h.elim
  | [_, _], _, h => exact h.elim
  | [_, _, _], _, h => exact h.elim
  | _ :: _ :: _ :: _ :: _, _, h => exact h.elim
theorem list_tells {bx : Bool} : Tells X (prim .list bx) (fun xs H Q => ∃ p ys, xs = [V.ref p] ∧ (SqL X.K H p ys ∨ SqT X.K H p ys) ∧ ∀ l, H l = none → Q (.ref l) (upd H l (.lst ys))) := by
  intro H M S xs ds Q E rs rv h
  match ds, rv, h with
  | [], _, h => exact h.elim
  | [d], rv, h =>
    obtain ⟨v, rfl, r⟩ := rv.one
    replace h : WPE X.K X.mg H M (R.o (seqOf S d) fun xs => mkL bx xs S) Q E := h
    cases e : seqOf S d with
    | none => rw [e] at h; exact h.elim
    | some ys =>
      rw [e] at h
      obtain ⟨a, ws, rfl, hs, rr⟩ := seqOf_rel rs r e
      obtain ⟨_, k⟩ := WPE.mkL rs h
      exact ⟨a, ws, rfl, hs.imp id TupAt.sq, fun l hl => k _ l rr hl⟩
  | [_, _], _, h => exact h.elim
  | [_, _, _], _, h => exact h.elim
  | _ :: _ :: _ :: _ :: _, _, h => exact h.elim
theorem bools_rel {K : PySem.W.Frag} {H : Hp} {M : Pl} : ∀ {ds : List D} {vs : List V} {bs : List Bool}, RelDs K H M ds vs → bools? ds = some bs → vs = bs.map V.bl
  | _, _, _, .nil, h => by cases h; rfl
  | .bl b :: ds, _, bs, .cons r t, h => by
    have h : (bools? ds).map (b :: ·) = some bs := h
    obtain ⟨cs, hc, rfl⟩ := Option.map_eq_some_iff.mp h
    rw [r.bl_, bools_rel t hc, List.map_cons]
  | .non :: _, _, _, .cons _ _, h => by cases h
  | .int _ :: _, _, _, .cons _ _, h => by cases h
  | .str _ :: _, _, _, .cons _ _, h => by cases h
  | .tup _ :: _, _, _, .cons _ _, h => by cases h
  | .lst _ :: _, _, _, .cons _ _, h => by cases h
  | .dct _ _ :: _, _, _, .cons _ _, h => by cases h
  | .ref _ :: _, _, _, .cons _ _, h => by cases h
theorem ints_rel {K : PySem.W.Frag} {H : Hp} {M : Pl} : ∀ {ds : List D} {vs : List V} {bs : List Int}, RelDs K H M ds vs → ints? ds = some bs → vs = bs.map V.int
  | _, _, _, .nil, h => by cases h; rfl
  | .int b :: ds, _, bs, .cons r t, h => by
    have h : (ints? ds).map (b :: ·) = some bs := h
    obtain ⟨cs, hc, rfl⟩ := Option.map_eq_some_iff.mp h
    rw [r.int_, ints_rel t hc, List.map_cons]
  | .non :: _, _, _, .cons _ _, h => by cases h
  | .bl _ :: _, _, _, .cons _ _, h => by cases h
  | .str _ :: _, _, _, .cons _ _, h => by cases h
  | .tup _ :: _, _, _, .cons _ _, h => by cases h
  | .lst _ :: _, _, _, .cons _ _, h => by cases h
  | .dct _ _ :: _, _, _, .cons _ _, h => by cases h
  | .ref _ :: _, _, _, .cons _ _, h => by cases h
theorem strs_rel {K : PySem.W.Frag} {H : Hp} {M : Pl} : ∀ {ds : List D} {vs : List V} {bs : List Str}, RelDs K H M ds vs → strs? ds = some bs → vs = bs.map V.str
  | _, _, _, .nil, h => by cases h; rfl
  | .str b :: ds, _, bs, .cons r t, h => by
    have h : (strs? ds).map (b :: ·) = some bs := h
    obtain ⟨cs, hc, rfl⟩ := Option.map_eq_some_iff.mp h
    rw [r.str_, strs_rel t hc, List.map_cons]
  | .non :: _, _, _, .cons _ _, h => by cases h
  | .bl _ :: _, _, _, .cons _ _, h => by cases h
  | .int _ :: _, _, _, .cons _ _, h => by cases h
  | .tup _ :: _, _, _, .cons _ _, h => by cases h
  | .lst _ :: _, _, _, .cons _ _, h => by cases h
  | .dct _ _ :: _, _, _, .cons _ _, h => by cases h
  | .ref _ :: _, _, _, .cons _ _, h => by cases h
theorem lst_tells {α : Type} {bx : Bool} {pr : Pr} {c : List D → Option α} {c' : α → List V} {g : α → D} {r : List V → Hp → VK → Prop}
    (h1 : ∀ d S, prim pr bx [d] S = R.o ((lstOf S d).bind c) fun bs => .ok (g bs) S) (h0 : ∀ S, prim pr bx [] S = .bad) (h2 : ∀ d e l S, prim pr bx (d :: e :: l) S = .bad)
    (hc : ∀ {H : Hp} {M : Pl} {ds : List D} {vs : List V} {a : α}, RelDs X.K H M ds vs → c ds = some a → vs = c' a)
    (hr : ∀ (H : Hp) (M : Pl) (S : Sto) (a : α) (p : Addr) (Q : VK), SqL X.K H p (c' a) → (∀ v, RelD X.K H M (g a) v → Q v H) → r [V.ref p] H Q) : Tells X (prim pr bx) r := by
  intro H M S xs ds Q E rs rv h
  match ds, rv, h with
  | [], _, h => rw [h0] at h; exact h.elim
  | [d], rv, h =>
    obtain ⟨v, rfl, rr⟩ := rv.one
    rw [h1] at h
    cases e : lstOf S d with
    | none => rw [e] at h; exact h.elim
    | some ys =>
      rw [e] at h
      obtain ⟨a, ws, rfl, hs, rq⟩ := lstOf_rel rs rr e
      cases e2 : c ys with
      | none => rw [show (some ys).bind c = c ys from rfl, e2] at h; exact h.elim
      | some bs =>
        rw [show (some ys).bind c = c ys from rfl, e2] at h
        have := hc rq e2
        subst this
        exact hr H M S bs a Q hs fun v hv => h.ok rs hv
  | _ :: _ :: _, _, h => rw [h2] at h; exact h.elim
theorem all_tells {bx : Bool} : Tells X (prim .all bx) (rAll X.K) :=
  lst_tells (c := bools?) (c' := fun bs => bs.map V.bl) (g := fun bs => .bl (bs.all id)) (fun _ _ => rfl) (fun _ => rfl) (fun _ _ l _ => by cases l with | nil => rfl | cons a l => cases l <;> rfl) bools_rel fun H M S a p Q hs q => ⟨p, a, rfl, hs, q _ (.bl _)⟩
theorem any_tells {bx : Bool} : Tells X (prim .any bx) (rAny X.K) :=
  lst_tells (c := bools?) (c' := fun bs => bs.map V.bl) (g := fun bs => .bl (bs.any id)) (fun _ _ => rfl) (fun _ => rfl) (fun _ _ l _ => by cases l with | nil => rfl | cons a l => cases l <;> rfl) bools_rel fun H M S a p Q hs q => ⟨p, a, rfl, hs, q _ (.bl _)⟩
theorem sum_tells {bx : Bool} : Tells X (prim .sum bx) (rSum X.K) :=
  lst_tells (c := ints?) (c' := fun bs => bs.map V.int) (g := fun bs => .int bs.sum) (fun _ _ => rfl) (fun _ => rfl) (fun _ _ l _ => by cases l with | nil => rfl | cons a l => cases l <;> rfl) ints_rel fun H M S a p Q hs q => ⟨p, a, rfl, hs, q _ (.int _)⟩
theorem mm_tells {pr : Pr} {bx : Bool} {f : Int → Int → Int} (h2 : ∀ d e S, prim pr bx [d, e] S = pMM S f d e) (hn : ∀ ds S, ds.length ≠ 2 → prim pr bx ds S = .bad) :
    Tells X (prim pr bx) (fun xs H Q => ∃ i j, xs = [V.int i, V.int j] ∧ Q (.int (f i j)) H) := by
  intro H M S xs ds Q E rs rv h
  by_cases hl : ds.length = 2
  · obtain ⟨d, e, rfl⟩ : ∃ d e, ds = [d, e] := by
      match ds, hl with
      | [d, e], _ => exact ⟨d, e, rfl⟩
    obtain ⟨v, u, rfl, r1, r2⟩ := rv.two
    rw [h2] at h
    cases d with
    | int i =>
      cases e with
      | int j => rw [r1.int_, r2.int_]; exact ⟨i, j, rfl, h.ok rs (.int _)⟩
      | _ => exact h.elim
    | _ => exact h.elim
  · rw [hn _ _ hl] at h; exact h.elim
theorem max_tells {bx : Bool} : Tells X (prim .max2 bx) (fun xs H Q => ∃ i j, xs = [V.int i, V.int j] ∧ Q (.int (if j > i then j else i)) H) :=
  mm_tells (fun _ _ _ => rfl) fun ds S h => by
    match ds, h with
    | [], _ => rfl
    | [_], _ => rfl
    | [_, _], h => exact absurd rfl h
    | [_, _, _], _ => rfl
    | _ :: _ :: _ :: _ :: _, _ => rfl
theorem min_tells {bx : Bool} : Tells X (prim .min2 bx) (fun xs H Q => ∃ i j, xs = [V.int i, V.int j] ∧ Q (.int (if j < i then j else i)) H) :=
  mm_tells (fun _ _ _ => rfl) fun ds S h => by
    match ds, h with
    | [], _ => rfl
    | [_], _ => rfl
    | [_, _], h => exact absurd rfl h
    | [_, _, _], _ => rfl
    | _ :: _ :: _ :: _ :: _, _ => rfl
theorem int_tells {bx : Bool} : Tells X (prim .int bx) (fun xs H Q => (∃ i, xs = [V.int i] ∧ Q (.int i) H) ∨ ∃ k, xs = [V.bl k] ∧ Q (.int (if k then 1 else 0)) H) := by
  intro H M S xs ds Q E rs rv h
  match ds, rv, h with
  | [], _, h => exact h.elim
  | [d], rv, h =>
    obtain ⟨v, rfl, r⟩ := rv.one
    cases d with
    | int i => rw [r.int_]; exact .inl ⟨i, rfl, WPE.ok (d := .int i) h rs (.int _)⟩
    | bl b => rw [r.bl_]; exact .inr ⟨b, rfl, WPE.ok (d := .int (if b then 1 else 0)) h rs (.int _)⟩
    | _ => exact h.elim
  | [_, _], _, h => exact h.elim
  | [_, _, _], _, h => exact h.elim
  | _ :: _ :: _ :: _ :: _, _, h => exact h.elim
theorem abs_tells {bx : Bool} : Tells X (prim .abs bx) (fun xs H Q => ∃ i, xs = [V.int i] ∧ Q (.int (if i < 0 then -i else i)) H) := by
  intro H M S xs ds Q E rs rv h
  match ds, rv, h with
  | [], _, h => exact h.elim
  | [d], rv, h =>
    obtain ⟨v, rfl, r⟩ := rv.one
    cases d with
    | int i => rw [r.int_]; exact ⟨i, rfl, WPE.ok (d := .int (if i < 0 then -i else i)) h rs (.int _)⟩
    | _ => exact h.elim
  | [_, _], _, h => exact h.elim
  | [_, _, _], _, h => exact h.elim
  | _ :: _ :: _ :: _ :: _, _, h => exact h.elim
end
end Pw

set_option Elab.async false
set_option linter.all false
set_option maxRecDepth 100000
set_option maxHeartbeats 1000000
namespace PySem.W
open PySem PySem.Calls PyProof.Rows
section
variable {prog : Program} {w : World} {A : Around} {E : Value → Shared → Prop} {s : Shared}
/-- a tuple's items, gathered -/
theorem collect_tupleR {M : Model} {l : Addr} {vs : List Value} {Q : List Value → Shared → Prop} (hl : IsTup s.heap l vs.toArray)
    (h : Q vs { s with heap := (s.heap.push (seqObj "list" #[] 0)).update s.heap.objs.size (Obj.mapSeq (· ++ vs.toArray)) }) (hsz : vs.length ≤ sizeLine) :
    wpAny (model prog w) A (collect (.ref l)) Q E s := by
  obtain ⟨o, ho, hc, n, hd⟩ := id hl
  unfold collect
  refine wpAny_bind (wpAny_runValue (codeAny_builtin entry_proto_collect' ?_))
  show wpAny _ _ (do again (.builtin "list.__iadd__" ⟨[← newList [], .ref l], []⟩)) _ _ s
  refine wpAny_bind (wpAny_newList (wpAny_pure ⟨Code.quiet_builtin _ (by decide +kernel), codeAny_builtin entry_list_iadd' ?_⟩))
  show wpAny _ _ (Builtin.List.listExtendWith (.ref s.heap.objs.size) (.ref l) (.ref s.heap.objs.size)) _ _ { s with heap := s.heap.push (seqObj "list" #[] 0) }
  unfold Builtin.List.listExtendWith
  have ho' : (s.heap.push (seqObj "list" #[] 0)).get? l = some o := Heap.get?_push_of_some _ ho
  refine wpAny_bind (wpAny_typeOf (T := "tuple") ⟨o, ho', hc⟩ ?_)
  have ht : (Value.type "tuple" == Value.type "tuple") = true := by rfl
  rw [if_pos (by rw [ht]; simp)]
  refine wpAny_bind (listItems_at ho' hd ?_)
  refine wpAny_bind (listItems_at (xs := #[]) (n := 0) (Heap.get?_push_size _ rfl) rfl ?_)
  rw [if_neg (by simp)]
  refine wpAny_bind (listUpdate_at (xs := #[]) (n := 0) (Heap.get?_push_size _ rfl) rfl ?_ (Nat.zero_le _) (by show (#[] ++ vs.toArray).size ≤ sizeLine + 1; simp only [Array.size_append, List.size_toArray, List.length_nil]; omega))
  refine wpAny_pure ?_
  show wpAny (model prog w) A (do
      let o ← load s.heap.objs.size
      match o.data with
      | .seq xs _ => pure xs.toList
      | _ => unsupported "internal:collect") Q E { s with heap := (s.heap.push (seqObj "list" #[] 0)).update s.heap.objs.size (Obj.mapSeq (· ++ vs.toArray)) }
  refine wpAny_bind (wpAny_load (get?_update_seq (Heap.get?_push_size _ rfl) _) ?_)
  show wpAny _ _ (pure ((#[] : Array Value) ++ vs.toArray).toList) Q E _
  rw [show ((#[] : Array Value) ++ vs.toArray).toList = vs by simp]
  exact wpAny_pure h
theorem sorted_of_sortT {l : Addr} {vs : List Value} {kw : List (Str × Value)} {Q : Value → Shared → Prop} (hl : IsTup s.heap l vs.toArray) (hL : vs.length ≤ sizeLine) (ha1 : argsOk "sorted" ⟨[.ref l], kw⟩) (ha2 : ∀ x, argsOk "list.sort" ⟨[.ref x], kw⟩)
    (body : ∀ E' : Value → Shared → Prop, wpAny (model prog w) A.in1.in1 (Builtin.«list.sort» ⟨[.ref (s.heap.objs.size + 1)], kw⟩) (fun f s' => f = .done (.ret .none) ∧ Q (.ref (s.heap.objs.size + 1)) s') E' { s with heap := copyHeap s.heap vs }) :
    wpAny (model prog w) A (call (.builtin "sorted") [.ref l] kw) Q E s := by
  refine call_function_entry_kw kind_sorted plain_sorted entry_sorted ha1 ?_
  unfold Builtin.«sorted»
  refine wpAny_bind (m := checkCount "sorted" 1 1 _) (wpAny_pure ?_)
  refine wpAny_bind (collect_tupleR (M := model prog w) hl ?_ hL)
  refine wpAny_bind (wpAny_newList ?_ hL)
  have hsz : ((s.heap.push (seqObj "list" #[] 0)).update s.heap.objs.size (Obj.mapSeq (· ++ vs.toArray))).objs.size = s.heap.objs.size + 1 := by
    rw [Heap.size_update, size_push']
  show wpAny _ _ _ _ _ { s with heap := copyHeap s.heap vs }
  rw [hsz]
  refine wpAny_bind (wpAny_holding (wpAny_call_entry_kw slot_list_sort ⟨_, copyHeap_at s.heap vs, rfl⟩ entry_list_sort ?body (ha2 _)))
  case body =>
    show wpAny (model prog w) A.in1.in1 (Builtin.«list.sort» ⟨[.ref (s.heap.objs.size + 1)], kw⟩) _ _ _
    refine wpAny_mono (body _) (fun f s' hf => ?_) fun _ _ e => e
    obtain ⟨rfl, hq⟩ := hf
    exact ⟨_, rfl, wpAny_pure ⟨_, rfl, hq⟩⟩
theorem sorted_valsT {κ : PyProof.Rows.KeyKind} {l : Addr} {vs : List Value} {Q : Value → Shared → Prop} (hl : IsTup s.heap l vs.toArray) (S : SortsAt prog w A.in1.in1 { s with heap := sortingHeap (copyHeap s.heap vs) (s.heap.objs.size + 1) vs } κ vs) (hL : vs.length ≤ sizeLine)
    (h : Q (.ref (s.heap.objs.size + 1)) { s with heap := sortedAll s.heap vs (sortVals κ false vs vs).toArray }) : wpAny (model prog w) A (call (.builtin "sorted") [.ref l]) Q E s :=
  sorted_of_sortT hl hL (args_sorted1 _) (fun _ => args_list_sort _) fun _ => list_sort_vals (s := { s with heap := copyHeap s.heap vs }) (copyHeap_at s.heap vs) S hL ⟨rfl, h⟩
theorem sorted_dataT {β : Type} {R : Value → β → Prop} {enc : β → PyData} {vs : List Value} {bs : List β} {l : Addr} {Q : Value → Shared → Prop} (hl : IsTup s.heap l vs.toArray) (e : EachIs R vs bs) (er : EachIs (fun v b => ∃ as, Reads s.heap v (enc b) as) vs bs) (hal : AllAlike (bs.map enc)) (hk : Sortable (bs.map enc)) (hL : bs.length ≤ sizeLine)
    (hu : ∀ b, b ∈ bs → A.units + 2 + (enc b).depth < cLine) (h : ∀ out, out.length = bs.length → EachIs R out (bs.mergeSort (dataLe false enc)) → Q (.ref (s.heap.objs.size + 1)) { s with heap := sortedAll s.heap vs (List.toArray out) }) :
    wpAny (model prog w) A (call (.builtin "sorted") [.ref l]) Q E s := by
  have er' : EachIs (fun v b => ∃ as, Reads (sortingHeap (copyHeap s.heap vs) (s.heap.objs.size + 1) vs) v (enc b) as) vs bs := er.mono fun _ _ ⟨as, r⟩ => ⟨as, PyProof.Rows.Reads.keeps (fun _ _ => sorting_copy_old) r⟩
  exact sorted_valsT hl (SortsAt.data (s := { s with heap := sortingHeap (copyHeap s.heap vs) (s.heap.objs.size + 1) vs }) (each_map (R := fun v d => ∃ as, Reads (sortingHeap (copyHeap s.heap vs) (s.heap.objs.size + 1) vs) v d as) enc er') hal hk (bound_map hu)) (by rw [e.length]; exact hL)
    (h _ (by rw [sortVals_length false rfl]; exact e.length) (sortVals_data false e er' hal))
end
end PySem.W
namespace Pw
open PySem PySem.Spec PyProof.Rows L2
section
variable {X : Cx}
/-- sorted(a list, a tuple) of data -/
def rSortD (K : PySem.W.Frag) : List V → Hp → VK → Prop := fun xs H Q => ∃ (a : Addr) (ys : List V) (bs : List (V × PyData)), xs = [V.ref a] ∧ (SqL K H a ys ∨ SqT K H a ys) ∧ bs.map (·.1) = ys ∧ (∀ b ∈ bs, Dp K H b.1 b.2) ∧
  PySem.W.AllAlike (bs.map (·.2)) ∧ PySem.W.Sortable (bs.map (·.2)) ∧ bs.length ≤ sizeLine ∧ (∀ b ∈ bs, b.2.depth ≤ 60) ∧ ∀ p, H p = none → Q (.ref p) (upd H p (.lst ((bs.mergeSort (PySem.W.dataLe false (·.2))).map (·.1))))
theorem each_vals {bs : List (V × PyData)} : ∀ {us : List Value}, Vals (bs.map (·.1)) us → PySem.W.EachIs (fun u b => RelV b.1 u) us bs := by
  induction bs with
  | nil => intro us h; cases h; exact .nil
  | cons b bs ih => intro us h; cases h with | cons r t => exact .cons r (ih t)
theorem vals_each {bs : List (V × PyData)} : ∀ {us : List Value}, PySem.W.EachIs (fun u b => RelV b.1 u) us bs → Vals (bs.map (·.1)) us := by
  induction bs with
  | nil => intro us h; cases h; exact .nil
  | cons b bs ih => intro us h; cases h with | cons r t => exact .cons r (ih t)
theorem each_reads {pins : List (Addr × Obj)} {σ : L2.St} {H : Hp} {s : Shared} (I : Inv X pins σ H s) {bs : List (V × PyData)} (h : ∀ b ∈ bs, Dp X.K H b.1 b.2) : ∀ {us : List Value}, Vals (bs.map (·.1)) us → PySem.W.EachIs (fun u b => ∃ as, Reads s.heap u b.2 as) us bs := by
  induction bs with
  | nil => intro us h; cases h; exact .nil
  | cons b bs ih =>
    intro us r
    cases r with
    | cons r t => exact .cons (Dp.reads I _ _ _ (h b (List.mem_cons_self ..)) r) (ih (fun c hc => h c (List.mem_cons_of_mem _ hc)) t)
theorem cr_sortD (hu : X.A.units + 70 < cLine) : CallR X (.builtin "sorted") (rSortD X.K) := by
  intro pins s σ H xs us Q I r h
  obtain ⟨a, ys, bs, rfl, hs, rfl, hd, hal, hk, hL, hdp, q⟩ := h
  obtain ⟨u, rfl, ru⟩ := r.one
  cases ru
  have fin : ∀ {its : List Value}, ∀ out : List Value, out.length = bs.length → PySem.W.EachIs (fun u b => RelV b.1 u) out (bs.mergeSort (PySem.W.dataLe false (·.2))) →
      EP X pins σ Q (.ref (s.heap.objs.size + 1)) { s with heap := sortedAll s.heap its (List.toArray out) } := by
    intro its out ho eo
    obtain ⟨ep, he'⟩ := PyProof.Rows.sortedAll_at s.heap its (List.toArray out)
    have hv := vals_each eo
    refine ⟨.ref _, upd H (s.heap.objs.size + 1) (.lst ((bs.mergeSort (PySem.W.dataLe false (·.2))).map (·.1))), I.laid (t' := s.toks) (fun _ _ => PyProof.Rows.sortedAll_old) (Nat.le_succ _) ⟨?_, out, ep, hv, he'⟩, rfl, q _ (I.hok.fresh (Nat.le_succ _))⟩
    rw [hv.length, ho]; exact hL
  rcases hs with hs | hs
  · obtain ⟨its, rv, hl, _⟩ := I.list hs
    exact PySem.W.sorted_data (R := fun u b => RelV b.1 u) hl.isList (each_vals rv) (each_reads I hd rv) hal hk hL (fun b hb => by have := hdp b hb; omega) fun out ho eo => fin out ho eo
  · obtain ⟨its, rv, hl, _⟩ := I.tuple hs
    exact PySem.W.sorted_dataT (R := fun u b => RelV b.1 u) hl (each_vals rv) (each_reads I hd rv) hal hk hL (fun b hb => by have := hdp b hb; omega) fun out ho eo => fin out ho eo
end
end Pw

set_option Elab.async false
set_option linter.all false
set_option maxRecDepth 100000
set_option maxHeartbeats 1000000
namespace Pw
open PySem PySem.Spec PyProof.Rows L2
section
variable {X : Cx}
theorem toPy_of {d : D} (h : d.toPy.isSome = true) : d.toPy = some (pyOf d) := by
  unfold pyOf unPy
  cases e : d.toPy with
  | none => rw [e] at h; cases h
  | some p => rfl
/-- data and values side by side -/
theorem pairsOf {K : PySem.W.Frag} {H : Hp} {M : Pl} : ∀ {ds : List D} {vs : List V}, RelDs K H M ds vs → ∃ ts : List (D × V), ts.map (·.1) = ds ∧ ts.map (·.2) = vs ∧ ∀ t ∈ ts, RelD K H M t.1 t.2
  | _, _, .nil => ⟨[], rfl, rfl, fun _ h => nomatch h⟩
  | d :: ds, v :: vs, .cons r t => by
    obtain ⟨ts, h1, h2, h3⟩ := pairsOf t
    refine ⟨(d, v) :: ts, by simp [h1], by simp [h2], fun x hx => ?_⟩
    rcases List.mem_cons.mp hx with rfl | hx
    · exact r
    · exact h3 x hx
theorem ofPairs {K : PySem.W.Frag} {H : Hp} {M : Pl} : ∀ {ts : List (D × V)}, (∀ t ∈ ts, RelD K H M t.1 t.2) → RelDs K H M (ts.map (·.1)) (ts.map (·.2))
  | [], _ => .nil
  | t :: ts, h => .cons (h t (List.mem_cons_self ..)) (ofPairs fun x hx => h x (List.mem_cons_of_mem _ hx))
theorem sorted_tells {bx : Bool} : Tells X (prim .sorted bx) (rSortD X.K) := by
  intro H M S xs ds Q E rs rv h
  match ds, rv, h with
  | [], _, h => exact h.elim
  | [d], rv, h =>
    obtain ⟨v, rfl, r⟩ := rv.one
    replace h : WPE X.K X.mg H M (R.o ((seqOf S d).bind sortD) fun xs => mkL bx xs S) Q E := h
    cases e : seqOf S d with
    | none => rw [e] at h; exact h.elim
    | some ys =>
      rw [e] at h
      replace h : WPE X.K X.mg H M (R.o (sortD ys) fun xs => mkL bx xs S) Q E := h
      unfold sortD at h
      split at h
      · rename_i hc
        obtain ⟨h1, h2, h3, h4, h5⟩ := hc
        obtain ⟨a, ws, rfl, hs, rr⟩ := seqOf_rel rs r e
        obtain ⟨ts, e1, e2, e3⟩ := pairsOf rr
        subst e1 e2
        obtain ⟨_, k⟩ := WPE.mkL rs h
        have m1 := List.map_mergeSort (f := fun t : D × V => t.1) (r := PySem.W.dataLe false fun t : D × V => pyOf t.1) (s := PySem.W.dataLe false pyOf) (l := ts) (fun _ _ _ _ => rfl)
        have m2 := List.map_mergeSort (f := fun t : D × V => (t.2, pyOf t.1)) (r := PySem.W.dataLe false fun t : D × V => pyOf t.1) (s := PySem.W.dataLe false fun t : V × PyData => t.2) (l := ts) (fun _ _ _ _ => rfl)
        refine ⟨a, ts.map (·.2), ts.map fun t => (t.2, pyOf t.1), rfl, hs.imp id TupAt.sq, by rw [List.map_map]; rfl, fun b hb => ?_, ?_, ?_, ?_, fun b hb => ?_, fun p hp => ?_⟩
        · obtain ⟨t, ht, rfl⟩ := List.mem_map.mp hb
          exact RelD.dp (e3 t ht) (toPy_of (h1 t.1 (List.mem_map.mpr ⟨t, ht, rfl⟩)))
        · rw [List.map_map]
          rw [List.map_map] at h2
          exact h2
        · rw [List.map_map]
          rw [List.map_map] at h3
          exact h3
        · rw [List.length_map]; rw [List.length_map] at h4; exact h4
        · obtain ⟨t, ht, rfl⟩ := List.mem_map.mp hb
          exact h5 t.1 (List.mem_map.mpr ⟨t, ht, rfl⟩)
        · rw [← m2, List.map_map]
          refine k _ p ?_ hp
          rw [← m1]
          have : RelDs X.K H M ((ts.mergeSort (PySem.W.dataLe false fun t : D × V => pyOf t.1)).map (·.1)) ((ts.mergeSort (PySem.W.dataLe false fun t : D × V => pyOf t.1)).map (·.2)) :=
            ofPairs fun t ht => e3 t (List.mem_mergeSort.mp ht)
          exact this
      · exact h.elim
  | [_, _], _, h => exact h.elim
  | [_, _, _], _, h => exact h.elim
  | _ :: _ :: _ :: _ :: _, _, h => exact h.elim
end

/-! ## methods of built-in types -/
def tyW (K : PySem.W.Frag) (T : String) (x : V) (H : Hp) : Prop := tyV K T x H ∨ (T = "tuple" ∧ ∃ p vs, x = .ref p ∧ TupAt K H p vs)
section
variable {X : Cx}
theorem tyW_is {pins : List (Addr × Obj)} {σ : L2.St} {H : Hp} {s : Shared} {T : String} {x : V} {v : Value} (I : Inv X pins σ H s) (r : RelV x v) (ty : tyW X.K T x H) :
    s.TypeIs v T ∧ ∀ a, v = .ref a → ∃ ob, s.heap.get? a = some ob ∧ ob.dict = none := by
  rcases ty with ty | ⟨rfl, p, vs, rfl, h⟩
  · exact tyV_is I r ty
  · cases r
    rcases h with ⟨o, h, hd⟩ | ⟨o, its, n, hk, hc, hd, _⟩
    · obtain ⟨e0, _, _, _, o', h1, h2, _⟩ := (show ObjOk X.prog X.w H s.heap p (.frz o (.tup vs)) from I.hok p _ h)
      exact ⟨⟨o', h1, h2⟩, fun a e => by cases e; exact ⟨o, e0, hd⟩⟩
    · exact ⟨⟨o, I.kIn p o hk, hc⟩, fun a e => by cases e; exact ⟨o, I.kIn _ o hk, hd⟩⟩
structure MthOk (X : Cx) (name : Str) (T id : String) (r : V → List V → Hp → VK → Prop) : Prop where
  pa : PlainAttrs T
  slot : Slot T name id
  ty : typeOf (.builtin id) = pure (.type "method_descriptor")
  mt : MtR X id r
def tBMG (X : Cx) (name : Str) (to : TE) (t : TA) : TE := fun σ H Q => to σ H fun x H1 => ∃ T id r, MthOk X name T id r ∧ tyW X.K T x H1 ∧ t σ H1 fun xs H2 => r x xs H2 Q
variable {o e : Expr} {es : List Expr} {to : TE} {t : TA} {name : Str} {apos cpos : Pos}
theorem pe_bmG0 (ho : PE X o to) (hbase : attributeBase o name X.env (eval o X.env) = eval o X.env) (hline : (apos.endLine == cpos.line) = true) :
    PE X (.Call (.Attribute o name apos) [] [] cpos) (tBMG X name to tNil) := by
  refine ⟨fun pins s σ H Q I h => ?_⟩
  refine wpAny_Call_method0_late hbase hline (thn (ho.run pins s σ H _ I h) fun v s1 ⟨x, H1, I1, r1, T, id, r, m, ty, q1⟩ => ?_)
  obtain ⟨h1, h2⟩ := tyW_is I1 r1 ty
  exact ⟨T, id, m.pa, m.slot, m.ty, h1, h2, Calls.callWith_builtin rfl (PySem.evalArgs_none (m.mt pins s1 σ H1 x [] v [] Q I1 r1 .nil q1))⟩
theorem pe_bmG (ho : PE X o to) (ha : PA X (e :: es) t) (hbase : attributeBase o name X.env (eval o X.env) = eval o X.env) (hsm : (e :: es).length < 30) (hline : (apos.endLine == cpos.line) = true) (hs : (e :: es).all noStar = true) :
    PE X (.Call (.Attribute o name apos) (e :: es) [] cpos) (tBMG X name to t) := by
  refine ⟨fun pins s σ H Q I h => ?_⟩
  refine wpAny_Call_method_late hbase ?_ hline rfl (thn (ho.run pins s σ H _ I h) fun v s1 ⟨x, H1, I1, r1, T, id, r, m, ty, q1⟩ => ?_)
  · rw [starEach_plain2 hs]
    simp [keywordEach, backToKw] at hsm ⊢
    exact hsm
  · obtain ⟨h1, h2⟩ := tyW_is I1 r1 ty
    refine ⟨T, id, m.pa, m.slot, m.ty, h1, h2, ?_⟩
    have hA := ha.run cpos pins s1 σ H1 _ I1 q1
    rw [List.all_cons, Bool.and_eq_true] at hs
    rw [starEach_cons hs.1] at hA ⊢
    refine Calls.callWith_builtin (by show (false || (backTo cpos (starEach es X.env)).any (·.1)) = false; rw [starEach_plain hs.2] <;> rfl) (Calls.evalArgs_plain ?_)
    exact thn hA fun us s2 ⟨vs, H2, I2, r2, q2⟩ => m.mt pins s2 σ H2 x vs v us Q I2 r1 r2 q2
/-- the rule of a method: by the kind of the thing, the type and the rule -/
def TellsM (X : Cx) (name : Str) (ok : Nat → Bool) (f : D → List D → Sto → R D) : Prop :=
  ∀ (H : Hp) (M : Pl) (S : Sto) (d : D) (x : V), RelS X.K H M S → RelD X.K H M d x → ok (kd S d) = true →
    ∃ T id r, MthOk X name T id r ∧ tyW X.K T x H ∧ ∀ (H2 : Hp) (M2 : Pl) (S2 : Sto) (xs : List V) (ds : List D) (Q : VK) (E : XK), RelS X.K H2 M2 S2 → RelD X.K H2 M2 d x → RelDs X.K H2 M2 ds xs → kd S d = kd S2 d → WPE X.K X.mg H2 M2 (f d ds S2) Q E → r x xs H2 Q
theorem mth_core {vs : Ev → Sto → R (List D)} {f : D → List D → Sto → R D} {ok : Nat → Bool} (hf : TellsM X name ok f) {W : WX} {ta : TA} {to : TE} {vo : Ev → Sto → R D}
    (qo : ∀ (σ : L2.St) (H : Hp) (M : Pl) (env : Ev) (S : Sto) (Q : VK), RelE X.K H M env σ → RelS X.K H M S → WPE X.K X.mg H M (vo env S) Q (fun c d H' => W c d σ H') → to σ H Q)
    (qa : ∀ (σ : L2.St) (H : Hp) (M : Pl) (env : Ev) (S : Sto) (Q : List V → Hp → Prop), RelE X.K H M env σ → RelS X.K H M S → WPA X.K X.mg H M (vs env S) Q (fun c d H' => W c d σ H') → ta σ H Q) :
    ∀ (σ : L2.St) (H : Hp) (M : Pl) (env : Ev) (S : Sto) (Q : VK), RelE X.K H M env σ → RelS X.K H M S →
      WPE X.K X.mg H M ((vo env S).bind fun x S1 => if ok (kd S1 x) then (vs env S1).bind fun ys S2 => if kd S1 x = kd S2 x then f x ys S2 else .bad else .bad) Q (fun c d H' => W c d σ H') → tBMG X name to ta σ H Q := by
  intro σ H M env S Q re rs h
  refine qo σ H M env S _ re rs (WPE.bind h fun dx S1 x H1 M1 x1 rs1 rx h1 => ?_)
  by_cases hk : ok (kd S1 dx) = true
  rotate_left
  · rw [if_neg hk] at h1; exact h1.elim
  · rw [if_pos hk] at h1
    obtain ⟨T, id, r, m, ty, k⟩ := hf H1 M1 S1 dx x rs1 rx hk
    refine ⟨T, id, r, m, ty, ?_⟩
    refine qa σ H1 M1 env S1 _ (re.mono x1) rs1 (WPA.bindE h1 fun ds S2 xs H2 M2 x2 rs2 rxs h2 => ?_)
    by_cases he : kd S1 dx = kd S2 dx
    · rw [if_pos he] at h2
      exact k H2 M2 S2 xs ds Q _ rs2 (rx.mono x2) rxs he h2
    · rw [if_neg he] at h2
      exact h2.elim
theorem de_mth0 {vo : Ev → Sto → R D} {f : D → List D → Sto → R D} {ok : Nat → Bool} (hf : TellsM X name ok f) (ho : DE X o vo)
    (hbase : attributeBase o name X.env (eval o X.env) = eval o X.env) (hline : (apos.endLine == cpos.line) = true) :
    DE X (.Call (.Attribute o name apos) [] [] cpos) (fun e S => (vo e S).bind fun x S1 => if ok (kd S1 x) then (R.ok [] S1 : R (List D)).bind fun ys S2 => if kd S1 x = kd S2 x then f x ys S2 else .bad else .bad) := by
  intro W tk
  obtain ⟨to, po, qo⟩ := ho W tk
  exact ⟨_, pe_bmG0 po hbase hline, mth_core (vs := fun _ S => .ok [] S) hf qo fun σ H M env S Q re rs h => h [] H M (Ext.refl _ _) rs .nil⟩
theorem de_mth {vo : Ev → Sto → R D} {vs : Ev → Sto → R (List D)} {f : D → List D → Sto → R D} {ok : Nat → Bool} (hf : TellsM X name ok f) (ho : DE X o vo) (ha : DA X (e :: es) vs)
    (hbase : attributeBase o name X.env (eval o X.env) = eval o X.env) (hsm : (e :: es).length < 30) (hline : (apos.endLine == cpos.line) = true) (hs : (e :: es).all noStar = true) :
    DE X (.Call (.Attribute o name apos) (e :: es) [] cpos) (fun e S => (vo e S).bind fun x S1 => if ok (kd S1 x) then (vs e S1).bind fun ys S2 => if kd S1 x = kd S2 x then f x ys S2 else .bad else .bad) := by
  intro W tk
  obtain ⟨to, po, qo⟩ := ho W tk
  obtain ⟨ta, pa, qa⟩ := ha W tk
  exact ⟨_, pe_bmG po pa hbase hsm hline hs, mth_core hf qo qa⟩
theorem base_ok {o : Expr} {name : Str} {env : Env} {whole : Sem Value} (h : (match o with | .Call _ _ _ _ => false | _ => true) = true) : attributeBase o name env whole = whole := by
  cases o <;> first | rfl | cases h
end
end Pw

set_option Elab.async false
set_option linter.all false
set_option maxRecDepth 100000
set_option maxHeartbeats 1000000
namespace Pw
open PySem PySem.Spec PyProof.Rows L2
section
variable {X : Cx} {bx : Bool}
theorem kd1 {S : Sto} {d : D} (h : kd S d = 1) : ∃ xs, rd S d = .lst xs := by
  unfold kd at h
  cases e : rd S d <;> rw [e] at h <;> first | exact ⟨_, rfl⟩ | cases h
theorem kd2 {S : Sto} {d : D} (h : kd S d = 2) : ∃ xs, rd S d = .tup xs := by
  unfold kd at h
  cases e : rd S d <;> rw [e] at h <;> first | exact ⟨_, rfl⟩ | cases h
theorem kd3 {S : Sto} {d : D} (h : kd S d = 3) : ∃ ks vs, rd S d = .dct ks vs := by
  unfold kd at h
  cases e : rd S d <;> rw [e] at h <;> first | exact ⟨_, _, rfl⟩ | cases h
theorem kd4 {S : Sto} {d : D} (h : kd S d = 4) : ∃ xs, rd S d = .str xs := by
  unfold kd at h
  cases e : rd S d <;> rw [e] at h <;> first | exact ⟨_, rfl⟩ | cases h
theorem rd_str_ {S : Sto} {d : D} {x : Str} (h : rd S d = .str x) : d = .str x := by
  cases d with
  | ref l =>
    rw [rd_ref] at h
    cases e : S[l]? with
    | none => rw [e] at h; cases h
    | some m => rw [e] at h; cases m <;> cases h
  | _ => first | exact h | cases h
theorem tyL {K : PySem.W.Frag} {H : Hp} {M : Pl} {S : Sto} {d : D} {x : V} (rs : RelS K H M S) (r : RelD K H M d x) (h : kd S d = 1) : tyW K "list" x H := by
  obtain ⟨xs, e⟩ := kd1 h
  have q := rd_rel rs r
  rw [e] at q
  obtain ⟨a, vs, rfl, hs, _⟩ := q.sqL
  exact .inl (.inl ⟨rfl, vs, hs⟩)
theorem tyT {K : PySem.W.Frag} {H : Hp} {M : Pl} {S : Sto} {d : D} {x : V} (rs : RelS K H M S) (r : RelD K H M d x) (h : kd S d = 2) : tyW K "tuple" x H := by
  obtain ⟨xs, e⟩ := kd2 h
  have q := rd_rel rs r
  rw [e] at q
  obtain ⟨a, vs, rfl, hs, _⟩ := q.sqT
  exact .inr ⟨rfl, a, vs, rfl, hs⟩
theorem tyD {H : Hp} {M : Pl} {S : Sto} {d : D} {x : V} (rs : RelS X.K H M S) (r : RelD X.K H M d x) (h : kd S d = 3) : tyW X.K "dict" x H := by
  obtain ⟨ks, vs, e⟩ := kd3 h
  have q := rd_rel rs r
  rw [e] at q
  obtain ⟨a, kvs, rfl, hs, _⟩ := q.dct_
  exact .inl (.inr (.inr (.inl ⟨rfl, .inl ⟨kvs, hs⟩⟩)))
theorem tyS {K : PySem.W.Frag} {H : Hp} {M : Pl} {S : Sto} {d : D} {x : V} (rs : RelS K H M S) (r : RelD K H M d x) (h : kd S d = 4) : tyW K "str" x H := by
  obtain ⟨xs, e⟩ := kd4 h
  have q := rd_rel rs r
  rw [e] at q
  rw [q.str_]
  exact .inl rfl
/-- a list of the store -/
theorem refL {K : PySem.W.Frag} {H : Hp} {M : Pl} {S : Sto} {l : Nat} {x : V} {xs : List D} (rs : RelS K H M S) (r : RelD K H M (.ref l) x) (e : S[l]? = some (.lst xs)) :
    ∃ a vs, x = .ref a ∧ M.m[l]? = some a ∧ H a = some (.lst vs) ∧ RelDs K H M xs vs := by
  obtain ⟨a, rfl, h⟩ := r.ref_
  obtain ⟨o, ho, vs, rfl, rr⟩ := rs.at_ l a _ h e
  exact ⟨a, vs, rfl, h, ho, rr⟩
theorem refD {K : PySem.W.Frag} {H : Hp} {M : Pl} {S : Sto} {l : Nat} {x : V} {ks xs : List D} (rs : RelS K H M S) (r : RelD K H M (.ref l) x) (e : S[l]? = some (.dct ks xs)) :
    ∃ a kvs, x = .ref a ∧ M.m[l]? = some a ∧ H a = some (.dK kvs) ∧ ks = (kvs.map (·.1)).map kD ∧ RelDs K H M xs (kvs.map (·.2)) := by
  obtain ⟨a, rfl, h⟩ := r.ref_
  obtain ⟨o, ho, kvs, rfl, hk, rr⟩ := rs.at_ l a _ h e
  exact ⟨a, kvs, rfl, h, ho, hk, rr⟩
theorem append_tells : TellsM X "append" Pr.append.kindOk (fun d ds => prim .append bx (d :: ds)) := by
  intro H M S d x rs r hk
  refine ⟨"list", "list.append", rAppend, ⟨PySem.F.plainAttrs_list, PySem.F.slot_list_append, PySem.F.type_list_append, mt_append⟩, tyL rs r (by simpa [Pr.kindOk] using hk), ?_⟩
  intro H2 M2 S2 xs ds Q E rs2 r2 rv _ h
  match ds, rv, h with
  | [], _, h => exact h.elim
  | [y], rv, h =>
    obtain ⟨u, rfl, ry⟩ := rv.one
    replace h : WPE X.K X.mg H2 M2 (dAppend d y S2) Q E := h
    cases d with
    | ref l =>
      unfold dAppend at h
      simp only at h
      cases e : S2[l]? with
      | none => rw [e] at h; exact h.elim
      | some m =>
        rw [e] at h
        cases m with
        | dct _ _ => exact h.elim
        | lst zs =>
          simp only at h
          split at h
          · rename_i hz
            obtain ⟨a, vs, rfl, hm, ha, rr⟩ := refL rs2 r2 e
            have hx : Ext H2 M2 (upd H2 a (.lst (vs ++ [u]))) M2 := Ext.write rs2 hm
            exact ⟨a, vs, u, rfl, rfl, ha, by rw [← rr.length]; exact hz, h .non _ _ hx (rs2.write hm ⟨_, rfl, rr.append (.cons ry .nil)⟩) .non⟩
          · exact h.elim
    | _ => exact h.elim
  | [_, _], _, h => exact h.elim
  | _ :: _ :: _ :: _, _, h => exact h.elim
theorem RelDs.dropLast {K : PySem.W.Frag} {H : Hp} {M : Pl} {ds : List D} {vs : List V} (r : RelDs K H M ds vs) : RelDs K H M ds.dropLast vs.dropLast := by
  rw [List.dropLast_eq_take, List.dropLast_eq_take, ← r.length]; exact r.take _
theorem pop_tells : TellsM X "pop" Pr.pop.kindOk (fun d ds => prim .pop bx (d :: ds)) := by
  intro H M S d x rs r hk
  refine ⟨"list", "list.pop", rPop, ⟨PySem.F.plainAttrs_list, PySem.F.slot_list_pop, PySem.F.type_list_pop, mt_pop⟩, tyL rs r (by simpa [Pr.kindOk] using hk), ?_⟩
  intro H2 M2 S2 xs ds Q E rs2 r2 rv _ h
  match ds, rv, h with
  | [], rv, h =>
    cases rv
    replace h : WPE X.K X.mg H2 M2 (dPop d S2) Q E := h
    cases d with
    | ref l =>
      unfold dPop at h
      simp only at h
      cases e : S2[l]? with
      | none => rw [e] at h; exact h.elim
      | some m =>
        rw [e] at h
        cases m with
        | dct _ _ => exact h.elim
        | lst zs =>
          simp only at h
          cases e2 : zs[zs.length - 1]? with
          | none => rw [e2] at h; exact h.elim
          | some y =>
            rw [e2] at h
            obtain ⟨a, vs, rfl, hm, ha, rr⟩ := refL rs2 r2 e
            obtain ⟨u, hu, ru⟩ := rr.get e2
            have hx : Ext H2 M2 (upd H2 a (.lst vs.dropLast)) M2 := Ext.write rs2 hm
            exact ⟨a, vs, u, rfl, rfl, ha, by rw [← rr.length]; exact hu, h u _ _ hx (rs2.write hm ⟨_, rfl, rr.dropLast⟩) (ru.mono hx)⟩
    | _ => exact h.elim
  | [_], _, h => exact h.elim
  | [_, _], _, h => exact h.elim
  | _ :: _ :: _ :: _, _, h => exact h.elim
theorem ixN_seqIndex {n k : Nat} {i : Int} (h : ixN n i = some k) : seqIndex? i n = some k := (ixN_seq h).1
theorem popAt_tells : TellsM X "pop" Pr.popAt.kindOk (fun d ds => prim .popAt bx (d :: ds)) := by
  intro H M S d x rs r hk
  refine ⟨"list", "list.pop", rPopAt, ⟨PySem.F.plainAttrs_list, PySem.F.slot_list_pop, PySem.F.type_list_pop, mt_popAt⟩, tyL rs r (by simpa [Pr.kindOk] using hk), ?_⟩
  intro H2 M2 S2 xs ds Q E rs2 r2 rv _ h
  match ds, rv, h with
  | [], _, h => exact h.elim
  | [y], rv, h =>
    obtain ⟨u, rfl, ry⟩ := rv.one
    replace h : WPE X.K X.mg H2 M2 (dPopAt d y S2) Q E := h
    cases d with
    | ref l =>
      cases y with
      | int i =>
        unfold dPopAt at h
        simp only at h
        cases e : S2[l]? with
        | none => rw [e] at h; exact h.elim
        | some m =>
          rw [e] at h
          cases m with
          | dct _ _ => exact h.elim
          | lst zs =>
            simp only at h
            cases e2 : ixN zs.length i with
            | none => rw [e2] at h; exact h.elim
            | some k =>
              rw [e2] at h
              simp only [R.o_some] at h
              cases e3 : zs[k]? with
              | none => rw [e3] at h; exact h.elim
              | some z =>
                rw [e3] at h
                simp only [R.o_some] at h
                split at h
                · rename_i hi
                  obtain ⟨a, vs, rfl, hm, ha, rr⟩ := refL rs2 r2 e
                  obtain ⟨w, hw, rw'⟩ := rr.get e3
                  have hx : Ext H2 M2 (upd H2 a (.lst (vs.eraseIdx k))) M2 := Ext.write rs2 hm
                  rw [ry.int_]
                  exact ⟨a, vs, i, k, w, rfl, rfl, ha, hi.1, hi.2, by rw [← rr.length]; exact ixN_seqIndex e2, hw, h w _ _ hx (rs2.write hm ⟨_, rfl, rr.eraseIdx k⟩) (rw'.mono hx)⟩
                · exact h.elim
      | _ => exact h.elim
    | _ => cases y <;> exact h.elim
  | [_, _], _, h => exact h.elim
  | _ :: _ :: _ :: _, _, h => exact h.elim
/-- the first place of an equal one; how many are equal -/
def rIdxP (K : PySem.W.Frag) (tp : Bool) : V → List V → Hp → VK → Prop := fun x xs H Q => ∃ (a : Addr) (y : V) (vs : List V) (ps : List PyData) (p : PyData) (j : Nat), x = .ref a ∧ xs = [y] ∧ (if tp then SqT K H a vs else SqL K H a vs) ∧ DpAll K H vs ps ∧ Dp K H y p ∧
  PyData.plainAll ps = true ∧ p.plain = true ∧ min (PyData.depthAll ps) p.depth ≤ 60 ∧ SeqAt.dataPlace ps p = some j ∧ Q (.int (j : Nat)) H
theorem mt_idxL (hu : X.A.units + 64 < cLine) : MtR X "list.index" (rIdxP X.K false) := by
  intro pins s σ H x xs v us Q I rx rxs h
  obtain ⟨a, y, vs, ps, p, j, rfl, rfl, hs, hd, hp, h1, h2, h3, h4, q⟩ := h
  cases rx
  obtain ⟨u, rfl, ru⟩ := rxs.one
  obtain ⟨its, rv, ⟨⟨cls, dd, data, sls⟩, n, ho, hc, hdn, hdt⟩, hlen⟩ := I.list (show SqL X.K H a vs from hs)
  simp only at hc hdt
  subst hc hdt
  obtain ⟨as, r1⟩ := Dp.readsAll I ps _ its hd rv
  obtain ⟨bs, r2⟩ := Dp.reads I p y u hp ru
  obtain ⟨hj, e1, e2⟩ := SeqAt.hit_at (vs := its.toArray) (by simpa using r1) h1 h4
  have hj' : j < its.length := by simpa using hj
  have hl := rv.length
  have hsl := sizeLine_eq
  exact call_meets PySem.F.slot_list_index ⟨_, ho, rfl⟩ PySem.F.entry_list_index (PySem.F.args_list_index_2 _ _) (SeqAt.list_indexAt a its.toArray n dd sls u _ j hj (by omega) e1 e2)
    ⟨ho, SeqAt.items_plain (by simpa using r1) r2 h1 h2 (by omega), ⟨.int _, H, I.tok _, ⟨_, rfl⟩, q⟩⟩
theorem mt_idxT (hu : X.A.units + 64 < cLine) : MtR X "tuple.index" (rIdxP X.K true) := by
  intro pins s σ H x xs v us Q I rx rxs h
  obtain ⟨a, y, vs, ps, p, j, rfl, rfl, hs, hd, hp, h1, h2, h3, h4, q⟩ := h
  cases rx
  obtain ⟨u, rfl, ru⟩ := rxs.one
  obtain ⟨its, rv, ⟨⟨cls, dd, data, sls⟩, ho, hc, n, hdt⟩, hlen⟩ := I.tuple (show SqT X.K H a vs from hs)
  simp only at hc hdt
  subst hc hdt
  obtain ⟨as, r1⟩ := Dp.readsAll I ps _ its hd rv
  obtain ⟨bs, r2⟩ := Dp.reads I p y u hp ru
  obtain ⟨hj, e1, e2⟩ := SeqAt.hit_at (vs := its.toArray) (by simpa using r1) h1 h4
  exact call_meets PySem.F.slot_tuple_index ⟨_, ho, rfl⟩ PySem.F.entry_tuple_index (PySem.F.args_tuple_index_2 _ _) (TI.tuple_indexAt a its.toArray n dd sls u _ j hj e1 e2)
    ⟨ho, SeqAt.items_plain (by simpa using r1) r2 h1 h2 (by omega), ⟨.int _, H, I.tok _, ⟨_, rfl⟩, q⟩⟩
theorem index_tells (hu : X.A.units + 64 < cLine) : TellsM X "index" Pr.indexOf.kindOk (fun d ds => prim .indexOf bx (d :: ds)) := by
  intro H M S d x rs r hk
  have core : ∀ (H2 : Hp) (M2 : Pl) (S2 : Sto) (xs : List V) (ds : List D) (Q : VK) (E : XK) (tp : Bool), RelS X.K H2 M2 S2 → RelD X.K H2 M2 d x → RelDs X.K H2 M2 ds xs → (if tp then kd S2 d = 2 else kd S2 d = 1) → WPE X.K X.mg H2 M2 (prim .indexOf bx (d :: ds) S2) Q E → rIdxP X.K tp x xs H2 Q := by
    intro H2 M2 S2 xs ds Q E tp rs2 r2 rv hk h
    match ds, rv, h with
    | [], _, h => exact h.elim
    | [y], rv, h =>
      obtain ⟨u, rfl, ry⟩ := rv.one
      replace h : WPE X.K X.mg H2 M2 (R.o ((seqOf S2 d).bind (idxOf S2 y)) fun i => .ok (.int i) S2) Q E := h
      have fin : ∀ (a : Addr) (zs : List D) (vs : List V), x = .ref a → seqOf S2 d = some zs → (if tp then SqT X.K H2 a vs else SqL X.K H2 a vs) → RelDs X.K H2 M2 zs vs → rIdxP X.K tp x [u] H2 Q := by
        intro a zs vs ex es hs rr
        rw [es] at h
        replace h : WPE X.K X.mg H2 M2 (R.o (idxOf S2 y zs) fun i => .ok (.int i) S2) Q E := h
        cases e2 : idxOf S2 y zs with
        | none => rw [e2] at h; exact h.elim
        | some j =>
          rw [e2] at h
          obtain ⟨p, ps, z1, z2, z3, z4, z5, z6⟩ := inSeq_ok rs2 ry rr e2
          exact ⟨a, u, vs, ps, p, j, ex, rfl, hs, z2, z1, z4, z3, z5, z6, WPE.ok h rs2 (.int _)⟩
      cases tp with
      | true =>
        obtain ⟨zs, e⟩ := kd2 hk
        have q := rd_rel rs2 r2
        rw [e] at q
        obtain ⟨a, vs, rfl, hs, rr⟩ := q.sqT
        exact fin a zs vs rfl (by unfold seqOf; rw [e]) hs.sq rr
      | false =>
        obtain ⟨zs, e⟩ := kd1 hk
        have q := rd_rel rs2 r2
        rw [e] at q
        obtain ⟨a, vs, rfl, hs, rr⟩ := q.sqL
        exact fin a zs vs rfl (by unfold seqOf; rw [e]) hs rr
    | [_, _], _, h => exact h.elim
    | _ :: _ :: _ :: _, _, h => exact h.elim
  have hk2 : kd S d = 1 ∨ kd S d = 2 := by simpa [Pr.kindOk] using hk
  rcases hk2 with hk | hk
  · refine ⟨"list", "list.index", rIdxP X.K false, ⟨PySem.F.plainAttrs_list, PySem.F.slot_list_index, PySem.F.type_list_index, mt_idxL hu⟩, tyL rs r hk, ?_⟩
    intro H2 M2 S2 xs ds Q E rs2 r2 rv he h
    exact core H2 M2 S2 xs ds Q E false rs2 r2 rv (he ▸ hk) h
  · refine ⟨"tuple", "tuple.index", rIdxP X.K true, ⟨PySem.F.plainAttrs_tuple, PySem.F.slot_tuple_index, PySem.F.type_tuple_index, mt_idxT hu⟩, tyT rs r hk, ?_⟩
    intro H2 M2 S2 xs ds Q E rs2 r2 rv he h
    exact core H2 M2 S2 xs ds Q E true rs2 r2 rv (he ▸ hk) h
end
end Pw

set_option Elab.async false
set_option linter.all false
set_option maxRecDepth 100000
set_option maxHeartbeats 1000000
namespace Pw
open PySem PySem.Spec PyProof.Rows L2
section
variable {X : Cx} {bx : Bool}
def rCntP (K : PySem.W.Frag) : V → List V → Hp → VK → Prop := fun x xs H Q => ∃ (a : Addr) (y : V) (vs : List V) (ps : List PyData) (p : PyData), x = .ref a ∧ xs = [y] ∧ SqL K H a vs ∧ DpAll K H vs ps ∧ Dp K H y p ∧
  PyData.plainAll ps = true ∧ p.plain = true ∧ min (PyData.depthAll ps) p.depth ≤ 60 ∧ Q (.int ((ps.countP fun z => PyData.eqv z p : Nat) : Int)) H
theorem mt_cntL (hu : X.A.units + 64 < cLine) : MtR X "list.count" (rCntP X.K) := by
  intro pins s σ H x xs v us Q I rx rxs h
  obtain ⟨a, y, vs, ps, p, rfl, rfl, hs, hd, hp, h1, h2, h3, q⟩ := h
  cases rx
  obtain ⟨u, rfl, ru⟩ := rxs.one
  obtain ⟨its, rv, hl, hlen⟩ := I.list (show SqL X.K H a vs from hs)
  obtain ⟨as, r1⟩ := Dp.readsAll I ps _ its hd rv
  obtain ⟨bs, r2⟩ := Dp.reads I p y u hp ru
  exact SeqAt.count_list_data hl.isList (by simpa using r1) r2 h1 h2 (by omega) ⟨.int _, H, I.tok _, ⟨_, rfl⟩, q⟩
theorem count_tells (hu : X.A.units + 64 < cLine) : TellsM X "count" Pr.count.kindOk (fun d ds => prim .count bx (d :: ds)) := by
  intro H M S d x rs r hk
  have hk : kd S d = 1 := by simpa [Pr.kindOk] using hk
  refine ⟨"list", "list.count", rCntP X.K, ⟨PySem.F.plainAttrs_list, PySem.F.slot_list_count, PySem.F.type_list_count, mt_cntL hu⟩, tyL rs r hk, ?_⟩
  intro H2 M2 S2 xs ds Q E rs2 r2 rv he h
  match ds, rv, h with
  | [], _, h => exact h.elim
  | [y], rv, h =>
    obtain ⟨u, rfl, ry⟩ := rv.one
    replace h : WPE X.K X.mg H2 M2 (R.o ((lstOf S2 d).bind (countOf S2 y)) fun i => .ok (.int i) S2) Q E := h
    cases e : lstOf S2 d with
    | none => rw [e] at h; exact h.elim
    | some zs =>
      rw [e] at h
      replace h : WPE X.K X.mg H2 M2 (R.o (countOf S2 y zs) fun i => .ok (.int i) S2) Q E := h
      obtain ⟨a, vs, rfl, hs, rr⟩ := lstOf_rel rs2 r2 e
      cases e2 : countOf S2 y zs with
      | none => rw [e2] at h; exact h.elim
      | some j =>
        rw [e2] at h
        obtain ⟨p, ps, z1, z2, z3, z4, z5, z6⟩ := inSeq_ok rs2 ry rr e2
        cases z6
        exact ⟨a, u, vs, ps, p, rfl, rfl, hs, z2, z1, z4, z3, z5, WPE.ok h rs2 (.int _)⟩
  | [_, _], _, h => exact h.elim
  | _ :: _ :: _ :: _, _, h => exact h.elim
def rGet1 : V → List V → Hp → VK → Prop := fun x xs H Q => ∃ a y o, x = .ref a ∧ xs = [y] ∧ DGet H a y o ∧ Q (o.getD .non) H
def rGet2 : V → List V → Hp → VK → Prop := fun x xs H Q => ∃ a y z o, x = .ref a ∧ xs = [y, z] ∧ DGet H a y o ∧ Q (o.getD z) H
theorem mt_get1 (hu : X.A.units + 64 < cLine) : MtR X "dict.get" rGet1 := by
  intro pins s σ H x xs v us Q I rx rxs h
  obtain ⟨a, y, o, rfl, rfl, g, q⟩ := h
  cases rx
  obtain ⟨u, rfl, ru⟩ := rxs.one
  exact d_get1 (by omega) I g ru fun w' s' I' r' => ⟨_, H, I', r', q⟩
theorem mt_get2 (hu : X.A.units + 64 < cLine) : MtR X "dict.get" rGet2 := by
  intro pins s σ H x xs v us Q I rx rxs h
  obtain ⟨a, y, z, o, rfl, rfl, g, q⟩ := h
  cases rx
  obtain ⟨u, u2, rfl, ru, ru2⟩ := rxs.two
  exact d_get2 (by omega) I g ru ru2 fun w' s' I' r' => ⟨_, H, I', r', q⟩
theorem pGet_ok {H : Hp} {M : Pl} {S : Sto} {d k z : D} {x y : V} {Q : VK} {E : XK} (rs : RelS X.K H M S) (r : RelD X.K H M d x) (ry : RelD X.K H M k y) (h : WPE X.K X.mg H M (pGet S d k z) Q E) :
    ∃ a o, x = .ref a ∧ DGet H a y o ∧ ∀ u, RelD X.K H M z u → Q (o.getD u) H := by
  unfold pGet at h
  have q := rd_rel rs r
  cases e : rd S d with
  | dct ks vs =>
    rw [e] at h q
    simp only at h
    obtain ⟨a, kvs, rfl, ha, rfl, rv⟩ := q.dct_
    split at h
    · rename_i hf
      obtain ⟨kk, hk⟩ := keyFits_key hf
      have hx := relD_key hk ry
      subst hx
      have hg := dGet_ok (kvs := kvs) (d := k) hk rv
      refine ⟨a, valV kvs kk, rfl, DGet.k ha, fun u ru => ?_⟩
      cases e2 : dGet k ((kvs.map (·.1)).map kD) vs with
      | none =>
        rw [e2] at hg h
        rw [hg]
        exact h.ok rs ru
      | some w =>
        rw [e2] at hg h
        obtain ⟨v, hv, r2⟩ := hg
        rw [hv]
        exact h.ok rs r2
    · exact h.elim
  | _ => rw [e] at h; exact h.elim
theorem get_tells (hu : X.A.units + 64 < cLine) : TellsM X "get" Pr.get.kindOk (fun d ds => prim .get bx (d :: ds)) := by
  intro H M S d x rs r hk
  have hk : kd S d = 3 := by simpa [Pr.kindOk] using hk
  refine ⟨"dict", "dict.get", rGet1, ⟨PySem.F.plainAttrs_dict, PySem.F.slot_dict_get, PySem.F.type_dict_get, mt_get1 hu⟩, tyD rs r hk, ?_⟩
  intro H2 M2 S2 xs ds Q E rs2 r2 rv he h
  match ds, rv, h with
  | [], _, h => exact h.elim
  | [y], rv, h =>
    obtain ⟨u, rfl, ry⟩ := rv.one
    obtain ⟨a, o, rfl, g, q⟩ := pGet_ok rs2 r2 ry (show WPE X.K X.mg H2 M2 (pGet S2 d y .non) Q E from h)
    exact ⟨a, u, o, rfl, rfl, g, q _ .non⟩
  | [_, _], _, h => exact h.elim
  | _ :: _ :: _ :: _, _, h => exact h.elim
theorem get2_tells (hu : X.A.units + 64 < cLine) : TellsM X "get" Pr.get2.kindOk (fun d ds => prim .get2 bx (d :: ds)) := by
  intro H M S d x rs r hk
  have hk : kd S d = 3 := by simpa [Pr.kindOk] using hk
  refine ⟨"dict", "dict.get", rGet2, ⟨PySem.F.plainAttrs_dict, PySem.F.slot_dict_get, PySem.F.type_dict_get, mt_get2 hu⟩, tyD rs r hk, ?_⟩
  intro H2 M2 S2 xs ds Q E rs2 r2 rv he h
  match ds, rv, h with
  | [], _, h => exact h.elim
  | [_], _, h => exact h.elim
  | [y, z], rv, h =>
    obtain ⟨u, w, rfl, ry, rz⟩ := rv.two
    obtain ⟨a, o, rfl, g, q⟩ := pGet_ok rs2 r2 ry (show WPE X.K X.mg H2 M2 (pGet S2 d y z) Q E from h)
    exact ⟨a, u, w, o, rfl, rfl, g, q _ rz⟩
  | _ :: _ :: _ :: _, _, h => exact h.elim
theorem join_tells : TellsM X "join" Pr.join.kindOk (fun d ds => prim .join bx (d :: ds)) := by
  intro H M S d x rs r hk
  have hk : kd S d = 4 := by simpa [Pr.kindOk] using hk
  refine ⟨"str", "str.join", _, ⟨PySem.F.plainAttrs_str, PySem.F.slot_str_join, PySem.F.type_str_join, mt_join⟩, tyS rs r hk, ?_⟩
  intro H2 M2 S2 xs ds Q E rs2 r2 rv he h
  match ds, rv, h with
  | [], _, h => exact h.elim
  | [y], rv, h =>
    obtain ⟨u, rfl, ry⟩ := rv.one
    replace h : WPE X.K X.mg H2 M2 (pJoin S2 d y) Q E := h
    unfold pJoin at h
    cases d with
    | str sep =>
      simp only at h
      cases e : seqOf S2 y with
      | none => rw [e] at h; exact h.elim
      | some zs =>
        rw [e] at h
        obtain ⟨a, vs, rfl, hs, rr⟩ := seqOf_rel rs2 ry e
        cases e2 : strs? zs with
        | none => rw [show (some zs).bind strs? = strs? zs from rfl, e2] at h; exact h.elim
        | some ss =>
          rw [show (some zs).bind strs? = strs? zs from rfl, e2] at h
          simp only at h
          have := strs_rel rr e2
          subst this
          split at h
          · rename_i hz
            exact ⟨sep, a, ss, r2.str_, rfl, hs.imp id TupAt.sq, hz, h.ok rs2 (.str _)⟩
          · exact h.elim
    | _ => exact h.elim
  | [_, _], _, h => exact h.elim
  | _ :: _ :: _ :: _, _, h => exact h.elim

/-! ## isinstance, ranges -/
def tyName : Ty → String
  | .int => "int" | .bool => "bool" | .str => "str" | .tuple => "tuple" | .list => "list" | .dict => "dict"
theorem boot_ty (t : Ty) : bootBuiltins (Str.ofString (tyName t)) = some (.type (tyName t)) := by
  cases t
  · exact PyProof.Rows.boot_int
  · exact PyProof.Rows.boot_bool
  · exact PyProof.Rows.boot_str
  · exact PyProof.Rows.boot_tuple
  · exact PyProof.Rows.boot_list
  · exact PyProof.Rows.boot_dict
theorem pe_ty {x : Str} {p : Pos} {T : String} (hg : Gl X x) (hm : X.mg x = none) (hv : bootBuiltins x = some (.type T)) (hn : x ≠ "__name__") (hdb : (x == ("__debug__" : Str)) = false) : PE X (.Name x p) (tC (.ty T)) :=
  ⟨fun pins s σ H Q I h => ld_blt I hg hm hv ⟨.ty T, H, I, rfl, h⟩ hn hdb⟩
def tyOfD : D → String
  | .non => "NoneType" | .bl _ => "bool" | .int _ => "int" | .str _ => "str" | .tup _ => "tuple" | .lst _ => "list" | .dct _ _ => "dict" | .ref _ => ""
theorem tyx {H : Hp} {M : Pl} {d : D} {v : V} (r : RdD X.K H M d v) (hd : ∀ l, d ≠ .ref l) : TyX X.K H v (.type (tyOfD d)) := by
  cases d with
  | non => cases r; exact .base .non
  | bl b => cases r; exact .base (.bl b)
  | int i => rw [r.int_]; exact .base (.int i)
  | str x => rw [r.str_]; exact .base (.str x)
  | tup xs =>
    obtain ⟨a, vs, rfl, hs, _⟩ := r.sqT
    rcases hs with ⟨o, h, _⟩ | ⟨o, its, n, hk, hc, _⟩
    · exact .fTuple h
    · exact .kTuple hk hc
  | lst xs =>
    obtain ⟨a, vs, rfl, hs, _⟩ := r.sqL
    rcases hs with (h | ⟨o, h⟩) | ⟨o, its, n, hk, hc, _⟩
    · exact .base (.lst h)
    · exact .base (.frz h)
    · exact .kList hk hc
  | dct ks xs =>
    obtain ⟨a, kvs, rfl, h, _⟩ := r.dct_
    exact .base (.dK h)
  | ref l => exact absurd rfl (hd l)
theorem kit_all : ∀ (d : D) (t : Ty) (b : Bool), tyIs [] d t = some b → (∀ l, d ≠ .ref l) → kitB (tyOfD d) (tyName t) = some b := by
  have k : ∀ (s : String) (t : Ty), s ∈ ["NoneType", "bool", "int", "str", "tuple", "list", "dict"] → kitB s (tyName t) = some (decide (s = tyName t) || (decide (s = "bool") && decide (t = .int))) := by
    intro s t h
    simp only [List.mem_cons, List.not_mem_nil, or_false] at h
    rcases h with rfl | rfl | rfl | rfl | rfl | rfl | rfl <;> cases t <;> decide +kernel
  intro d t b h hd
  cases d with
  | ref l => exact absurd rfl (hd l)
  | _ =>
    rw [show tyOfD _ = _ from rfl]
    rw [k _ t (by simp [tyOfD])]
    cases t <;> (cases h; first | rfl | simp [tyOfD, tyName])
theorem isi_ok {H : Hp} {M : Pl} {S : Sto} {d : D} {x : V} {t : Ty} {b : Bool} {Q : VK} (rs : RelS X.K H M S) (r : RelD X.K H M d x) (h : tyIs S d t = some b) (q : Q (.bl b) H) : rIsi X.K [x, .ty (tyName t)] H Q := by
  have qx := rd_rel rs r
  have hd : ∀ l, rd S d ≠ .ref l := fun l e => by unfold tyIs at h; rw [e] at h; cases h
  have e : tyIs [] (rd S d) t = some b := by
    unfold tyIs at h ⊢
    cases e : rd S d with
    | ref l => exact absurd e (hd l)
    | _ => rw [e] at h; exact h
  exact ⟨x, .ty (tyName t), _, .type (tyName t), b, rfl, .ty _, tyx qx hd, kit_ty (kit_all _ t b e hd), q⟩
theorem tC_pe {X : Cx} {e : Expr} {v : V} (h : PE X e (tC v)) : PE X e (fun σ H Q => Q v H) := h
theorem de_isi {a : Expr} {va : Ev → Sto → R D} {t : Ty} {x : Str} {p p2 pos : Pos} (ha : DE X a va) (hsa : noStar a = true) (hg : Gl X "isinstance") (hm : X.mg "isinstance" = none) (hgT : Gl X x) (hmT : X.mg x = none) (hx : x = Str.ofString (tyName t)) :
    DE X (.Call (.Name "isinstance" p) [a, .Name x p2] [] pos) (fun e S => (va e S).bind fun x S1 => R.opt S1 ((tyIs S1 x t).map .bl)) := by
  intro W tk
  obtain ⟨ta, pa, qa⟩ := ha W tk
  have pT : PE X (.Name x p2) (tC (.ty (tyName t))) := pe_ty hgT hmT (by rw [hx]; exact boot_ty t) (by rw [hx]; cases t <;> decide) (by rw [hx]; cases t <;> decide)
  have pA := pa_cons pa (pa_cons pT pa_nil (starEach_cons rfl)) (starEach_cons (es := [.Name x p2]) hsa)
  refine ⟨_, pe_callB call_isi hg hm PyProof.Rows.boot_isinstance pA (by decide) (by decide) (starEach_cons hsa) (starEach_plain rfl), fun σ H M env S Q re rs h => ?_⟩
  refine qa σ H M env S _ re rs (WPE.bind h fun dx S1 x H1 M1 x1 rs1 rx h1 => ?_)
  cases e : tyIs S1 dx t with
  | none => rw [e] at h1; exact h1.elim
  | some b =>
    rw [e] at h1
    exact isi_ok rs1 rx e (h1.ok rs1 (.bl _))
end
end Pw

set_option Elab.async false
set_option linter.all false
set_option maxRecDepth 100000
set_option maxHeartbeats 1000000
namespace Pw
open PySem PySem.Spec PyProof.Rows L2
section
variable {X : Cx} {bx : Bool}
theorem rg_rel {K : PySem.W.Frag} {H : Hp} {M : Pl} (a b : Int) (n : Nat) (hn : n = (b - a).toNat) : RelDs K H M (rangeD a n) (rgV a b) := by
  subst hn
  unfold rangeD rgV
  have : ∀ l : List Nat, RelDs K H M (l.map fun (k : Nat) => D.int (a + (k : Int))) (l.map fun (k : Nat) => V.int (a + (k : Nat))) := by
    intro l
    induction l with
    | nil => exact .nil
    | cons k l ih => exact .cons (.int _) ih
  exact this _
theorem rangeOf1 {ds : List D} {q : Int × Nat} (h : rangeOf 1 ds = some q) : ∃ j, ds = [.int j] ∧ q = (0, j.toNat) ∧ -(2 ^ 62) ≤ j ∧ j < 2 ^ 62 := by
  unfold rangeOf at h
  split at h
  · rename_i j
    split at h
    · rename_i hj
      cases h
      exact ⟨j, rfl, rfl, hj.2.1, hj.2.2⟩
    · cases h
  · rename_i i j
    split at h
    · rename_i hj; exact absurd hj.1 (by decide)
    · cases h
  · cases h
theorem rangeOf2 {ds : List D} {q : Int × Nat} (h : rangeOf 2 ds = some q) : ∃ i j, ds = [.int i, .int j] ∧ q = (i, (j - i).toNat) ∧ -(2 ^ 62) ≤ i ∧ i < 2 ^ 62 ∧ -(2 ^ 62) ≤ j ∧ j < 2 ^ 62 := by
  unfold rangeOf at h
  split at h
  · rename_i j
    split at h
    · rename_i hj; exact absurd hj.1 (by decide)
    · cases h
  · rename_i i j
    split at h
    · rename_i hj
      cases h
      exact ⟨i, j, rfl, rfl, hj.2.1, hj.2.2.1, hj.2.2.2.1, hj.2.2.2.2⟩
    · cases h
  · cases h
def tTupRgF (te : L2.St → Hp → (Int → Int → Hp → Prop) → Prop) : TE := fun σ H Q => te σ H fun a b H1 => RgOk a b ∧ NewT (rgV a b) H1 Q
theorem pe_tupRgF {e : Expr} {te : L2.St → Hp → (Int → Int → Hp → Prop) → Prop} {p pos : Pos} (hc : X.calm = true) (hg : Gl X "tuple") (hm : X.mg "tuple" = none) (he : PRg X e te) (na : starEach [e] X.env = (false, eval e X.env) :: starEach [] X.env := by rfl) : PE X (.Call (.Name "tuple" p) [e] [] pos) (tTupRgF te) := by
  refine ⟨fun pins s σ H Q I h => ?_⟩
  refine Call_ (ld_blt I hg hm PyProof.Rows.boot_tuple (PyProof.Rows.callWith_type1 (args_cons (thn (he pins s σ H _ I h) fun x s1 ⟨r, a, b, t, u, v, H1, ex, hr, I1, ok, q⟩ => args_nil ?_) na) na))
  subst ex
  obtain ⟨b1, b2, b3, b4, b5⟩ := ok
  refine call_tuple_range (n := (b - a).toNat) (I1.ok.hd hc) hr (small_one b1 b2 b3 b4) (rangeSize_nat a b) b5 fun h' tk acc hk hi => ?_
  have I2 : Inv X pins σ H1 { s1 with heap := h', toks := tk } := I1.kept hk
  have e := Inv.newT (its := acc.toList) (t' := tk) I2 (vals_rg hi) (by rw [rgV_length, sizeLine_eq]; omega) q
  rw [Array.toArray_toList] at e
  exact e
theorem rg_ok {q : Int × Nat} {a b : Int} (h1 : q = (a, (b - a).toNat)) (h2 : q.2 ≤ sizeLine) (z : -(2 ^ 62) ≤ a ∧ a < 2 ^ 62 ∧ -(2 ^ 62) ≤ b ∧ b < 2 ^ 62) : RgOk a b := by
  subst h1
  rw [sizeLine_eq] at h2
  exact ⟨z.1, z.2.1, z.2.2.1, z.2.2.2, by simp only at h2; omega⟩
/-- range by one argument, by two -/
inductive Rg (X : Cx) : List Expr → (Ev → Sto → R (List D)) → Expr → Nat → Prop
  | one {a : Expr} {va : Ev → Sto → R D} {p pos : Pos} (hg : Gl X "range") (hm : X.mg "range" = none) (hs : noStar a = true) (ha : DE X a va) : Rg X [a] (fun e S => (va e S).bind fun x S1 => .ok [x] S1) (.Call (.Name "range" p) [a] [] pos) 1
  | two {a b : Expr} {va vb : Ev → Sto → R D} {p pos : Pos} (hg : Gl X "range") (hm : X.mg "range" = none) (hs : noStar a = true) (hs2 : noStar b = true) (ha : DE X a va) (hb : DE X b vb) : Rg X [a, b] (fun e S => (va e S).bind fun x S1 => (vb e S1).bind fun y S2 => .ok [x, y] S2) (.Call (.Name "range" p) [a, b] [] pos) 2
/-- what is asked of a range's bounds -/
def RgTo (X : Cx) (H : Hp) (M : Pl) (S : Sto) (ds : List D) (n : Nat) (Q : Int → Int → Hp → Prop) : Prop := ∀ a b, rangeOf n ds = some (a, (b - a).toNat) → (-(2 ^ 62) ≤ a ∧ a < 2 ^ 62 ∧ -(2 ^ 62) ≤ b ∧ b < 2 ^ 62) → Q a b H
theorem Rg.run {es : List Expr} {vs : Ev → Sto → R (List D)} {e : Expr} {n : Nat} (h : Rg X es vs e n) (W : WX) (tk : Takes X W) : ∃ t, PRg X e t ∧ ∀ (σ : L2.St) (H : Hp) (M : Pl) (env : Ev) (S : Sto) (Q : Int → Int → Hp → Prop) (f : List D → Sto → R D) (Q' : VK), RelE X.K H M env σ → RelS X.K H M S →
    WPE X.K X.mg H M ((vs env S).bind f) Q' (fun c d H' => W c d σ H') → (∀ ds S, rangeOf n ds = none → f ds S = .bad) →
    (∀ ds S1 H1 M1, Ext H M H1 M1 → RelS X.K H1 M1 S1 → WPE X.K X.mg H1 M1 (f ds S1) Q' (fun c d H' => W c d σ H') → RgTo X H1 M1 S1 ds n Q) → t σ H Q := by
  cases h with
  | @one a va p pos hg hm hs ha =>
    obtain ⟨ta, pa, qa⟩ := ha W tk
    refine ⟨_, prg_1 hg hm pa (starEach_cons hs), fun σ H M env S Q f Q' re rs h hbad k => ?_⟩
    rw [bind_assoc] at h
    refine qa σ H M env S _ re rs (WPE.bind h fun dx S1 x H1 M1 x1 rs1 rx h1 => ?_)
    simp only [R.bind_ok] at h1
    cases e : rangeOf 1 [dx] with
    | none => rw [hbad _ _ e] at h1; exact h1.elim
    | some q =>
      obtain ⟨j, e1, rfl, z1, z2⟩ := rangeOf1 e
      cases e1
      exact ⟨j, rx.int_, k _ S1 H1 M1 x1 rs1 h1 0 j (by rw [e, Int.sub_zero]) ⟨by decide, by decide, z1, z2⟩⟩
  | @two a b va vb p pos hg hm hs hs2 ha hb =>
    obtain ⟨ta, pa, qa⟩ := ha W tk
    obtain ⟨tb, pb, qb⟩ := hb W tk
    refine ⟨_, prg_2 hg hm pa pb (starEach_cons hs) (starEach_cons hs2) (starEach_plain (by simp [hs2])), fun σ H M env S Q f Q' re rs h hbad k => ?_⟩
    rw [bind_assoc] at h
    refine qa σ H M env S _ re rs (WPE.bind h fun dx S1 x H1 M1 x1 rs1 rx h1 => ?_)
    rw [bind_assoc] at h1
    refine qb σ H1 M1 env S1 _ (re.mono x1) rs1 (WPE.bind h1 fun dy S2 y H2 M2 x2 rs2 ry h2 => ?_)
    simp only [R.bind_ok] at h2
    cases e : rangeOf 2 [dx, dy] with
    | none => rw [hbad _ _ e] at h2; exact h2.elim
    | some q =>
      obtain ⟨i, j, e1, rfl, z1, z2, z3, z4⟩ := rangeOf2 e
      cases e1
      exact ⟨i, j, (rx.mono x2).int_, ry.int_, k _ S2 H2 M2 (x1.trans x2) rs2 h2 i j e ⟨z1, z2, z3, z4⟩⟩
theorem de_listRg {es : List Expr} {vs : Ev → Sto → R (List D)} {e : Expr} {n : Nat} {p pos : Pos} (hc : X.calm = true) (hg : Gl X "list") (hm : X.mg "list" = none) (hs : noStar e = true) (h : Rg X es vs e n) :
    DE X (.Call (.Name "list" p) [e] [] pos) (fun e S => (vs e S).bind (prim (.rangeL n) bx)) := by
  intro W tk
  obtain ⟨t, pt, qt⟩ := h.run W tk
  refine ⟨_, pe_listRg hc hg hm pt (starEach_cons hs), fun σ H M env S Q re rs h => ?_⟩
  refine qt σ H M env S _ _ Q re rs h (fun ds S e => by show R.o (rangeOf n ds) _ = _; rw [e]; rfl) fun ds S1 H1 M1 x1 rs1 h1 a b e z => ?_
  replace h1 : WPE X.K X.mg H1 M1 (R.o (rangeOf n ds) fun q => if q.2 ≤ sizeLine then mkL bx (rangeD q.1 q.2) S1 else .bad) Q (fun c d H' => W c d σ H') := h1
  rw [e] at h1
  simp only [R.o_some] at h1
  split at h1
  · rename_i hz
    obtain ⟨_, k⟩ := WPE.mkL rs1 h1
    exact ⟨rg_ok (q := (a, (b - a).toNat)) rfl hz z, fun q hq => k _ q (rg_rel a b _ rfl) hq⟩
  · exact h1.elim
theorem de_tupRg {es : List Expr} {vs : Ev → Sto → R (List D)} {e : Expr} {n : Nat} {p pos : Pos} (hc : X.calm = true) (hg : Gl X "tuple") (hm : X.mg "tuple" = none) (hs : noStar e = true) (h : Rg X es vs e n) :
    DE X (.Call (.Name "tuple" p) [e] [] pos) (fun e S => (vs e S).bind (prim (.rangeT n) bx)) := by
  intro W tk
  obtain ⟨t, pt, qt⟩ := h.run W tk
  refine ⟨_, pe_tupRgF hc hg hm pt (starEach_cons hs), fun σ H M env S Q re rs h => ?_⟩
  refine qt σ H M env S _ _ Q re rs h (fun ds S e => by show R.o (rangeOf n ds) _ = _; rw [e]; rfl) fun ds S1 H1 M1 x1 rs1 h1 a b e z => ?_
  replace h1 : WPE X.K X.mg H1 M1 (R.o (rangeOf n ds) fun q => if q.2 ≤ sizeLine then .ok (.tup (rangeD q.1 q.2)) S1 else .bad) Q (fun c d H' => W c d σ H') := h1
  rw [e] at h1
  simp only [R.o_some] at h1
  split at h1
  · rename_i hz
    exact ⟨rg_ok (q := (a, (b - a).toNat)) rfl hz z, fun q o hq ho => WPE.okT rs1 h1 (rg_rel a b _ rfl) hq ho⟩
  · exact h1.elim
end
end Pw

set_option Elab.async false
set_option linter.all false
set_option maxRecDepth 100000
set_option maxHeartbeats 1000000
namespace Pw
open PySem PySem.Spec PyProof.Rows L2
/-! # a def's promise where nothing is being shown (no repr is under way) -/
structure FnG (P : Program) (w : World) (K : PySem.W.Frag) (mg : Str → Option Value) (base : Heap) (CX : CXT) (k : Nat) (f : Addr) (fd : FuncData) (ps : List Str) (sp : Sp) : Prop where
  arity : ∀ vs H Q E, sp vs H Q E → vs.length = ps.length
  goes : ∀ (A : Around) (fr : List Env) (s : Shared) (H : Hp) (args : Args) (us : List Value) (vs : List V) (Q : VK) (E : XK), A.guards = some [] → Room k A → Env0 P w K mg base A fr s H → BindsTo s fd args (ps.zip us) → Vals vs us → sp vs H Q E →
    codeAny (model P w) A (.call (.ref f) args) (CR CX fr P w H s Q E) s
section
variable {P : Program} {w : World} {K : PySem.W.Frag} {mg : Str → Option Value} {base : Heap} {CX : CXT}
/-- a def by its body -/
theorem fnG_body {k : Nat} {f : Addr} {name qual : Str} {params : Arguments} {body : List Stmt} {scope : Scope} {dV kV doc pm cdv ct oc : Value} {an od : Option Addr} {osl : Array (Option Value)} {N ps : List Str} {sp : Sp}
    (hf : K.lookup f = some ⟨oc, od, .func (PySem.W.fnOf name qual params body scope dV kV doc pm an cdv ct), osl⟩) (hcode : PySem.W.codeIn K cdv qual = true) (sc : FnScope N ps scope) (har : ∀ vs H Q E, sp vs H Q E → vs.length = ps.length)
    (hb : ∀ (A : Around) (fr : List Env) (s : Shared) (H : Hp) (vs : List V) (Q : VK) (E : XK), A.guards = some [] → Room k (A.deeper (envOfC qual scope s.heap.objs.size f cdv)) → sp vs H Q E →
      ∃ t, PSs (cxOf CX P w K mg base N qual scope f cdv A fr s H E) body t ∧ t { nx := fun _ H' => Q .non H', rt := Q } (start N vs) H) :
    FnG P w K mg base CX (k + 1) f (PySem.W.fnOf name qual params body scope dV kV doc pm an cdv ct) ps sp where
  arity := har
  goes := by
    intro A fr s H args us vs Q E hgd room env0 bind rel asked
    have alive : ∀ b o, base.get? b = some o → s.heap.get? b = some o := fun b o z => (env0.bs b o z).1
    have inK : K.In s.heap := env0.mod.kin.keeps alive
    have free : s.heap.NoLimit := env0.mod.nolimit.keeps alive
    have kinds : ∀ y ∈ ps.zip us, scope.names.lookup y.1 = some .local ∨ (scope.names.lookup y.1 = some .cell ∧ ((cellsFrom (s.heap.objs.size + 1) scope.names []).lookup y.1).isSome = true) := by
      rintro ⟨n, v⟩ hy
      cases sc.par n (List.of_mem_zip hy).1 with
      | inl q => exact .inl q
      | inr q => exact .inr ⟨q, PySem.W.cellsFrom_some _ _ _ (.inl q)⟩
    refine codeAny_call_function room.depth (inK _ _ hf) rfl sc.co sc.gen rfl (PySem.W.codeRec_of inK hcode) (bind _ _ _ _ (wpAny_newFunctionEnv_cells sc.kind kinds fun env he s1 x => ?_))
    subst he
    refine ⟨free.keeps x.toInCall.keep, codeAny_func ?_⟩
    obtain ⟨t, pt, ht⟩ := hb A fr s H vs Q E hgd (room.deeper _) asked
    have I0 : Inv (cxOf CX P w K mg base N qual scope f cdv A fr s H E) [] (start N vs) H s1 := inv_start sc room.hd env0 (har _ _ _ _ asked) rel x
    refine wpAny_mono (pt.run [] s1 (start N vs) H _ I0 ht) ?_ (fun _ _ z => z)
    intro fl s' z
    cases fl with
    | ret u =>
      obtain ⟨v, σ2, H2, I2, rv, q⟩ := z
      exact ⟨v, H2, I2.os, I2.bare, I2.base, I2.hok, rv, q⟩
    | next =>
      obtain ⟨σ2, H2, I2, q⟩ := z
      exact ⟨V.non, H2, I2.os, I2.bare, I2.base, I2.hok, rfl, q⟩
    | brk => obtain ⟨_, _, _, q⟩ := z; exact False.elim q
    | cont => obtain ⟨_, _, _, q⟩ := z; exact False.elim q
theorem fnG_def {x qual : Str} {params : Arguments} {body : List Stmt} {scope : Scope} {dvs : List V} {kws : List (Str × V)} {f : Addr} {fd : FuncData} {N ps : List Str} {k : Nat} {sp : Sp} (F : FunD K x qual params body scope dvs kws f fd) (sc : FnScope N ps scope)
    (har : ∀ vs H Q E, sp vs H Q E → vs.length = ps.length)
    (hb : ∀ (cdv : Value) (A : Around) (fr : List Env) (s : Shared) (H : Hp) (vs : List V) (Q : VK) (E : XK), A.guards = some [] → Room k (A.deeper (envOfC qual scope s.heap.objs.size f cdv)) → sp vs H Q E →
      ∃ t, PSs (cxOf CX P w K mg base N qual scope f cdv A fr s H E) body t ∧ t { nx := fun _ H' => Q .non H', rt := Q } (start N vs) H) : FnG P w K mg base CX (k + 1) f fd ps sp := by
  obtain ⟨_, _, _, _, _, _, _, cdv, _, _, rfl, look, code, _, _⟩ := F.ex
  exact fnG_body look code sc har (hb cdv)
/-- the law's def is called at the top -/
theorem topG {mb : Str → Option Value} {k : Nat} {fa a : Addr} {fd : FuncData} {x : Str} {sp : Sp} {s₁ : Shared} {vs : List Value} {ns : List Int}
    (inK : K.In s₁.heap) (glob : s₁.heap.Ns mainGlobals mg) (blt : s₁.heap.Ns builtinsNs mb) (bltB : ∀ x : Str, x ≠ "__name__" → mb x = bootBuiltins x) (noLim : s₁.heap.NoLimit) (noGen : s₁.gens = #[])
    (script : s₁.heap.get? a = some { cls := .type "list", data := .seq vs.toArray }) (whole : IntsAre vs ns) (short : ns.length ≤ sizeLine) (room : Room k callerA)
    (F : ∀ base : Heap, K.In base → base.Ns mainGlobals mg → FnG P w K mg base CX k fa fd [x] sp) (bind : ∀ (s : Shared) (u : Value), BindsTo s fd ⟨[u], []⟩ [(x, u)])
    (asked : ∀ H : Hp, Only H → SqL K H a (ns.map V.int) → sp [.ref a] H (fun v _ => v = .bl true) fun _ _ _ => False)
    (noX : ∀ H e s', CX [] H s₁ (fun _ _ _ => False) e s' → False) :
    codeAny (model P w) callerA (.call (.ref fa) ⟨[.ref a], []⟩) (fun r s' => r = .ok (.ret (.bool true)) ∧ OldK s₁.heap s'.heap ∧ s'.os = s₁.os ∧ AllBare s'.gens) s₁ := by
  have relV : Vals (ns.map V.int) vs := vals_ints whole
  have len : vs.length = ns.length := whole.length
  -- what is tracked at the start: at most the script
  have go : ∀ H : Hp, Only H → SqL K H a (ns.map V.int) → HOk P w H s₁.heap → (∀ b, b ≠ a → H b = none) → (K.lookup a ≠ none → H a = none) →
      codeAny (model P w) callerA (.call (.ref fa) ⟨[.ref a], []⟩) (fun r s' => r = .ok (.ret (.bool true)) ∧ OldK s₁.heap s'.heap ∧ s'.os = s₁.os ∧ AllBare s'.gens) s₁ := by
    intro H only seq ok others own
    have dictFree : ∀ {b : Addr} {o : Obj} {es : Array DictEntry} {ep : Nat}, s₁.heap.get? b = some o → o.data = .dict es ep → H b = none := by
      intro b o es ep hb hd
      by_cases e : b = a
      · subst e
        rw [script] at hb
        cases hb
        cases hd
      · exact others b e
    have keepNs : ∀ {b : Addr} {m : Str → Option Value}, s₁.heap.Ns b m → (hidT s₁.heap H).Ns b m := by
      rintro b m ⟨o, es, ep, h1, h2, h3⟩
      exact ⟨o, es, ep, hidT_get h1 (dictFree h1 h2), h2, h3⟩
    have keepK : K.In (hidT s₁.heap H) := by
      intro b o hb
      refine hidT_get (inK b o hb) ?_
      by_cases e : b = a
      · subst e
        exact own (by rw [hb]; exact fun z => nomatch z)
      · exact others b e
    have mod : Mod K mg (hidT s₁.heap H) := by
      obtain ⟨mc, c1, c2⟩ := noLim
      exact ⟨keepK, keepNs glob, ⟨mb, keepNs blt, bltB⟩, ⟨mc, keepNs c1, c2⟩⟩
    have env : Env0 P w K mg (hidT s₁.heap H) callerA [] s₁ H :=
      { frames := rfl, mod := mod, bs := fun b o z => of_hidT z, bsz := Nat.le_of_eq (hidT_size _ _), funs := trivial, frf := (fun b z => by cases (show b ∈ ([] : List Addr) from z)), hok := ok, bare := .of_eq noGen }
    refine codeAny_mono ((F _ keepK (keepNs glob)).goes callerA [] s₁ H ⟨[.ref a], []⟩ [.ref a] [.ref a] _ _ rfl room env (bind s₁ (.ref a)) (.cons rfl .nil) (asked H only seq)) ?_
    intro r s' hr
    match r, hr with
    | .error e, hr => exact (noX H e s' hr).elim
    | .ok .next, hr => exact False.elim hr
    | .ok .brk, hr => exact False.elim hr
    | .ok .cont, hr => exact False.elim hr
    | .ok (.ret u), ⟨v, H2, os, bare, un, ok2, rv, hv⟩ =>
      replace hv : v = .bl true := hv
      subst hv
      obtain rfl : u = Value.bool true := rv
      refine ⟨rfl, OldK.of_keep fun b o hb => ?_, os, bare⟩
      cases hh : H b with
      | none => exact un.keep b o hb hh (fun z => nomatch (show b ∈ ([] : List Addr) from z)) (fun z => nomatch z)
      | some t =>
        obtain z | ⟨ob, xs, z⟩ := only b
        · rw [z] at hh; cases hh
        · obtain ⟨e1, _⟩ := ok b _ z
          obtain ⟨e2, _⟩ := ok2 b _ (un.frzs b ob _ z)
          rw [hb] at e1
          cases e1
          exact e2
  cases hk : K.lookup a with
  | some o =>
    have e := inK a o hk
    rw [script] at e
    cases e
    exact go (fun _ => none) (fun _ => .inl rfl) (.inr ⟨_, vs.toArray, _, hk, rfl, rfl, rfl, by rw [List.size_toArray, len]; exact short, by simpa using relV⟩) (fun b u z => nomatch (show (none : Option HO) = some u from z)) (fun _ _ => rfl) (fun _ => rfl)
  | none =>
    let H0 : Hp := fun b => if b = a then some (.frz { cls := .type "list", data := .seq vs.toArray } (.lst (ns.map V.int))) else none
    have at_a : H0 a = some (.frz { cls := .type "list", data := .seq vs.toArray } (.lst (ns.map V.int))) := if_pos rfl
    have off : ∀ b, b ≠ a → H0 b = none := fun b n => if_neg n
    refine go H0 (fun b => ?_) (.inl (.inr ⟨_, at_a⟩)) (fun b u z => ?_) off (fun z => absurd hk z)
    · by_cases e : b = a
      · subst e; exact .inr ⟨_, _, at_a⟩
      · exact .inl (off b e)
    · by_cases e : b = a
      · subst e
        rw [at_a] at z
        cases z
        exact ⟨script, by rw [List.length_map]; exact short, vs, _, relV, script⟩
      · rw [off b e] at z; cases z
end
end Pw

set_option Elab.async false
set_option linter.all false
set_option maxRecDepth 100000
set_option maxHeartbeats 1000000
namespace Pw
open PySem PySem.Spec PyProof.Rows L2

/-! ## readings of one form -/
def tE (K : PySem.W.Frag) (mg : Str → Option Value) (v : Ev → Sto → R D) (W : WX) : TE := fun σ H Q => ∃ M env S, RelE K H M env σ ∧ RelS K H M S ∧ WPE K mg H M (v env S) Q (fun c d H' => W c d σ H')
def tT (K : PySem.W.Frag) (mg : Str → Option Value) (v : Ev → Sto → R Bool) (W : WX) : TT := fun σ H Q => ∃ M env S, RelE K H M env σ ∧ RelS K H M S ∧ WPT K mg H M (v env S) Q (fun c d H' => W c d σ H')
def tA (K : PySem.W.Frag) (mg : Str → Option Value) (v : Ev → Sto → R (List D)) (W : WX) : TA := fun σ H Q => ∃ M env S, RelE K H M env σ ∧ RelS K H M S ∧ WPA K mg H M (v env S) Q (fun c d H' => W c d σ H')
section
variable {X : Cx} {e : Expr} {es : List Expr} {W : WX}
theorem DE.canon {v : Ev → Sto → R D} (h : DE X e v) (tk : Takes X W) : PE X e (tE X.K X.mg v W) := by
  obtain ⟨t, p, q⟩ := h W tk
  exact ⟨fun pins s σ H Q I ⟨M, env, S, re, rs, h⟩ => p.run pins s σ H Q I (q σ H M env S Q re rs h)⟩
theorem DT.canon {v : Ev → Sto → R Bool} (h : DT X e v) (tk : Takes X W) : PT X e (tT X.K X.mg v W) := by
  obtain ⟨t, p, q⟩ := h W tk
  exact ⟨fun pins s σ H Q I ⟨M, env, S, re, rs, h⟩ => p.run pins s σ H Q I (q σ H M env S Q re rs h)⟩
theorem DA.canon {v : Ev → Sto → R (List D)} (h : DA X es v) (tk : Takes X W) : PA X es (tA X.K X.mg v W) := by
  obtain ⟨t, p, q⟩ := h W tk
  exact ⟨fun pos pins s σ H Q I ⟨M, env, S, re, rs, h⟩ => p.run pos pins s σ H Q I (q σ H M env S Q re rs h)⟩
theorem de_of {v : Ev → Sto → R D} (h : ∀ W, Takes X W → PE X e (tE X.K X.mg v W)) : DE X e v := fun W tk => ⟨_, h W tk, fun σ H M env S Q re rs h => ⟨M, env, S, re, rs, h⟩⟩
end

/-! ## calls of defs -/
def spC (K : PySem.W.Frag) (mg : Str → Option Value) (C : Nat → List D → Sto → R D) (f : Nat) : Sp := fun vs H Q E => ∃ M S ds, RelDs K H M ds vs ∧ RelS K H M S ∧ WPE K mg H M (C f ds S) Q E
/-- keyword values in the parameters' order -/
def gO {α : Type} (z : α) (ord : List Nat) (us ws : List α) : List α := ord.map fun j => (us ++ ws).getD j z
structure KSh where
  f : Nat
  n : Nat
  ks : List Str
  ord : List Nat
  deriving DecidableEq
structure FnsOk (X : Cx) (C : Nat → List D → Sto → R D) (FN : List Str) (PS : Nat → List Str) (KS : List KSh) (k : Nat) : Prop where
  at_ : ∀ (f : Nat) (x : Str), FN[f]? = some x → (x == ("__debug__" : Str)) = false ∧ ∃ fa fd, X.mg x = some (.ref fa) ∧ PySem.W.keepIn X.K (.ref fa) = true ∧ Binds X.K fd (PS f) [] ∧
    FnG X.prog X.w X.K X.mg X.base (L2.CX X.prog X.w) k fa fd (PS f) (spC X.K X.mg C f) ∧ ∀ q ∈ KS, q.f = f → KBn X.K fd (PS f) q.n q.ks (gO Value.none q.ord) (gO V.non q.ord)
section
variable {X : Cx} {C : Nat → List D → Sto → R D} {FN : List Str} {PS : Nat → List Str} {KS : List KSh} {k f : Nat} {x : Str} {p pos : Pos} {e : Expr} {es : List Expr}
theorem run_fnG {pins : List (Addr × Obj)} {σ : L2.St} {H : Hp} {s : Shared} {Q : VK} {us : List Value} {vs : List V} {CX : CXT} {fa : Addr} {fd : FuncData} {ps : List Str} {sp : Sp} {E : XK}
    (F : FnG X.prog X.w X.K X.mg X.base CX k fa fd ps sp) (hgd : X.A.guards = some []) (hr : Room k X.A) (hb : Binds X.K fd ps []) (hx : PassesAt CX X σ E)
    (I : Inv X pins σ H s) (r : Vals vs us) (h : sp vs H Q E) : wpAny (model X.prog X.w) X.A (call (.ref fa) us) (EP X pins σ Q) X.xe s := by
  have z := hb s us I.kIn (by rw [List.append_nil, ← r.length]; exact F.arity _ _ _ _ h)
  rw [List.append_nil] at z
  refine wpAny_call (codeAny_mono (F.goes X.A X.stack s H ⟨us, []⟩ us vs Q E hgd hr I.env0 z r h) ?_)
  intro res s' q
  match res, q with
  | .error e, q => exact hx pins H s e s' I q
  | .ok (.ret u), q => exact I.after q
  | .ok .next, q => exact False.elim q
  | .ok .brk, q => exact False.elim q
  | .ok .cont, q => exact False.elim q
theorem pe_callG {CX : CXT} {fa : Addr} {fd : FuncData} {ps : List Str} {sp : Sp} {E : L2.St → XK} {t : TA}
    (F : FnG X.prog X.w X.K X.mg X.base CX k fa fd ps sp) (hgd : X.A.guards = some []) (hr : Room k X.A) (hg : Gl X x) (hm : X.mg x = some (.ref fa)) (hk : PySem.W.keepIn X.K (.ref fa) = true) (hb : Binds X.K fd ps []) (hx : ∀ σ, PassesAt CX X σ (E σ))
    (ha : PA X (e :: es) t) (hdb : (x == ("__debug__" : Str)) = false) (he : starEach (e :: es) X.env = (false, eval e X.env) :: starEach es X.env) (hpl : (backTo pos (starEach es X.env)).any (·.1) = false) :
    PE X (.Call (.Name x p) (e :: es) [] pos) (tCallS sp E t) :=
  ⟨fun pins s σ H Q I h => wpAny_Call_Name_kw (ld_glob I hg hm (PySem.W.callWith_K (h₀ := X.base) I.ok.mod.kin hk (thn (ha.run pos pins s σ H _ I h) fun us s1 ⟨vs, H1, I1, r, q⟩ => ⟨I1.kIn, run_fnG F hgd hr hb (hx σ) I1 r q⟩) he hpl) hdb)⟩
theorem de_call {vs : Ev → Sto → R (List D)} (F : FnsOk X C FN PS KS k) (hgd : X.A.guards = some []) (hr : Room k X.A) (hf : FN[f]? = some x) (hg : Gl X x) (hs : (e :: es).all noStar = true) (ha : DA X (e :: es) vs) :
    DE X (.Call (.Name x p) (e :: es) [] pos) (fun env S => (vs env S).bind fun ds S1 => C f ds S1) := by
  intro W tk
  obtain ⟨ta, pa, qa⟩ := ha W tk
  obtain ⟨hdb, fa, fd, hm, hk, hb, hF, _⟩ := F.at_ f x hf
  rw [List.all_cons, Bool.and_eq_true] at hs
  refine ⟨_, pe_callG hF hgd hr hg hm hk hb (fun σ => passAt tk σ) pa hdb (starEach_cons hs.1) (starEach_plain hs.2), fun σ H M env S Q re rs h => ?_⟩
  exact qa σ H M env S _ re rs (WPA.bindE h fun ds S1 xs H1 M1 x1 rs1 rx h1 => ⟨M1, S1, ds, rx, rs1, h1⟩)
/-! ### .. with keywords -/
theorem run_fnNS {pins : List (Addr × Obj)} {σ : L2.St} {H : Hp} {s : Shared} {Q : VK} {us ws : List Value} {vs zs : List V} {CX : CXT} {n : Nat} {fa : Addr} {fd : FuncData} {ps ks : List Str} {sp : Sp} {E : XK} {g : List Value → List Value → List Value} {gV : List V → List V → List V}
    (F : FnG X.prog X.w X.K X.mg X.base CX k fa fd ps sp) (hgd : X.A.guards = some []) (hr : Room k X.A) (hb : KBn X.K fd ps n ks g gV) (hx : PassesAt CX X σ E)
    (I : Inv X pins σ H s) (r : Vals vs us) (rz : Vals zs ws) (l1 : vs.length = n) (l2 : zs.length = ks.length) (h : sp (gV vs zs) H Q E) : wpAny (model X.prog X.w) X.A (call (.ref fa) us (ks.zip ws)) (EP X pins σ Q) X.xe s := by
  have r2 := hb.rel r rz
  refine wpAny_call (codeAny_mono (F.goes X.A X.stack s H ⟨us, ks.zip ws⟩ (g us ws) (gV vs zs) Q E hgd hr I.env0 (hb.to s us ws I.kIn (r.length.symm.trans l1) (rz.length.symm.trans l2)) r2 h) fun r s' hq => ?_)
  cases r with
  | error e => exact hx pins H s e s' I hq
  | ok fl =>
    cases fl with
    | ret u => exact I.after hq
    | next => exact False.elim hq
    | brk => exact False.elim hq
    | cont => exact False.elim hq
/-- the keywords' names and expressions -/
def kwNames : List Keyword → Option (List Str)
  | [] => some []
  | ⟨some x, _, _⟩ :: r => (kwNames r).map (x :: ·)
  | ⟨none, _, _⟩ :: _ => none
def kwExprs : List Keyword → List Expr
  | [] => []
  | ⟨_, e, _⟩ :: r => e :: kwExprs r
theorem kw_all {env : Env} : ∀ {kws : List Keyword} {ks : List Str}, kwNames kws = some ks → (backToKw pos (keywordEach kws env)).all (·.1.isSome) = true
  | [], _, _ => rfl
  | ⟨some x, e, _⟩ :: r, ks, h => by
    have h : (kwNames r).map (x :: ·) = some ks := h
    obtain ⟨ks', h', _⟩ := Option.map_eq_some_iff.mp h
    show (true && (backToKw pos (keywordEach r env)).all (·.1.isSome)) = true
    rw [kw_all h']; rfl
  | ⟨none, _, _⟩ :: _, _, h => by cases h
theorem kw_none {env : Env} : ∀ {kws : List Keyword} {ks : List Str}, kwNames kws = some ks → (backToKw pos (keywordEach kws env)).any (·.1.isNone) = false
  | [], _, _ => rfl
  | ⟨some x, e, _⟩ :: r, ks, h => by
    have h : (kwNames r).map (x :: ·) = some ks := h
    obtain ⟨ks', h', _⟩ := Option.map_eq_some_iff.mp h
    show (false || (backToKw pos (keywordEach r env)).any (·.1.isNone)) = false
    rw [kw_none h']; rfl
  | ⟨none, _, _⟩ :: _, _, h => by cases h
theorem kw_names {env : Env} : ∀ {kws : List Keyword} {ks : List Str}, kwNames kws = some ks → (backToKw pos (keywordEach kws env)).filterMap (·.1) = ks
  | [], _, h => by cases h; rfl
  | ⟨some x, e, _⟩ :: r, ks, h => by
    have h : (kwNames r).map (x :: ·) = some ks := h
    obtain ⟨ks', h', rfl⟩ := Option.map_eq_some_iff.mp h
    show x :: (backToKw pos (keywordEach r env)).filterMap (·.1) = x :: ks'
    rw [kw_names h']
  | ⟨none, _, _⟩ :: _, _, h => by cases h
/-- the keywords' values -/
def DK (X : Cx) (kws : List Keyword) (v : Ev → Sto → R (List D)) : Prop := ∀ W, Takes X W → ∃ t, PK X kws t ∧ ∀ (σ : L2.St) (H : Hp) (M : Pl) (env : Ev) (S : Sto) (Q : List V → Hp → Prop), RelE X.K H M env σ → RelS X.K H M S →
  WPA X.K X.mg H M (v env S) Q (fun c d H' => W c d σ H') → t σ H Q
theorem dk_nil : DK X [] (fun _ S => .ok [] S) := fun W tk => ⟨_, pk_nil, fun σ H M env S Q re rs h => h [] H M (Ext.refl _ _) rs .nil⟩
theorem dk_cons {nm : Option Str} {kpos : Pos} {kws : List Keyword} {v : Ev → Sto → R D} {vs : Ev → Sto → R (List D)} (ha : DE X e v) (hr : DK X kws vs) :
    DK X (⟨nm, e, kpos⟩ :: kws) (fun e S => (v e S).bind fun x S1 => (vs e S1).bind fun xs S2 => .ok (x :: xs) S2) := by
  intro W tk
  obtain ⟨ta, pa, qa⟩ := ha W tk
  obtain ⟨tb, pb, qb⟩ := hr W tk
  refine ⟨_, pk_cons pa pb, fun σ H M env S Q re rs h => ?_⟩
  refine qa σ H M env S _ re rs (WPE.bindA h fun dx S1 x H1 M1 x1 rs1 rx h1 => ?_)
  refine qb σ H1 M1 env S1 _ (re.mono x1) rs1 (WPA.bind h1 fun dy S2 y H2 M2 x2 rs2 ry h2 => ?_)
  exact h2 (x :: y) H2 M2 (Ext.refl _ _) rs2 (.cons (rx.mono x2) ry)
def tCallNS (n m : Nat) (sp : Sp) (gV : List V → List V → List V) (E : L2.St → XK) (t tk : TA) : TE := fun σ H Q => t σ H fun vs H1 => tk σ H1 fun zs H2 => vs.length = n ∧ zs.length = m ∧ sp (gV vs zs) H2 Q (E σ)
theorem pe_callNS {CX : CXT} {n : Nat} {fa : Addr} {fd : FuncData} {ps ks : List Str} {sp : Sp} {E : L2.St → XK} {kws : List Keyword} {t tk : TA} {g : List Value → List Value → List Value} {gV : List V → List V → List V}
    (F : FnG X.prog X.w X.K X.mg X.base CX k fa fd ps sp) (hgd : X.A.guards = some []) (hr : Room k X.A) (hg : Gl X x) (hm : X.mg x = some (.ref fa)) (hk : PySem.W.keepIn X.K (.ref fa) = true) (hb : KBn X.K fd ps n ks g gV) (hx : ∀ σ, PassesAt CX X σ (E σ))
    (ha : PA X es t) (hn : es = [] → ∀ σ H Q, t σ H Q → Q [] H) (hkw : PK X kws tk) (hks : kwNames kws = some ks) (hdb : (x == ("__debug__" : Str)) = false) (hs : es.all noStar = true) :
    PE X (.Call (.Name x p) es kws pos) (tCallNS n ks.length sp gV E t tk) := by
  refine ⟨fun pins s σ H Q I h => ?_⟩
  refine wpAny_Call_Name_kw (ld_glob I hg hm ?_ hdb)
  cases es with
  | nil =>
    refine PySem.W.callWith_KW0 (h₀ := X.base) I.ok.mod.kin hk (kw_all hks) ?_ (by rw [kw_none hks]; rfl)
    refine thn (hkw.run pos pins s σ H _ I (hn rfl _ _ _ h)) fun ws s2 ⟨zs, H2, I2, rz, l1, l2, q2⟩ => ⟨I2.kIn, ?_⟩
    rw [kw_names hks]
    exact run_fnNS F hgd hr hb (hx σ) I2 .nil rz l1 l2 q2
  | cons e es =>
    have hs' := hs
    rw [List.all_cons, Bool.and_eq_true] at hs
    refine PySem.W.callWith_KW (h₀ := X.base) I.ok.mod.kin hk (kw_all hks) (thn (ha.run pos pins s σ H _ I h) fun us s1 ⟨vs, H1, I1, r, q⟩ => ?_) (by rw [kw_none hks, starEach_plain hs']; rfl) (starEach_cons hs.1)
    refine thn (hkw.run pos pins s1 σ H1 _ I1 q) fun ws s2 ⟨zs, H2, I2, rz, l1, l2, q2⟩ => ⟨I2.kIn, ?_⟩
    rw [kw_names hks]
    exact run_fnNS F hgd hr hb (hx σ) I2 r rz l1 l2 q2
theorem RelDs.getD {K : PySem.W.Frag} {H : Hp} {M : Pl} : ∀ {ds : List D} {vs : List V}, RelDs K H M ds vs → ∀ j, RelD K H M (ds.getD j .non) (vs.getD j .non)
  | _, _, .nil, _ => .non
  | _, _, .cons r _, 0 => r
  | _, _, .cons _ t, j + 1 => by
    simpa using RelDs.getD t j
theorem RelDs.ord {K : PySem.W.Frag} {H : Hp} {M : Pl} {ds es : List D} {vs us : List V} (r : RelDs K H M ds vs) (q : RelDs K H M es us) (ord : List Nat) : RelDs K H M (ord.map fun j => (ds ++ es).getD j .non) (gO V.non ord vs us) := by
  unfold gO
  have z := r.append q
  induction ord with
  | nil => exact .nil
  | cons j l ih => exact .cons (z.getD j) ih
theorem de_callk {vs ws : Ev → Sto → R (List D)} {kws : List Keyword} {q : KSh} (F : FnsOk X C FN PS KS k) (hgd : X.A.guards = some []) (hr : Room k X.A) (hf : FN[q.f]? = some x) (hg : Gl X x) (hs : es.all noStar = true) (hq : q ∈ KS) (hks : kwNames kws = some q.ks)
    (ha : DA X es vs) (hw : DK X kws ws) (hl : ∀ env S ds S1, vs env S = .ok ds S1 → ds.length = q.n) (hl2 : ∀ env S ds S1, ws env S = .ok ds S1 → ds.length = q.ks.length) (h0 : es = [] → vs = fun _ S => .ok [] S) :
    DE X (.Call (.Name x p) es kws pos) (fun env S => (vs env S).bind fun ds S1 => (ws env S1).bind fun zs S2 => C q.f (q.ord.map fun j => (ds ++ zs).getD j .non) S2) := by
  intro W tk
  obtain ⟨hdb, fa, fd, hm, hk, _, hF, hB⟩ := F.at_ q.f x hf
  have core : ∀ {ta tb : TA} (pa : PA X es ta) (hn : es = [] → ∀ σ H Q, ta σ H Q → Q [] H) (pb : PK X kws tb)
      (qa : ∀ (σ : L2.St) (H : Hp) (M : Pl) (env : Ev) (S : Sto) (Q : List V → Hp → Prop), RelE X.K H M env σ → RelS X.K H M S → WPA X.K X.mg H M (vs env S) Q (fun c d H' => W c d σ H') → ta σ H Q)
      (qb : ∀ (σ : L2.St) (H : Hp) (M : Pl) (env : Ev) (S : Sto) (Q : List V → Hp → Prop), RelE X.K H M env σ → RelS X.K H M S → WPA X.K X.mg H M (ws env S) Q (fun c d H' => W c d σ H') → tb σ H Q),
      ∃ t, PE X (.Call (.Name x p) es kws pos) t ∧ ∀ (σ : L2.St) (H : Hp) (M : Pl) (env : Ev) (S : Sto) (Q : VK), RelE X.K H M env σ → RelS X.K H M S →
        WPE X.K X.mg H M ((vs env S).bind fun ds S1 => (ws env S1).bind fun zs S2 => C q.f (q.ord.map fun j => (ds ++ zs).getD j .non) S2) Q (fun c d H' => W c d σ H') → t σ H Q := by
    intro ta tb pa hn pb qa qb
    refine ⟨_, pe_callNS hF hgd hr hg hm hk (hB q hq rfl) (fun σ => passAt tk σ) pa hn pb hks hdb hs, fun σ H M env S Q re rs h => ?_⟩
    refine qa σ H M env S _ re rs ?_
    cases e1 : vs env S with
    | bad => rw [e1] at h; exact h.elim
    | exc z S' => rw [e1] at h; exact h
    | ok ds S1 =>
      rw [e1] at h
      intro xs H1 M1 x1 rs1 rx
      replace h := WPE.ext x1 h
      refine qb σ H1 M1 env S1 _ (re.mono x1) rs1 ?_
      simp only [R.bind_ok] at h
      cases e2 : ws env S1 with
      | bad => rw [e2] at h; exact h.elim
      | exc z S' => rw [e2] at h; exact h
      | ok zs S2 =>
        rw [e2] at h
        intro ys H2 M2 x2 rs2 ry
        replace h := WPE.ext x2 h
        have rx2 := rx.mono x2
        exact ⟨by rw [← rx.length]; exact hl _ _ _ _ e1, by rw [← ry.length]; exact hl2 _ _ _ _ e2, M2, S2, _, rx2.ord ry q.ord, rs2, h⟩
  obtain ⟨tb, pb, qb⟩ := hw W tk
  by_cases he : es = []
  · subst he
    have := h0 rfl
    subst this
    exact core pa_nil (fun _ σ H Q h => h) pb (fun σ H M env S Q re rs h => h [] H M (Ext.refl _ _) rs .nil) qb
  · obtain ⟨ta, pa, qa⟩ := ha W tk
    exact core pa (fun h => absurd h he) pb qa qb
end
end Pw

set_option Elab.async false
set_option linter.all false
set_option maxRecDepth 100000
set_option maxHeartbeats 1000000
namespace Pw
open PySem PySem.Spec PyProof.Rows L2

/-! ## as Ext, but what is reserved may change, and more may be reserved -/
structure ExtW (H : Hp) (M : Pl) (H' : Hp) (M' : Pl) : Prop where
  pre : ∃ T, M'.m = M.m ++ T
  res : ∀ a ∈ M.r, a ∈ M'.r
  resN : ∀ a ∈ M'.r, a ∈ M.r ∨ H a = none
  keep : ∀ a o, a ∉ M.m → a ∉ M.r → H a = some o → H' a = some o ∧ a ∉ M'.m
  tups : ∀ a xs, H a = some (.tup xs) → H' a = some (.tup xs)
  frzs : ∀ a o u, H a = some (.frz o u) → H' a = some (.frz o u)
  dom : ∀ a o, H a = some o → ∃ o', H' a = some o'
section
variable {K : PySem.W.Frag} {H H' H2 : Hp} {M M' M2 : Pl} {S S' : Sto}
theorem ExtW.refl (H : Hp) (M : Pl) : ExtW H M H M := ⟨⟨[], by simp⟩, fun _ h => h, fun _ h => .inl h, fun _ _ n _ h => ⟨h, n⟩, fun _ _ h => h, fun _ _ _ h => h, fun _ o h => ⟨o, h⟩⟩
theorem Ext.w (x : Ext H M H' M') (rs : RelS K H' M' S') : ExtW H M H' M' :=
  ⟨x.pre, fun a h => by rw [x.res]; exact h, fun a h => by rw [x.res] at h; exact .inl h, fun a o n _ h => x.keep a o n h, x.tups, x.frzs, fun a o h => by
    by_cases hm : a ∈ M.m
    · obtain ⟨T, e⟩ := x.pre
      obtain ⟨u, hu, _⟩ := rs.tracked (a := a) (by rw [e]; exact List.mem_append_left _ hm)
      exact ⟨u, hu⟩
    · exact ⟨o, (x.keep a o hm h).1⟩⟩
theorem ExtW.trans (a : ExtW H M H' M') (b : ExtW H' M' H2 M2) : ExtW H M H2 M2 := by
  obtain ⟨T, e⟩ := a.pre
  obtain ⟨T', e'⟩ := b.pre
  refine ⟨⟨T ++ T', by rw [e', e, List.append_assoc]⟩, fun x h => b.res x (a.res x h), fun x h => ?_, fun x o n n2 h => ?_, fun x xs h => b.tups _ _ (a.tups _ _ h), fun x o u h => b.frzs _ _ _ (a.frzs _ _ _ h), fun x o h => let ⟨o', h'⟩ := a.dom x o h; b.dom x o' h'⟩
  · rcases b.resN x h with h1 | h1
    · exact a.resN x h1
    · cases q : H x with
      | none => exact .inr rfl
      | some o => obtain ⟨o', z⟩ := a.dom x o q; rw [h1] at z; cases z
  · obtain ⟨h1, m1⟩ := a.keep x o n n2 h
    refine b.keep x o m1 (fun z => ?_) h1
    rcases a.resN x z with z | z
    · exact n2 z
    · rw [h] at z; cases z
theorem ExtW.get (a : ExtW H M H' M') {l : Nat} {x : Addr} (h : M.m[l]? = some x) : M'.m[l]? = some x := by
  obtain ⟨T, e⟩ := a.pre
  have : l < M.m.length := by
    rcases Nat.lt_or_ge l M.m.length with z | z
    · exact z
    · rw [List.getElem?_eq_none z] at h; cases h
  rw [e]; rw [List.getElem?_append_left this]; exact h
theorem ExtW.sqT (a : ExtW H M H' M') {x : Addr} {vs : List V} (h : TupAt K H x vs) : TupAt K H' x vs := by
  rcases h with ⟨o, h, q⟩ | h
  · exact .inl ⟨o, a.frzs _ _ _ h, q⟩
  · exact .inr h
theorem ExtW.lstF (a : ExtW H M H' M') {x : Addr} {vs : List V} (h : LstF K H x vs) : LstF K H' x vs := by
  rcases h with ⟨o, h⟩ | h
  · exact .inl ⟨o, a.frzs _ _ _ h⟩
  · exact .inr h
theorem ExtW.nres (a : ExtW H M H' M') {x : Addr} {o : HO} (h : H x = some o) (n : x ∉ M.r) : x ∉ M'.r := fun z => by
  rcases a.resN x z with z | z
  · exact n z
  · rw [h] at z; cases z
theorem ExtW.rdL (a : ExtW H M H' M') {x : Addr} {vs : List V} (h : Rd H x (.lst vs)) (n : x ∉ M.m) (n2 : x ∉ M.r) : Rd H' x (.lst vs) ∧ x ∉ M'.m ∧ x ∉ M'.r := by
  rcases h with h | ⟨o, h⟩
  · obtain ⟨h1, m1⟩ := a.keep _ _ n n2 h; exact ⟨.inl h1, m1, a.nres h n2⟩
  · obtain ⟨h1, m1⟩ := a.keep _ _ n n2 h; exact ⟨.inr ⟨o, h1⟩, m1, a.nres h n2⟩
mutual
theorem RelD.monoW (x : ExtW H M H' M') : ∀ {d : D} {v : V}, RelD K H M d v → RelD K H' M' d v
  | _, _, .non => .non
  | _, _, .bl b => .bl b
  | _, _, .int i => .int i
  | _, _, .str z => .str z
  | _, _, .tup h r => .tup (x.sqT h) (RelDs.monoW x r)
  | _, _, .lst h n q r => let z := x.rdL h n q; .lst z.1 z.2.1 z.2.2 (RelDs.monoW x r)
  | _, _, .lstF h r => .lstF (x.lstF h) (RelDs.monoW x r)
  | _, _, .dctK h n q e r => let z := x.keep _ _ n q h; .dctK z.1 z.2 (x.nres h q) e (RelDs.monoW x r)
  | _, _, .ref h => .ref (x.get h)
theorem RelDs.monoW (x : ExtW H M H' M') : ∀ {ds : List D} {vs : List V}, RelDs K H M ds vs → RelDs K H' M' ds vs
  | _, _, .nil => .nil
  | _, _, .cons h r => .cons (RelD.monoW x h) (RelDs.monoW x r)
end
theorem RelM.monoW (x : ExtW H M H' M') : ∀ {m : MO} {o : HO}, RelM K H M m o → RelM K H' M' m o
  | .lst xs, o, ⟨vs, e, r⟩ => ⟨vs, e, r.monoW x⟩
  | .dct ks ds, o, ⟨kvs, e, e2, r⟩ => ⟨kvs, e, e2, r.monoW x⟩
/-- a new thing is reserved -/
theorem ExtW.reserve {p : Addr} {o : HO} (h : H p = none) : ExtW H M (upd H p o) ⟨M.m, p :: M.r⟩ :=
  ⟨⟨[], by simp⟩, fun a ha => List.mem_cons_of_mem _ ha, fun a ha => by
    rcases List.mem_cons.mp ha with rfl | ha
    · exact .inr h
    · exact .inl ha, fun a u n _ e => ⟨by rw [upd_ne (ne_of_none e h)]; exact e, n⟩, fun a xs e => by rw [upd_ne (ne_of_none e h)]; exact e, fun a x u e => by rw [upd_ne (ne_of_none e h)]; exact e, fun a u e => ⟨u, by rw [upd_ne (ne_of_none e h)]; exact e⟩⟩
theorem RelS.nm (r : RelS K H M S) {p : Addr} (h : H p = none) : p ∉ M.m := fun z => by obtain ⟨u, e, _⟩ := r.tracked z; rw [h] at e; cases e
theorem RelS.reserve {p : Addr} {o : HO} (r : RelS K H M S) (h : H p = none) : RelS K (upd H p o) ⟨M.m, p :: M.r⟩ S := by
  have x : ExtW H M (upd H p o) ⟨M.m, p :: M.r⟩ := ExtW.reserve h
  refine ⟨r.len, r.nd, fun a ha => ?_, fun l a m h1 h2 => ?_⟩
  · rcases List.mem_cons.mp ha with rfl | ha
    · exact ⟨r.nm h, o, upd_same⟩
    · obtain ⟨n, u, e⟩ := r.apart a ha
      exact ⟨n, u, by rw [upd_ne (ne_of_none e h)]; exact e⟩
  · obtain ⟨u, hu, q⟩ := r.at_ l a m h1 h2
    exact ⟨u, by rw [upd_ne (ne_of_none hu h)]; exact hu, q.monoW x⟩
/-- what is reserved changes -/
theorem ExtW.rewrite {p : Addr} {xs : List V} {o : HO} (h : H p = some (.lst xs)) (hp : p ∈ M.r) : ExtW H M (upd H p o) M :=
  ⟨⟨[], by simp⟩, fun a ha => ha, fun a ha => .inl ha, fun a u n n2 e => ⟨by rw [upd_ne (show a ≠ p from fun z => n2 (by rw [z]; exact hp))]; exact e, n⟩,
    fun a ys e => by rw [upd_ne (fun z => by subst z; rw [h] at e; cases e)]; exact e, fun a x u e => by rw [upd_ne (fun z => by subst z; rw [h] at e; cases e)]; exact e, fun a u e => by
      by_cases z : a = p
      · subst z; exact ⟨o, upd_same⟩
      · exact ⟨u, by rw [upd_ne z]; exact e⟩⟩
theorem RelS.rewrite {p : Addr} {xs : List V} {o : HO} (r : RelS K H M S) (h : H p = some (.lst xs)) (hp : p ∈ M.r) : RelS K (upd H p o) M S := by
  have x : ExtW H M (upd H p o) M := ExtW.rewrite h hp
  refine ⟨r.len, r.nd, fun a ha => ⟨(r.apart a ha).1, ?_⟩, fun l a m h1 h2 => ?_⟩
  · obtain ⟨u, e⟩ := (r.apart a ha).2
    exact x.dom a u e
  · obtain ⟨u, hu, q⟩ := r.at_ l a m h1 h2
    exact ⟨u, by rw [upd_ne (show a ≠ p from fun z => (r.apart p hp).1 (by rw [← z]; exact List.mem_of_getElem? h1))]; exact hu, q.monoW x⟩
mutual
theorem RelD.unres {rr r2 : List Addr} (x : ∀ a ∈ r2, a ∈ rr) : ∀ {d : D} {v : V}, RelD K H ⟨M.m, rr⟩ d v → RelD K H ⟨M.m, r2⟩ d v
  | _, _, .non => .non
  | _, _, .bl b => .bl b
  | _, _, .int i => .int i
  | _, _, .str z => .str z
  | _, _, .tup h r => .tup h (RelDs.unres x r)
  | _, _, .lst h n q r => .lst h n (fun z => q (x _ z)) (RelDs.unres x r)
  | _, _, .lstF h r => .lstF h (RelDs.unres x r)
  | _, _, .dctK h n q e r => .dctK h n (fun z => q (x _ z)) e (RelDs.unres x r)
  | _, _, .ref h => .ref h
theorem RelDs.unres {rr r2 : List Addr} (x : ∀ a ∈ r2, a ∈ rr) : ∀ {ds : List D} {vs : List V}, RelDs K H ⟨M.m, rr⟩ ds vs → RelDs K H ⟨M.m, r2⟩ ds vs
  | _, _, .nil => .nil
  | _, _, .cons h r => .cons (RelD.unres x h) (RelDs.unres x r)
end
theorem RelS.unres {rr r2 : List Addr} (x : ∀ a ∈ r2, a ∈ rr) (r : RelS K H ⟨M.m, rr⟩ S) : RelS K H ⟨M.m, r2⟩ S :=
  ⟨r.len, r.nd, fun a ha => r.apart a (x a ha), fun l a m h1 h2 => by
    obtain ⟨u, hu, q⟩ := r.at_ l a m h1 h2
    refine ⟨u, hu, ?_⟩
    cases m with
    | lst xs => obtain ⟨vs, e, q⟩ := q; exact ⟨vs, e, q.unres x⟩
    | dct ks ds => obtain ⟨kvs, e, e2, q⟩ := q; exact ⟨kvs, e, e2, q.unres x⟩⟩
end

/-! ## what is walked -/
/-- an item: of the pairs that enumerate and zip lay the object is not known -/
def RelY (b : Bool) (K : PySem.W.Frag) (H : Hp) (M : Pl) (d : D) (v : V) : Prop := RelD K H M d v ∨ (b = true ∧ ∃ T ds vs, d = .tup ds ∧ v = .ref T ∧ SqT K H T vs ∧ RelDs K H M ds vs)
structure IterOk (K : PySem.W.Frag) (J : It) (b : Bool) (src : Src) (H : Hp) (M : Pl) : Prop where
  go : ∀ H2 M2 S2 i d, ExtW H M H2 M2 → RelS K H2 M2 S2 → src.stays S2 → src.xs[i]? = some d → J.go i H2 ∧ ∀ x H3, J.yld i H2 x H3 → Ext H2 M2 H3 M2 ∧ RelS K H3 M2 S2 ∧ RelY b K H3 M2 d x
  stop : ∀ H2 M2 S2, ExtW H M H2 M2 → RelS K H2 M2 S2 → src.stays S2 → J.stop src.xs.length H2
def WPI (K : PySem.W.Frag) (mg : Str → Option Value) (b : Bool) (H : Hp) (M : Pl) (r : R Src) (R' : It → Hp → Prop) (E : XK) : Prop :=
  match r with
  | .ok src S' => ∀ J H' M', Ext H M H' M' → RelS K H' M' S' → IterOk K J b src H' M' → R' J H'
  | .exc x S' => ∀ cls dd H' M', Ext H M H' M' → RelS K H' M' S' → RelX K mg H' M' x cls dd → E cls dd H'
  | .bad => False
def tI (K : PySem.W.Frag) (mg : Str → Option Value) (b : Bool) (v : Ev → Sto → R Src) (W : WX) : TI := fun σ H R' => ∃ M env S, RelE K H M env σ ∧ RelS K H M S ∧ WPI K mg b H M (v env S) R' (fun c d H' => W c d σ H')
/-- e is walked as v says -/
def DI (X : Cx) (tg e : Expr) (b : Bool) (v : Ev → Sto → R Src) : Prop := ∀ W, Takes X W → PI X tg e (tI X.K X.mg b v W)
section
variable {K : PySem.W.Frag} {H H2 : Hp} {M M2 : Pl} {S S2 : Sto}
/-- a list, as it stands at any turn -/
theorem src_list {d : D} {v : V} {xs : List D} (rs : RelS K H M S) (r : RelD K H M d v) (e : rd S d = .lst xs) : ∃ a, v = .ref a ∧ (∃ vs, SqL K H a vs) ∧ ∀ H2 M2 S2, ExtW H M H2 M2 → RelS K H2 M2 S2 → (∀ p ∈ guardOf d xs, S2[p.1]? = some (.lst p.2)) → ∃ vs, SqL K H2 a vs ∧ RelDs K H2 M2 xs vs := by
  cases d with
  | lst ys =>
    cases e
    cases r with
    | lst h n q rr => exact ⟨_, rfl, ⟨_, .inl h⟩, fun H2 M2 S2 x rs2 _ => ⟨_, .inl (x.rdL h n q).1, rr.monoW x⟩⟩
    | lstF h rr => exact ⟨_, rfl, ⟨_, h.sq⟩, fun H2 M2 S2 x rs2 _ => ⟨_, (x.lstF h).sq, rr.monoW x⟩⟩
  | ref l =>
    obtain ⟨a, rfl, hm⟩ := r.ref_
    obtain ⟨m, hS⟩ := rs.lt hm
    rw [rd_ref, hS] at e
    cases m with
    | dct _ _ => cases e
    | lst zs =>
      cases e
      obtain ⟨o, ho, vs, rfl, rr⟩ := rs.at_ l a _ hm hS
      refine ⟨a, rfl, ⟨vs, .inl (.inl ho)⟩, fun H2 M2 S2 x rs2 g => ?_⟩
      have g1 := g (l, xs) (by simp [guardOf])
      obtain ⟨o2, ho2, vs2, rfl, rr2⟩ := rs2.at_ l a _ (x.get hm) g1
      exact ⟨vs2, .inl (.inl ho2), rr2⟩
  | _ => cases e
theorem src_tup {d : D} {v : V} {xs : List D} (rs : RelS K H M S) (r : RelD K H M d v) (e : rd S d = .tup xs) : ∃ a, v = .ref a ∧ (∃ vs, SqT K H a vs) ∧ ∀ H2 M2, ExtW H M H2 M2 → ∃ vs, SqT K H2 a vs ∧ RelDs K H2 M2 xs vs := by
  have q := rd_rel rs r
  rw [e] at q
  obtain ⟨a, vs, rfl, hs, rr⟩ := q.sqT
  exact ⟨a, rfl, ⟨vs, hs.sq⟩, fun H2 M2 x => ⟨vs, (x.sqT hs).sq, rr.monoW x⟩⟩
theorem iter_list {a : Addr} {src : Src} (h : ∀ H2 M2 S2, ExtW H M H2 M2 → RelS K H2 M2 S2 → src.stays S2 → ∃ vs, SqL K H2 a vs ∧ RelDs K H2 M2 src.xs vs) : IterOk K (Itl K a) false src H M where
  go := fun H2 M2 S2 i d x rs st e => by
    obtain ⟨vs, hs, rr⟩ := h H2 M2 S2 x rs st
    obtain ⟨v, hv, rv⟩ := rr.get e
    refine ⟨⟨vs, v, hs, hv⟩, fun y H3 hy => ?_⟩
    obtain ⟨rfl, hy⟩ := hy
    have := hy vs hs
    rw [hv] at this
    cases this
    exact ⟨Ext.refl _ _, rs, .inl rv⟩
  stop := fun H2 M2 S2 x rs st => by
    obtain ⟨vs, hs, rr⟩ := h H2 M2 S2 x rs st
    exact ⟨vs, hs, by rw [rr.length]; exact Nat.le_refl _⟩
theorem iter_tup {a : Addr} {src : Src} (h : ∀ H2 M2, ExtW H M H2 M2 → ∃ vs, SqT K H2 a vs ∧ RelDs K H2 M2 src.xs vs) : IterOk K (Itt K a) false src H M where
  go := fun H2 M2 S2 i d x rs st e => by
    obtain ⟨vs, hs, rr⟩ := h H2 M2 x
    obtain ⟨v, hv, rv⟩ := rr.get e
    refine ⟨⟨vs, v, hs, hv⟩, fun y H3 hy => ?_⟩
    obtain ⟨rfl, hy⟩ := hy
    have := hy vs hs
    rw [hv] at this
    cases this
    exact ⟨Ext.refl _ _, rs, .inl rv⟩
  stop := fun H2 M2 S2 x rs st => by
    obtain ⟨vs, hs, rr⟩ := h H2 M2 x
    exact ⟨vs, hs, by rw [rr.length]; exact Nat.le_refl _⟩
theorem iter_str {x : Str} : IterOk K (Its x) false ⟨chars x, []⟩ H M where
  go := fun H2 M2 S2 i d _ rs st e => by
    have e : (chars x)[i]? = some d := e
    unfold chars at e
    rw [List.getElem?_map] at e
    obtain ⟨c, hc, rfl⟩ := Option.map_eq_some_iff.mp e
    have hc' : x.cps[i]? = some c := by rw [← Array.getElem?_toList]; exact hc
    refine ⟨(Array.getElem?_eq_some_iff.mp hc').1, fun y H3 hy => ?_⟩
    obtain ⟨rfl, c', hc2, rfl⟩ := hy
    rw [hc'] at hc2
    cases hc2
    exact ⟨Ext.refl _ _, rs, .inl (.str _)⟩
  stop := fun H2 M2 S2 _ rs st => by
    show x.cps.size ≤ (chars x).length
    unfold chars
    simp
theorem iter_rng {lo : Int} {n : Nat} : IterOk K (Itr lo n) false ⟨rangeD lo n, []⟩ H M where
  go := fun H2 M2 S2 i d _ rs st e => by
    have e : (rangeD lo n)[i]? = some d := e
    unfold rangeD at e
    rw [List.getElem?_map] at e
    obtain ⟨k, hk, rfl⟩ := Option.map_eq_some_iff.mp e
    obtain ⟨hi, hk⟩ := List.getElem?_eq_some_iff.mp hk
    rw [List.getElem_range] at hk
    subst hk
    refine ⟨show i < n by simpa using hi, fun y H3 hy => ?_⟩
    obtain ⟨rfl, rfl⟩ := hy
    exact ⟨Ext.refl _ _, rs, .inl (.int _)⟩
  stop := fun H2 M2 S2 _ rs st => by
    show n ≤ (rangeD lo n).length
    unfold rangeD
    simp
end
section
variable {X : Cx} {tg e : Expr}
def iAny (K : PySem.W.Frag) (te : TE) : TI := fun σ H R => te σ H fun x H1 => (∃ a, x = .ref a ∧ (∃ xs, SqL K H1 a xs) ∧ R (Itl K a) H1) ∨ (∃ a, x = .ref a ∧ (∃ xs, SqT K H1 a xs) ∧ R (Itt K a) H1) ∨ (∃ y, x = .str y ∧ R (Its y) H1)
theorem pi_anyA {te : TE} (he : PE X e te) : PI X tg e (iAny X.K te) := by
  refine ⟨fun pins s σ H R I h => ?_⟩
  refine thn (he.run pins s σ H _ I h) fun v s1 ⟨x, H1, I1, r1, q1⟩ => ?_
  rcases q1 with ⟨a, e, ⟨xs, hq⟩, q⟩ | ⟨a, e, ⟨xs, hq⟩, q⟩ | ⟨y, ex, q⟩
  · subst e
    cases r1
    obtain ⟨its, rv, p, hz⟩ := I1.list hq
    refine wpAny_pyIter_list p.isList ?_
    refine ⟨s1.heap.objs.size, [s1.heap.objs.size], _, _, H1, rfl, I1.kept (t' := s1.toks) fun b o e => Heap.get?_push_of_some _ e, turn_list a _, ⟨_, Heap.get?_push_size _ rfl, rfl, rfl⟩, fun b hb => ?_, q⟩
    have e : b = s1.heap.objs.size := by simpa using hb
    subst e
    exact I1.fpOk (Nat.le_refl _) (I1.hok.fresh (Nat.le_refl _))
  · subst e
    cases r1
    obtain ⟨its, rv, p, hz⟩ := I1.tuple hq
    refine wpAny_pyIter_tuple (show s1.heap.IsTuple a its.toArray from p) ?_
    refine ⟨s1.heap.objs.size, [s1.heap.objs.size], _, _, H1, rfl, I1.kept (t' := s1.toks) fun b o e => Heap.get?_push_of_some _ e, turn_tuple a _, ⟨_, Heap.get?_push_size _ rfl, rfl, rfl⟩, fun b hb => ?_, q⟩
    have e : b = s1.heap.objs.size := by simpa using hb
    subst e
    exact I1.fpOk (Nat.le_refl _) (I1.hok.fresh (Nat.le_refl _))
  · subst ex
    obtain ⟨t, rfl⟩ := r1
    cases ha : y.cps.all (· < 128)
    · exact wpAny_pyIter_wide ha (pi_one (tk := s1.toks) I1 _ (turn_str _ y t "str_iterator" (.inr rfl)) ⟨_, Heap.get?_push_size _ rfl, rfl, rfl⟩ q)
    · exact wpAny_pyIter_ascii ha (pi_one (tk := s1.toks) I1 _ (turn_str _ y t "str_ascii_iterator" (.inl rfl)) ⟨_, Heap.get?_push_size _ rfl, rfl, rfl⟩ q)
theorem di_e {v : Ev → Sto → R D} (he : DE X e v) : DI X tg e false (fun e S => (v e S).bind fun x S1 => R.opt S1 (src1 S1 x)) := by
  intro W tk
  obtain ⟨t, p, q⟩ := he W tk
  refine ⟨fun pins s σ H R' I ⟨M, env, S, re, rs, h⟩ => (pi_anyA p).run pins s σ H R' I ?_⟩
  refine q σ H M env S _ re rs ?_
  dsimp only at h
  cases e1 : v env S with
  | bad => rw [e1] at h; exact h.elim
  | exc z S' => rw [e1] at h; exact h
  | ok d S1 =>
    rw [e1] at h
    intro x H1 M1 x1 rs1 rx
    simp only [R.bind_ok] at h
    unfold src1 at h
    cases e2 : rd S1 d with
    | tup xs =>
      rw [e2] at h
      obtain ⟨a, rfl, hs, k⟩ := src_tup rs1 rx e2
      exact .inr (.inl ⟨a, rfl, hs, h _ H1 M1 x1 rs1 (iter_tup k)⟩)
    | lst xs =>
      rw [e2] at h
      obtain ⟨a, rfl, hs, k⟩ := src_list rs1 rx e2
      exact .inl ⟨a, rfl, hs, h _ H1 M1 x1 rs1 (iter_list fun H2 M2 S2 x rs2 st => k H2 M2 S2 x rs2 st)⟩
    | str y =>
      rw [e2] at h
      have qx := rd_rel rs1 rx
      rw [e2] at qx
      exact .inr (.inr ⟨y, qx.str_, h _ H1 M1 x1 rs1 iter_str⟩)
    | _ => rw [e2] at h; exact h.elim
theorem di_rng1 {a : Expr} {va : Ev → Sto → R (List D)} {p pos : Pos} (hg : Gl X "range") (hm : X.mg "range" = none) (ha : DA X [a] va) (hs : noStar a = true) :
    DI X tg (.Call (.Name "range" p) [a] [] pos) false (fun e S => (va e S).bind fun xs S1 => R.opt S1 ((rangeOf 1 xs).map fun q => ⟨rangeD q.1 q.2, []⟩)) := by
  intro W tk
  obtain ⟨t, pa, q⟩ := ha W tk
  refine ⟨fun pins s σ H R' I ⟨M, env, S, re, rs, h⟩ => (pi_range1 hg hm pa (by rw [starEach_cons hs]; rfl)).run pins s σ H R' I ?_⟩
  refine q σ H M env S _ re rs ?_
  dsimp only at h
  cases e1 : va env S with
  | bad => rw [e1] at h; exact h.elim
  | exc z S' => rw [e1] at h; exact h
  | ok ds S1 =>
    rw [e1] at h
    intro xs H1 M1 x1 rs1 rx
    simp only [R.bind_ok] at h
    cases e2 : rangeOf 1 ds with
    | none => rw [e2] at h; exact h.elim
    | some q =>
      rw [e2] at h
      obtain ⟨j, rfl, rfl, z1, z2⟩ := rangeOf1 e2
      obtain ⟨v, rfl, rv⟩ := rx.one
      rw [rv.int_]
      exact ⟨j, rfl, z1, z2, h _ H1 M1 x1 rs1 iter_rng⟩
theorem di_rng2 {a b : Expr} {va : Ev → Sto → R (List D)} {p pos : Pos} (hg : Gl X "range") (hm : X.mg "range" = none) (ha : DA X [a, b] va) (hs : noStar a = true) (hs2 : noStar b = true) :
    DI X tg (.Call (.Name "range" p) [a, b] [] pos) false (fun e S => (va e S).bind fun xs S1 => R.opt S1 ((rangeOf 2 xs).map fun q => ⟨rangeD q.1 q.2, []⟩)) := by
  intro W tk
  obtain ⟨t, pa, q⟩ := ha W tk
  refine ⟨fun pins s σ H R' I ⟨M, env, S, re, rs, h⟩ => (pi_range2 hg hm pa (by rw [starEach_cons hs, starEach_cons hs2]; rfl) (by rw [starEach_cons hs2]; rfl)).run pins s σ H R' I ?_⟩
  refine q σ H M env S _ re rs ?_
  dsimp only at h
  cases e1 : va env S with
  | bad => rw [e1] at h; exact h.elim
  | exc z S' => rw [e1] at h; exact h
  | ok ds S1 =>
    rw [e1] at h
    intro xs H1 M1 x1 rs1 rx
    simp only [R.bind_ok] at h
    cases e2 : rangeOf 2 ds with
    | none => rw [e2] at h; exact h.elim
    | some q =>
      rw [e2] at h
      obtain ⟨i, j, rfl, rfl, z1, z2, z3, z4⟩ := rangeOf2 e2
      obtain ⟨v, u, rfl, rv, ru⟩ := rx.two
      rw [rv.int_, ru.int_]
      exact ⟨i, j, rfl, ⟨z1, z2, z3, z4⟩, h _ H1 M1 x1 rs1 iter_rng⟩
end
end Pw

set_option Elab.async false
set_option linter.all false
set_option maxRecDepth 100000
set_option maxHeartbeats 1000000
namespace PySem
open Sem (wp)
theorem meets_enumerate_newB1 {v : Value} {o : Obj} {H : Heap → Prop} (B : Begins v o H) :
    Meets (Builtin.«enumerate.__new__» ⟨[.type "enumerate", v], []⟩) (fun _ R s => H s.heap ∧
      R (.ok (.ret (.ref (s.heap.push o).objs.size))) { s with heap := (s.heap.push o).push { cls := .type "enumerate", data := .fields #[.none, .bool false, .ref s.heap.objs.size, rawInt 0, .none, .none] } }) :=
  .of_wp fun prog w A R s h => by
    obtain ⟨hp, g, d, tk, os⟩ := s; obtain ⟨h1, h⟩ := h
    have hsub := sub_enumerate
    have q1 : ∀ {A' : Around} {E : Value → Shared → Prop} {Q : Value → Shared → Prop}, Q (.ref hp.objs.size) ⟨hp.push o, g, d, tk, os⟩ → wpAny (model prog w) A' (pyIter v) Q E ⟨hp, g, d, tk, os⟩ :=
      fun q => B.iter prog w _ _ ⟨hp, g, d, tk, os⟩ _ h1 q
    wp_walk using q1
    refine wpAny_stack_any fun st => wpAny_pure ?_
    split
    · rename_i c _ _ _ _ _
      cases (c == Value.type "enumerate")
      · wp_walk using q1
        exact ⟨_, rfl, h⟩
      · wp_walk using q1
        exact ⟨_, rfl, h⟩
    · wp_walk using q1
      exact ⟨_, rfl, h⟩
section
variable {prog : Program} {w : World} {A : Around} {E : Value → Shared → Prop} {s : Shared}
theorem enum_begins1 {v : Value} {o : Obj} {H : Heap → Prop} {Q : Value → Shared → Prop} (B : Begins v o H) (h1 : H s.heap)
    (h : ∀ h', IsEnum h' (s.heap.objs.size + 1) s.heap.objs.size 0 .none → h'.get? s.heap.objs.size = some o → h'.objs.size = s.heap.objs.size + 2 →
      (∀ b o, s.heap.get? b = some o → h'.get? b = some o) → Q (.ref (s.heap.objs.size + 1)) { s with heap := h' }) :
    wpAny (model prog w) A (call (.type "enumerate") [v]) Q E s := by
  refine callType_new F.called_enumerate (by decide) (F.typeCall_enumerate_1 _) (F.newCall_enumerate_1 _) (fun obj => F.args_object_init_2 obj _) F.entry_enumerate_new
    (meets_enumerate_newB1 B) ⟨h1, ?_⟩
  have hz : (s.heap.push o).objs.size = s.heap.objs.size + 1 := Heap.size_push ..
  show _ ∧ _
  rw [hz]
  have he : IsEnum ((s.heap.push o).push { cls := .type "enumerate", data := .fields #[.none, .bool false, .ref s.heap.objs.size, rawInt 0, .none, .none] }) (s.heap.objs.size + 1) s.heap.objs.size 0 .none := by
    have := Heap.get?_push_size (s.heap.push o) (o := { cls := .type "enumerate", data := .fields #[.none, .bool false, .ref s.heap.objs.size, rawInt 0, .none, .none] }) rfl
    rw [hz] at this; exact this
  refine ⟨⟨_, he, rfl⟩, h _ he (Heap.get?_push_of_some _ (Heap.get?_push_size _ B.free)) (by rw [Heap.size_push, hz]) fun b o x => Heap.get?_push_of_some _ (Heap.get?_push_of_some _ x)⟩
end
end PySem
namespace Pw
open PySem PySem.Spec PyProof.Rows L2
/-- the tuple at a, its items with their numbers, in new pairs -/
def IteT (K : PySem.W.Frag) (a : Addr) : It :=
  ⟨fun i H => ∃ (xs : List V) (x : V), SqT K H a xs ∧ xs[i]? = some x, fun i H v H' => ∃ T x, v = .ref T ∧ H T = none ∧ H' = upd H T (.tup [.int (i : Nat), x]) ∧ ∀ xs, SqT K H a xs → xs[i]? = some x, fun i H => ∃ xs : List V, SqT K H a xs ∧ xs.length ≤ i⟩
theorem turn_enumT {P : Program} {w : World} {K : PySem.W.Frag} {elts : List Expr} {kk : Nat} {tpos : Pos} (a e it : Addr) (hea : e ≠ a) (hai : a ≠ it) :
    Turn P w K (.Tuple elts kk tpos) (IteT K a) [e, it] e (fun i h => (∃ old, IsEnum h e it ((i : Nat) : Int) old) ∧ h.IsTupleIter it a i ∧ e ≠ it) where
  mem := by simp
  obj := fun i h st b hb => by
    obtain ⟨⟨old, he⟩, ⟨o, ho, hc, hd⟩, _⟩ := st
    have e' : b = e ∨ b = it := by simpa using hb
    rcases e' with z | z
    · rw [z]; exact ⟨_, he, fun v q => nomatch q⟩
    · rw [z]; exact ⟨o, ho, fun v q => by rw [hd] at q; cases q⟩
  keep := fun i h h' st k => by
    obtain ⟨⟨old, he⟩, ⟨o, ho, r⟩, hne⟩ := st
    exact ⟨⟨old, k e (by simp) _ he⟩, ⟨o, k it (by simp) o ho, r⟩, hne⟩
  item := by
    intro X hP hw hK hc i pins s σ H E I hf st hg
    subst hP hw hK
    obtain ⟨⟨old, he⟩, hit, hne⟩ := st
    obtain ⟨xs, x, hq, hx⟩ := hg
    obtain ⟨its, rv, p, hz⟩ := I.tuple hq
    obtain ⟨u, hu, ru⟩ := rv.get hx
    have hel : e < s.heap.objs.size := Heap.lt_size he
    have hil : it < s.heap.objs.size := by obtain ⟨_, q, _⟩ := hit; exact Heap.lt_size q
    have hlt : i < its.toArray.size := by
      have := (List.getElem?_eq_some_iff.mp hu).1
      simpa using this
    have D : Draws X.prog X.w X.A.in1 it [it, a] its.toArray.size (fun i v => its.toArray[i]? = some v) (fun i h => h.IsTupleIter it a i ∧ h.IsTuple a its.toArray) := Draws.tuple (A := X.A.in1) (I.ok.hd hc) it a hai its.toArray
    refine wpAny_pyNext_enum_itemC D he ⟨hit, show s.heap.IsTuple a its.toArray from p⟩ hlt hne (by simp [hne, hea]) fun x' h' tk hx' ho hst' hT hsz hk => ?_
    have hx2 : x' = u := by
      have : its.toArray[i]? = some u := by simpa using hu
      rw [this] at hx'
      exact (Option.some.inj hx').symm
    subst hx2
    refine ⟨_, rfl, wpAny_letOwnedTupleGo_enum (s := { s with heap := h', toks := tk + 1 }) ho fun h'' he' sb => ?_⟩
    have hT2 : h''.get? s.heap.objs.size = some { cls := .type "tuple", data := .seq #[.int i tk, x'] } := (sb.2 _ (Nat.ne_of_gt hel)).trans hT
    have new : ObjOk X.prog X.w (upd H s.heap.objs.size (.tup [.int (i : Nat), x])) h'' s.heap.objs.size (.tup [.int (i : Nat), x]) :=
      ⟨by show 2 ≤ sizeLine; decide, [.int i tk, x'], .cons ⟨_, rfl⟩ (.cons ru .nil), ⟨_, hT2, rfl, _, rfl⟩⟩
    have I1 : Inv X pins σ (upd H s.heap.objs.size (.tup [.int (i : Nat), x])) { s with heap := h'', toks := tk + 1 } :=
      I.turnedNew (ch := [e, it]) (fun b ob hb q => (sb.2 b (fun z => hb (by simp [z]))).trans (hk b ob (fun z => hb (by simp [z])) (fun z => hb (by simp [z])) q)) hf (Nat.le_refl _) new
    have hit'' : h''.IsTupleIter it a (i + 1) := by
      obtain ⟨o, q, r⟩ := hst'.1
      exact ⟨o, (sb.2 it (Ne.symm hne)).trans q, r⟩
    refine ⟨.ref s.heap.objs.size, _, I1, rfl, ⟨_, x, rfl, I.hok.fresh (Nat.le_refl _), rfl, fun ys hy => by rw [I.tuple_inj hy hq]; exact hx⟩, ⟨⟨x', ?_⟩, hit'', hne⟩, fun b hb => ?_⟩
    · have e1 : ((i + 1 : Nat) : Int) = (i : Int) + 1 := by omega
      rw [e1]; exact he'
    · have hb' : b < s.heap.objs.size := by
        have e' : b = e ∨ b = it := by simpa using hb
        rcases e' with z | z
        · rw [z]; exact hel
        · rw [z]; exact hil
      rw [upd_ne (Nat.ne_of_lt hb')]
      exact (hf b hb).1
  done := by
    intro X hP hw hK hc i pins s σ H E I hf st hg
    subst hP hw hK
    obtain ⟨⟨old, he⟩, hit, hne⟩ := st
    obtain ⟨xs, hq, hx⟩ := hg
    obtain ⟨its, rv, p, hz⟩ := I.tuple hq
    obtain ⟨f0, f1, f2, f3, f4, f5⟩ := hf it (by simp)
    have hl := rv.length
    have hT : s.TypeIs (.ref e) "enumerate" := ⟨_, he, rfl⟩
    unfold pyNext
    refine wpAny_bind (wpAny_attempt (wpAny_callSpecial?_slot (name := Str.ofString "__next__") hT F.slot_enumerate_next
      (wpAny_call_entry F.slot_enumerate_next hT F.entry_enumerate_next ?_ (F.args_enumerate_next_1 _))))
    show wpAny _ _ (field (.ref e) 2 >>= _) _ _ _
    refine wpAny_bind (wpAny_field he rfl (x := .ref it) rfl ?_)
    refine wpAny_bind (wpAny_nextOf_tuple_end (A := X.A.in1) (I.ok.hd hc) hit (show s.heap.IsTuple a its.toArray from p) (by simp; omega) fun h' x he' hx' => ?_)
    obtain ⟨o, ho, hcx⟩ := hx'
    refine wpAny_bind (wpAny_isInstance (T := "StopIteration") (b := true) ⟨o, ho, hcx⟩ isSubtype_stop ?_)
    exact wpAny_pure ⟨rfl, I.turned (t' := s.toks) (fun b o hb q => he' b o hb q) f0 f1 f3 f4 f5⟩
  self := fun A i s Q E st h => let ⟨⟨_, he⟩, _⟩ := st; wpAny_pyIter_enum he h
def iEnumA (K : PySem.W.Frag) (ta : TA) : TI := fun σ H R => ta σ H fun vs H1 => ∃ a xs, vs = [.ref a] ∧ ((SqL K H1 a xs ∧ R (Ite K a) H1) ∨ (SqT K H1 a xs ∧ R (IteT K a) H1))
theorem pi_enumA {X : Cx} {e : Expr} {ta : TA} {p pos tpos : Pos} {elts : List Expr} {kk : Nat} (hg : Gl X "enumerate") (hm : X.mg "enumerate" = none) (ha : PA X [e] ta) (hs : starEach [e] X.env = [(false, eval e X.env)]) :
    PI X (.Tuple elts kk tpos) (.Call (.Name "enumerate" p) [e] [] pos) (iEnumA X.K ta) := by
  refine ⟨fun pins s σ H R I h => ?_⟩
  refine Call_ (ld_blt I hg hm PyProof.Rows.boot_enumerate (PyProof.Rows.callWith_type1 (thn (ha.run pos pins s σ H _ I h) fun us s1 ⟨vs, H1, I1, r1, q1⟩ => ?_) hs rfl))
  obtain ⟨a, xs, ex, q1⟩ := q1
  subst ex
  obtain ⟨u, rfl, ru⟩ := r1.one
  cases ru
  have fp2 : ∀ b ∈ [s1.heap.objs.size + 1, s1.heap.objs.size], FpOk X pins H1 b := fun b hb => by
    have e' : b = s1.heap.objs.size + 1 ∨ b = s1.heap.objs.size := by simpa using hb
    have hle : s1.heap.objs.size ≤ b := by
      rcases e' with z | z
      · rw [z]; exact Nat.le_add_right _ _
      · rw [z]; exact Nat.le_refl _
    exact I1.fpOk hle (I1.hok.fresh hle)
  rcases q1 with ⟨hq, q⟩ | ⟨hq, q⟩
  · obtain ⟨its, rv, p', hz⟩ := I1.list hq
    refine call_enumerate_list p'.isList fun h' he hit hsz hk => wpAny_pyIter_enum he ?_
    have I2 : Inv X pins σ H1 { s1 with heap := h' } := I1.kept (t' := s1.toks) hk
    exact ⟨s1.heap.objs.size + 1, [s1.heap.objs.size + 1, s1.heap.objs.size], _, _, H1, rfl, I2, turn_enum a (s1.heap.objs.size + 1) s1.heap.objs.size, ⟨⟨.none, he⟩, hit, Nat.succ_ne_self _⟩, fp2, q⟩
  · obtain ⟨its, rv, p', hz⟩ := I1.tuple hq
    have hla : a < s1.heap.objs.size := by obtain ⟨o, ho, _⟩ := p'; exact Heap.lt_size ho
    refine enum_begins1 (begins_tuple a its.toArray) (show s1.heap.IsTuple a its.toArray from p') fun h' he hit hsz hk => wpAny_pyIter_enum he ?_
    have I2 : Inv X pins σ H1 { s1 with heap := h' } := I1.kept (t' := s1.toks) hk
    exact ⟨s1.heap.objs.size + 1, [s1.heap.objs.size + 1, s1.heap.objs.size], _, _, H1, rfl, I2, turn_enumT a (s1.heap.objs.size + 1) s1.heap.objs.size (Nat.ne_of_gt (Nat.lt_succ_of_lt hla)) (Nat.ne_of_lt hla), ⟨⟨.none, he⟩, ⟨_, hit, rfl, rfl⟩, Nat.succ_ne_self _⟩, fp2, q⟩
section
variable {K : PySem.W.Frag} {H : Hp} {M : Pl}
theorem enumD_get {xs : List D} {i : Nat} {d : D} (h : (enumD xs)[i]? = some d) : ∃ x, xs[i]? = some x ∧ d = .tup [.int (i : Nat), x] := by
  unfold enumD at h
  rw [List.getElem?_zipWith] at h
  cases e : xs[i]? with
  | none => rw [e] at h; cases e2 : (List.range xs.length)[i]? <;> rw [e2] at h <;> cases h
  | some x =>
    have hi : i < xs.length := (List.getElem?_eq_some_iff.mp e).1
    rw [e, List.getElem?_range hi] at h
    exact ⟨x, rfl, (Option.some.inj h).symm⟩
theorem enumD_length (xs : List D) : (enumD xs).length = xs.length := by
  unfold enumD
  rw [List.length_zipWith, List.length_range, Nat.min_self]
theorem pair_y {H2 : Hp} {M2 : Pl} {S2 : Sto} {T : Addr} {vs : List V} {ds : List D} (rs : RelS K H2 M2 S2) (hT : H2 T = none) (r : RelDs K H2 M2 ds vs) : Ext H2 M2 (upd H2 T (.tup vs)) M2 ∧ RelS K (upd H2 T (.tup vs)) M2 S2 ∧ RelY true K (upd H2 T (.tup vs)) M2 (.tup ds) (.ref T) :=
  ⟨Ext.new hT, rs.new hT, .inr ⟨rfl, T, ds, vs, rfl, rfl, .inl (.inl upd_same), r.mono (Ext.new hT)⟩⟩
theorem iter_enumL {a : Addr} {xs : List D} {gd : List (Nat × List D)} (h : ∀ H2 M2 S2, ExtW H M H2 M2 → RelS K H2 M2 S2 → Src.stays ⟨enumD xs, gd⟩ S2 → ∃ vs, SqL K H2 a vs ∧ RelDs K H2 M2 xs vs) : IterOk K (Ite K a) true ⟨enumD xs, gd⟩ H M where
  go := fun H2 M2 S2 i d x rs st e => by
    obtain ⟨vs, hs, rr⟩ := h H2 M2 S2 x rs st
    obtain ⟨y, hy, rfl⟩ := enumD_get e
    obtain ⟨v, hv, rv⟩ := rr.get hy
    refine ⟨⟨vs, v, hs, hv⟩, fun z H3 hz => ?_⟩
    obtain ⟨T, w, rfl, hT, rfl, hw⟩ := hz
    have := hw vs hs
    rw [hv] at this
    cases this
    exact pair_y rs hT (.cons (.int _) (.cons rv .nil))
  stop := fun H2 M2 S2 x rs st => by
    obtain ⟨vs, hs, rr⟩ := h H2 M2 S2 x rs st
    exact ⟨vs, hs, by show vs.length ≤ (enumD xs).length; rw [enumD_length, rr.length]; exact Nat.le_refl _⟩
theorem iter_enumT {a : Addr} {xs : List D} (h : ∀ H2 M2, ExtW H M H2 M2 → ∃ vs, SqT K H2 a vs ∧ RelDs K H2 M2 xs vs) : IterOk K (IteT K a) true ⟨enumD xs, []⟩ H M where
  go := fun H2 M2 S2 i d x rs st e => by
    obtain ⟨vs, hs, rr⟩ := h H2 M2 x
    obtain ⟨y, hy, rfl⟩ := enumD_get e
    obtain ⟨v, hv, rv⟩ := rr.get hy
    refine ⟨⟨vs, v, hs, hv⟩, fun z H3 hz => ?_⟩
    obtain ⟨T, w, rfl, hT, rfl, hw⟩ := hz
    have := hw vs hs
    rw [hv] at this
    cases this
    exact pair_y rs hT (.cons (.int _) (.cons rv .nil))
  stop := fun H2 M2 S2 x rs st => by
    obtain ⟨vs, hs, rr⟩ := h H2 M2 x
    exact ⟨vs, hs, by show vs.length ≤ (enumD xs).length; rw [enumD_length, rr.length]; exact Nat.le_refl _⟩
end
theorem di_enum {X : Cx} {e : Expr} {v : Ev → Sto → R D} {p pos tpos : Pos} {elts : List Expr} {kk : Nat} (hg : Gl X "enumerate") (hm : X.mg "enumerate" = none) (he : DE X e v) (hs : noStar e = true) :
    DI X (.Tuple elts kk tpos) (.Call (.Name "enumerate" p) [e] [] pos) true (fun e S => (v e S).bind fun x S1 => R.opt S1 (srcEnum S1 x)) := by
  intro W tk
  obtain ⟨t, pa, q⟩ := (da_cons (starEach_cons (es := []) hs) he da_nil) W tk
  refine ⟨fun pins s σ H R' I ⟨M, env, S, re, rs, h⟩ => (pi_enumA hg hm pa (by rw [starEach_cons hs]; rfl)).run pins s σ H R' I ?_⟩
  refine q σ H M env S _ re rs ?_
  dsimp only at h ⊢
  cases e1 : v env S with
  | bad => rw [e1] at h; exact h.elim
  | exc z S' => rw [e1] at h; exact h
  | ok d S1 =>
    rw [e1] at h
    simp only [R.bind_ok]
    intro xs H1 M1 x1 rs1 rx
    obtain ⟨u, rfl, ru⟩ := rx.one
    simp only [R.bind_ok] at h
    unfold srcEnum at h
    cases e2 : rd S1 d with
    | tup ys =>
      rw [e2] at h
      obtain ⟨a, rfl, ⟨vs, hs⟩, k⟩ := src_tup rs1 ru e2
      exact ⟨a, vs, rfl, .inr ⟨hs, h _ H1 M1 x1 rs1 (iter_enumT k)⟩⟩
    | lst ys =>
      rw [e2] at h
      obtain ⟨a, rfl, ⟨vs, hs⟩, k⟩ := src_list rs1 ru e2
      exact ⟨a, vs, rfl, .inl ⟨hs, h _ H1 M1 x1 rs1 (iter_enumL fun H2 M2 S2 x rs2 st => k H2 M2 S2 x rs2 st)⟩⟩
    | _ => rw [e2] at h; exact h.elim
end Pw

set_option Elab.async false
set_option linter.all false
set_option maxRecDepth 100000
set_option maxHeartbeats 1000000
namespace Pw
open PySem PySem.Spec PyProof.Rows L2
/-! ## targets -/
mutual
def Tg.slots : Tg → List Nat
  | .n i => [i]
  | .tu ts => Tg.slotss ts
def Tg.slotss : List Tg → List Nat
  | [] => []
  | t :: ts => t.slots ++ Tg.slotss ts
end
def gT (K : PySem.W.Frag) (t : Tg) (b : Bool) : TG := fun v σ H Q => ∃ M env S d env', RelE K H M env σ ∧ RelS K H M S ∧ RelY b K H M d v ∧ Tg.put t d S env = some env' ∧
  ∀ σ', RelE K H M env' σ' → (∀ j, j ∉ t.slots → σ'[j]? = σ[j]?) → Q σ' H
def gTs (K : PySem.W.Frag) (ts : List Tg) : TGs := fun vs σ H Q => ∃ M env S ds env', RelE K H M env σ ∧ RelS K H M S ∧ RelDs K H M ds vs ∧ Tg.puts ts ds S env = some env' ∧
  ∀ σ', RelE K H M env' σ' → (∀ j, j ∉ Tg.slotss ts → σ'[j]? = σ[j]?) → Q σ' H
theorem PG_or {X : Cx} {e : Expr} {g g' : TG} (h : PG X e g) (h' : PG X e g') : PG X e (fun v σ H Q => g v σ H Q ∨ g' v σ H Q) :=
  ⟨fun pins s σ H v u Q I r q => by
    rcases q with q | q
    · exact h.run pins s σ H v u Q I r q
    · exact h'.run pins s σ H v u Q I r q⟩
theorem PG_imp {X : Cx} {e : Expr} {g g' : TG} (h : PG X e g) (k : ∀ v σ H Q, g' v σ H Q → g v σ H Q) : PG X e g' := ⟨fun pins s σ H v u Q I r q => h.run pins s σ H v u Q I r (k v σ H Q q)⟩
theorem PGs_imp {X : Cx} {e : List Expr} {g g' : TGs} (h : PGs X e g) (k : ∀ v σ H Q, g' v σ H Q → g v σ H Q) : PGs X e g' := ⟨fun pins s σ H v u Q I r q => h.run pins s σ H v u Q I r (k v σ H Q q)⟩
theorem assignEach_cons {e : Expr} {es : List Expr} {env : Env} (h : noStar e = true) : assignEach (e :: es) env = (false, assign e env) :: assignEach es env := by
  cases e <;> first | rfl | cases h
theorem assignEach_none {env : Env} : ∀ {es : List Expr}, es.all noStar = true → (assignEach es env).findIdx? (·.1) = none
  | [], _ => rfl
  | e :: es, h => by
    rw [List.all_cons, Bool.and_eq_true] at h
    rw [assignEach_cons h.1, List.findIdx?_cons, assignEach_none h.2]
    rfl
theorem assignEach_length {env : Env} : ∀ {es : List Expr}, es.all noStar = true → (assignEach es env).length = es.length
  | [], _ => rfl
  | e :: es, h => by
    rw [List.all_cons, Bool.and_eq_true] at h
    rw [assignEach_cons h.1, List.length_cons, assignEach_length h.2, List.length_cons]
section
variable {X : Cx} {pos : Pos}
theorem dg_name {i : Nat} {x : Str} (hN : X.N.Nodup) (hi : X.N[i]? = some x) (hx : Loc X.env.scope x) (hf : X.fn x = true ∨ X.env.scope.names.lookup x = some .local) : PG X (.Name x pos) (gT X.K (.n i) false) :=
  PG_imp (pg_name hN hi hx hf) fun v σ H Q ⟨M, env, S, d, env', re, rs, ry, hp, q⟩ => by
    rcases ry with ry | ⟨z, _⟩
    · unfold Tg.put at hp
      split at hp
      · cases hp
        exact q _ (re.set i ry) fun j hj => by
          rw [List.getElem?_set_ne]
          intro z
          exact hj (by simp [Tg.slots, z])
      · cases hp
    · cases z
theorem dgs_nil : PGs X [] (gTs X.K []) := PGs_imp pgs_nil fun vs σ H Q ⟨M, env, S, ds, env', re, rs, rd, hp, q⟩ => by
  cases ds with
  | nil => cases rd; cases hp; exact ⟨rfl, q σ re fun _ _ => rfl⟩
  | cons _ _ => cases hp
theorem dgs_cons {e : Expr} {es : List Expr} {t : Tg} {ts : List Tg} (h1 : PG X e (gT X.K t false)) (h2 : PGs X es (gTs X.K ts)) (hs : noStar e = true) : PGs X (e :: es) (gTs X.K (t :: ts)) :=
  PGs_imp (pgs_cons h1 h2 (by rw [assignEach_cons hs]; rfl)) fun vs σ H Q ⟨M, env, S, ds, env', re, rs, rd, hp, q⟩ => by
    cases ds with
    | nil => cases hp
    | cons d ds =>
      cases rd with
      | cons r rr =>
        unfold Tg.puts at hp
        cases e1 : Tg.put t d S env with
        | none => rw [e1] at hp; cases hp
        | some e2 =>
          rw [e1] at hp
          refine ⟨_, _, rfl, M, env, S, d, e2, re, rs, .inl r, e1, fun σ2 re2 h2 => ?_⟩
          exact ⟨M, e2, S, ds, env', re2, rs, rr, hp, fun σ3 re3 h3 => q σ3 re3 fun j hj => by
            simp only [Tg.slotss, List.mem_append, not_or] at hj
            rw [h3 j hj.2, h2 j hj.1]⟩
theorem dg_tup {es : List Expr} {k : Nat} {ts : List Tg} {b : Bool} (hc : X.calm = true) (h : PGs X es (gTs X.K ts)) (hl : es.length = ts.length) (hs : es.all noStar = true) : PG X (.Tuple es k pos) (gT X.K (.tu ts) b) :=
  PG_imp (PG_or (pg_tup (n := es.length) hc h (assignEach_length hs) (assignEach_none hs)) (pg_lst (n := es.length) hc h (assignEach_length hs) (assignEach_none hs))) fun v σ H Q ⟨M, env, S, d, env', re, rs, ry, hp, q⟩ => by
    unfold Tg.put at hp
    have fin : ∀ xs vs, seqOf S d = some xs → RelDs X.K H M xs vs → vs.length = es.length ∧ gTs X.K ts vs σ H Q := by
      intro xs vs e rr
      rw [e] at hp
      simp only at hp
      split at hp
      · rename_i hz
        exact ⟨by rw [← rr.length, hz, hl], M, env, S, xs, env', re, rs, rr, hp, q⟩
      · cases hp
    rcases ry with ry | ⟨_, T, ds, vs, rfl, rfl, hT, rr⟩
    · cases e : seqOf S d with
      | none => rw [e] at hp; cases hp
      | some xs =>
        obtain ⟨a, vs, rfl, hs2, rr⟩ := seqOf_rel rs ry e
        obtain ⟨z1, z2⟩ := fin xs vs e rr
        rcases hs2 with hs2 | hs2
        · exact .inr ⟨a, vs, rfl, hs2, z1, z2⟩
        · exact .inl ⟨a, vs, rfl, hs2.sq, z1, z2⟩
    · obtain ⟨z1, z2⟩ := fin ds vs rfl rr
      exact .inl ⟨T, vs, rfl, hT, z1, z2⟩
end

mutual
theorem put_length : ∀ {t : Tg} {d : D} {S : Sto} {e e' : Ev}, Tg.put t d S e = some e' → e'.length = e.length
  | .n i, d, S, e, e', h => by
    unfold Tg.put at h
    split at h
    · cases h; simp
    · cases h
  | .tu ts, d, S, e, e', h => by
    unfold Tg.put at h
    split at h
    · split at h
      · exact puts_length h
      · cases h
    · cases h
theorem puts_length : ∀ {t : List Tg} {d : List D} {S : Sto} {e e' : Ev}, Tg.puts t d S e = some e' → e'.length = e.length
  | [], [], S, e, e', h => by cases h; rfl
  | t :: ts, d :: ds, S, e, e', h => by
    unfold Tg.puts at h
    split at h
    · rename_i e1 h1
      rw [puts_length h, put_length h1]
    · cases h
  | [], _ :: _, _, _, _, h => by cases h
  | _ :: _, [], _, _, _, h => by cases h
end
/-! ## comprehensions -/
section
variable {K : PySem.W.Frag} {mg : Str → Option Value} {H H1 H5 : Hp} {M M1 M5 : Pl} {S S5 : Sto} {Dd : Addr}
theorem ext_in (x : Ext H1 M1 H ⟨M.m, M1.r⟩) (hr : M.r = Dd :: M1.r) (hD : H1 Dd = none) (rs : RelS K H M S) : ExtW H1 M1 H M :=
  ⟨x.pre, fun a h => by rw [hr]; exact List.mem_cons_of_mem _ h, fun a h => by
    rw [hr] at h
    rcases List.mem_cons.mp h with rfl | h
    · exact .inr hD
    · exact .inl h, fun a o n _ h => x.keep a o n h, x.tups, x.frzs, fun a o h => by
      by_cases hm : a ∈ M1.m
      · obtain ⟨T, e⟩ := x.pre
        obtain ⟨u, hu, _⟩ := rs.tracked (a := a) (by show a ∈ M.m; rw [show M.m = M1.m ++ T from e]; exact List.mem_append_left _ hm)
        exact ⟨u, hu⟩
      · exact ⟨o, (x.keep a o hm h).1⟩⟩
theorem ext_step {o : HO} {acc : List V} (x : Ext H1 M1 H ⟨M.m, M1.r⟩) (hr : M.r = Dd :: M1.r) (hD : H1 Dd = none) (y : Ext H M H5 M5) (h5 : H5 Dd = some (.lst acc)) : Ext H1 M1 (upd H5 Dd o) ⟨M5.m, M1.r⟩ := by
  obtain ⟨T, e⟩ := x.pre
  obtain ⟨T', e'⟩ := y.pre
  refine ⟨⟨T ++ T', by show M5.m = _; rw [e', show M.m = M1.m ++ T from e, List.append_assoc]⟩, rfl, fun a u n h => ?_, fun a xs h => ?_, fun a u w h => ?_⟩
  · obtain ⟨h2, n2⟩ := x.keep a u n h
    obtain ⟨h3, n3⟩ := y.keep a u n2 h2
    exact ⟨by rw [upd_ne (ne_of_none h hD)]; exact h3, n3⟩
  · have h3 := y.tups _ _ (x.tups _ _ h)
    rw [upd_ne (show a ≠ Dd from fun z => by subst z; rw [h5] at h3; cases h3)]; exact h3
  · have h3 := y.frzs _ _ _ (x.frzs _ _ _ h)
    rw [upd_ne (show a ≠ Dd from fun z => by subst z; rw [h5] at h3; cases h3)]; exact h3
theorem ext_same (x : Ext H1 M1 H ⟨M.m, M1.r⟩) (hr : M.r = Dd :: M1.r) (y : Ext H M H5 M5) : Ext H1 M1 H5 ⟨M5.m, M1.r⟩ := by
  obtain ⟨T, e⟩ := x.pre
  obtain ⟨T', e'⟩ := y.pre
  refine ⟨⟨T ++ T', by show M5.m = _; rw [e', show M.m = M1.m ++ T from e, List.append_assoc]⟩, rfl, fun a u n h => ?_, fun a xs h => y.tups _ _ (x.tups _ _ h), fun a u w h => y.frzs _ _ _ (x.frzs _ _ _ h)⟩
  obtain ⟨h2, n2⟩ := x.keep a u n h
  exact y.keep a u n2 h2
mutual
theorem RelD.mv {m2 r2 : List Addr} (p : ∃ T, m2 = M.m ++ T) (x : ∀ a ∈ m2, a ∈ M.m ∨ a ∈ M.r) (y : ∀ a ∈ r2, a ∈ M.r) : ∀ {d : D} {v : V}, RelD K H M d v → RelD K H ⟨m2, r2⟩ d v
  | _, _, .non => .non
  | _, _, .bl b => .bl b
  | _, _, .int i => .int i
  | _, _, .str z => .str z
  | _, _, .tup h r => .tup h (RelDs.mv p x y r)
  | _, _, .lst h n q r => .lst h (fun z => (x _ z).elim n q) (fun z => q (y _ z)) (RelDs.mv p x y r)
  | _, _, .lstF h r => .lstF h (RelDs.mv p x y r)
  | _, _, .dctK h n q e r => .dctK h (fun z => (x _ z).elim n q) (fun z => q (y _ z)) e (RelDs.mv p x y r)
  | _, _, .ref h => .ref (by
    obtain ⟨T, e⟩ := p
    rw [e]
    obtain ⟨hl, _⟩ := List.getElem?_eq_some_iff.mp h
    rw [List.getElem?_append_left hl]; exact h)
theorem RelDs.mv {m2 r2 : List Addr} (p : ∃ T, m2 = M.m ++ T) (x : ∀ a ∈ m2, a ∈ M.m ∨ a ∈ M.r) (y : ∀ a ∈ r2, a ∈ M.r) : ∀ {ds : List D} {vs : List V}, RelDs K H M ds vs → RelDs K H ⟨m2, r2⟩ ds vs
  | _, _, .nil => .nil
  | _, _, .cons h r => .cons (RelD.mv p x y h) (RelDs.mv p x y r)
end
/-- what was reserved becomes a list of the store -/
theorem RelS.take {accD : List D} {acc : List V} {rr : List Addr} (rs : RelS K H M S) (hr : M.r = Dd :: rr) (nr : Dd ∉ rr) (h : H Dd = some (.lst acc)) (ra : RelDs K H M accD acc) : RelS K H ⟨M.m ++ [Dd], rr⟩ (S ++ [.lst accD]) := by
  have hn : Dd ∉ M.m := (rs.apart Dd (by rw [hr]; exact List.mem_cons_self ..)).1
  have p : ∃ T, M.m ++ [Dd] = M.m ++ T := ⟨_, rfl⟩
  have x : ∀ a ∈ M.m ++ [Dd], a ∈ M.m ∨ a ∈ M.r := fun a ha => by
    rcases List.mem_append.mp ha with z | z
    · exact .inl z
    · rw [List.mem_singleton.mp z, hr]; exact .inr (List.mem_cons_self ..)
  have y : ∀ a ∈ rr, a ∈ M.r := fun a ha => by rw [hr]; exact List.mem_cons_of_mem _ ha
  refine ⟨by simp [rs.len], ?_, fun a ha => ⟨fun z => ?_, (rs.apart a (y a ha)).2⟩, fun l a m h1 h2 => ?_⟩
  · rw [List.nodup_append]
    exact ⟨rs.nd, by simp, fun a ha b hb => by simp at hb; subst hb; exact fun e => hn (e ▸ ha)⟩
  · rcases List.mem_append.mp z with z | z
    · exact (rs.apart a (y a ha)).1 z
    · rw [List.mem_singleton.mp z] at ha; exact nr ha
  · have mv : ∀ {m : MO} {o : HO}, RelM K H M m o → RelM K H ⟨M.m ++ [Dd], rr⟩ m o := by
      intro m o q
      cases m with
      | lst xs => obtain ⟨vs, e, q⟩ := q; exact ⟨vs, e, q.mv p x y⟩
      | dct ks ds => obtain ⟨kvs, e, e2, q⟩ := q; exact ⟨kvs, e, e2, q.mv p x y⟩
    rcases Nat.lt_trichotomy l M.m.length with hl | hl | hl
    · rw [List.getElem?_append_left hl] at h1
      rw [List.getElem?_append_left (by rw [← rs.len]; exact hl)] at h2
      obtain ⟨u, hu, z⟩ := rs.at_ l a m h1 h2
      exact ⟨u, hu, mv z⟩
    · subst hl
      rw [List.getElem?_append_right (Nat.le_refl _)] at h1
      rw [List.getElem?_append_right (by rw [rs.len]; exact Nat.le_refl _), rs.len] at h2
      simp at h1 h2
      subst h1 h2
      exact ⟨.lst acc, h, acc, rfl, ra.mv p x y⟩
    · rw [List.getElem?_eq_none (by simp; omega)] at h1; cases h1
/-- the new list, at the end -/
theorem mkAt {bx : Bool} {accD : List D} {acc : List V} {Q : VK} {E : XK} (ob : WPE K mg H1 M1 (mkL bx accD S) Q E) (rs1 : RelS K H1 M1 S5) (x : Ext H1 M1 H ⟨M.m, M1.r⟩) (hr : M.r = Dd :: M1.r) (hD : H1 Dd = none) (h : H Dd = some (.lst acc)) (rs : RelS K H M S)
    (ra : RelDs K H M accD acc) : Q (.ref Dd) H := by
  have hn : Dd ∉ M.m := (rs.apart Dd (by rw [hr]; exact List.mem_cons_self ..)).1
  have sub : ∀ a ∈ M1.r, a ∈ M.r := fun a ha => by rw [hr]; exact List.mem_cons_of_mem _ ha
  have nr : Dd ∉ M1.r := fun z => by obtain ⟨_, u, e⟩ := rs1.apart Dd z; rw [hD] at e; cases e
  unfold mkL at ob
  split at ob
  · split at ob
    · refine ob (.ref Dd) H ⟨M.m ++ [Dd], M1.r⟩ ?_ (rs.take hr nr h ra) (.ref ?_)
      · obtain ⟨T, e⟩ := x.pre
        refine ⟨⟨T ++ [Dd], by show M.m ++ [Dd] = _; rw [show M.m = M1.m ++ T from e, List.append_assoc]⟩, rfl, fun a u n h1 => ?_, x.tups, x.frzs⟩
        obtain ⟨h2, n2⟩ := x.keep a u n h1
        refine ⟨h2, fun z => ?_⟩
        rcases List.mem_append.mp z with z | z
        · exact n2 z
        · rw [List.mem_singleton.mp z, hD] at h1; cases h1
      · show (M.m ++ [Dd])[S.length]? = some Dd
        rw [List.getElem?_append_right (by rw [rs.len]; exact Nat.le_refl _), rs.len]
        simp
    · exact ob (.ref Dd) H ⟨M.m, M1.r⟩ x (rs.unres sub) (.lst (.inl h) hn nr (ra.unres sub))
  · exact ob.elim
end
section
variable {K : PySem.W.Frag} {mg : Str → Option Value}
theorem RelE.monoW {H H' : Hp} {M M' : Pl} {e : Ev} {σ : L2.St} (x : ExtW H M H' M') (r : RelE K H M e σ) : RelE K H' M' e σ := ⟨r.1, fun i d h => let ⟨v, h1, h2⟩ := r.2 i d h; ⟨v, h1, h2.monoW x⟩⟩
theorem RelE.none {H : Hp} {M : Pl} {e : Ev} {σ : L2.St} (r : RelE K H M e σ) (i : Nat) : RelE K H M (e.set i none) (σ.set i none) := by
  refine ⟨by simp [r.1], fun j d' h => ?_⟩
  by_cases hj : j = i
  · subst hj
    by_cases hl : j < e.length
    · rw [List.getElem?_set_self hl] at h; cases h
    · rw [List.getElem?_eq_none (by simp; omega)] at h; cases h
  · rw [List.getElem?_set_ne (Ne.symm hj)] at h
    obtain ⟨u, h1, h2⟩ := r.2 j d' h
    exact ⟨u, by rw [List.getElem?_set_ne (Ne.symm hj)]; exact h1, h2⟩
theorem RelE.wipe {H : Hp} {M : Pl} {e : Ev} {σ : L2.St} (r : RelE K H M e σ) : ∀ vs : List Nat, RelE K H M (wipeE e vs) (L2.wipe σ vs)
  | [] => r
  | v :: vs => (RelE.wipe r vs).none v
theorem wipe_get (σ : L2.St) : ∀ (vs : List Nat) (j : Nat), (L2.wipe σ vs)[j]? = if j ∈ vs ∧ j < σ.length then some none else σ[j]?
  | [], j => by simp [L2.wipe]
  | v :: vs, j => by
    unfold L2.wipe
    by_cases hj : j = v
    · subst hj
      by_cases hl : j < σ.length
      · rw [List.getElem?_set_self (by rw [wipe_length]; exact hl)]
        simp [hl]
      · rw [List.getElem?_eq_none (by rw [List.length_set, wipe_length]; omega), if_neg (fun z => hl z.2), List.getElem?_eq_none (by omega)]
    · rw [List.getElem?_set_ne (Ne.symm hj), wipe_get σ vs j]
      simp [hj]
/-- a store at the block's own names -/
theorem wipe_same {σ σ2 : L2.St} {vs sl : List Nat} (hl : σ2.length = σ.length) (h : ∀ j, j ∉ sl → σ2[j]? = (L2.wipe σ vs)[j]?) (hs : ∀ j ∈ sl, j ∈ vs) : L2.wipe σ2 vs = L2.wipe σ vs := by
  apply List.ext_getElem?
  intro j
  rw [wipe_get, wipe_get, hl]
  by_cases hj : j ∈ vs ∧ j < σ.length
  · rw [if_pos hj, if_pos hj]
  · rw [if_neg hj, if_neg hj]
    by_cases hsl : j ∈ sl
    · have : ¬ j < σ.length := fun z => hj ⟨hs j hsl, z⟩
      rw [List.getElem?_eq_none (by omega), List.getElem?_eq_none (by omega)]
    · rw [h j hsl, wipe_get, if_neg hj]
/-- nothing is let out -/
abbrev W0 : WX := fun _ _ _ _ => False
theorem lc_ok {b bx : Bool} {vI : Ev → Sto → R Src} {tg : Tg} {own : List Nat} {t : Ev → Sto → R Bool} {elt : Ev → Sto → R D} {W : WX} {σ : L2.St} {H : Hp} {M : Pl} {env : Ev} {S : Sto} {Q : VK} (hsl : ∀ j ∈ tg.slots, j ∈ own)
    (re : RelE K H M env σ) (rs : RelS K H M S)
    (h : WPE K mg H M ((vI env S).bind fun src S1 => (compLoop tg own src env t elt src.xs [] S1).bind fun acc S2 => mkL bx acc S2) Q (fun c d H' => W c d σ H')) :
    tLc (tI K mg b vI W) (gT K tg b) (tT K mg t W0) (tE K mg elt W0) own σ H Q := by
  refine ⟨M, env, S, re, rs, ?_⟩
  cases e1 : vI env S with
  | bad => rw [e1] at h; exact h.elim
  | exc z S' => rw [e1] at h; exact h
  | ok src S1 =>
    rw [e1] at h
    intro J H1 M1 x1 rs1 it Dd hD
    replace h := WPE.ext x1 h
    simp only [R.bind_ok] at h
    refine ⟨fun i m H => ∃ M S accD acc, M.r = Dd :: M1.r ∧ H Dd = some (.lst acc) ∧ RelS K H M S ∧ RelDs K H M accD acc ∧ Ext H1 M1 H ⟨M.m, M1.r⟩ ∧ m = src.xs.length - i ∧ i ≤ src.xs.length ∧
      WPE K mg H1 M1 ((compLoop tg own src env t elt (src.xs.drop i) accD S).bind fun acc S2 => mkL bx acc S2) Q (fun c d H' => W c d σ H'), ⟨src.xs.length, ⟨M1.m, Dd :: M1.r⟩, S1, [], [], rfl, upd_same, rs1.reserve hD, .nil, Ext.new hD, rfl, Nat.zero_le _, h⟩, ?_⟩
    rintro i m H ⟨M, S, accD, acc, hr, hA, rs, ra, x, rfl, hi, ob⟩
    have xw : ExtW H1 M1 H M := ext_in x hr hD rs
    have hDn : Dd ∉ M.m := (rs.apart Dd (by rw [hr]; exact List.mem_cons_self ..)).1
    by_cases hlt : i < src.xs.length
    · rw [List.drop_eq_getElem_cons hlt] at ob
      unfold compLoop at ob
      split at ob
      rotate_left
      · exact ob.elim
      · rename_i hst
        cases e2 : Tg.put tg src.xs[i] S (wipeE env own) with
        | none => rw [e2] at ob; exact ob.elim
        | some en1 =>
          rw [e2] at ob
          dsimp only at ob
          obtain ⟨go, yd⟩ := it.go H M S i src.xs[i] xw rs hst (List.getElem?_eq_getElem hlt)
          refine .inr ⟨go, _, fun H' hw => ⟨src.xs.length - (i + 1), by omega, hw⟩, fun y H3 hy => ?_⟩
          obtain ⟨x3, rs3, ry⟩ := yd y H3 hy
          have re3 : RelE K H3 M (wipeE env own) (L2.wipe σ own) := RelE.mono x3 (((re.mono x1).monoW xw).wipe own)
          refine ⟨M, wipeE env own, S, src.xs[i], en1, re3, rs3, ry, e2, fun σ2 re2 hj => ⟨wipe_same (by rw [re2.1, ← wipe_length σ own, re3.1]; exact (put_length e2)) hj hsl, ?_⟩⟩
          refine ⟨M, en1, S, re2, rs3, ?_⟩
          cases e3 : t en1 S with
          | bad => rw [e3] at ob; exact ob.elim
          | exc z S' => rw [e3] at ob; exact ob.elim
          | ok k S2 =>
            rw [e3] at ob
            intro H4 M4 x4 rs4
            have x34 := x3.trans x4
            cases k with
            | false =>
              simp only [R.nox_ok, R.bind_ok] at ob
              refine ⟨M4, S2, accD, acc, x34.res.trans hr, (x34.keep _ _ hDn hA).1, rs4, ra.mono x34, ext_same x hr x34, rfl, hlt, ob⟩
            | true =>
              simp only [R.nox_ok, R.bind_ok, if_true] at ob
              refine ⟨M4, en1, S2, re2.mono x4, rs4, ?_⟩
              cases e4 : elt en1 S2 with
              | bad => rw [e4] at ob; exact ob.elim
              | exc z S' => rw [e4] at ob; exact ob.elim
              | ok d S3 =>
                rw [e4] at ob
                intro v H5 M5 x5 rs5 rv
                have x35 := x34.trans x5
                simp only [R.nox_ok, R.bind_ok] at ob
                split at ob
                rotate_left
                · exact ob.elim
                · rename_i hz
                  have hA5 := (x35.keep _ _ hDn hA).1
                  have ra5 := ra.mono x35
                  have hr5 : M5.r = Dd :: M1.r := x35.res.trans hr
                  have hDr : Dd ∈ M5.r := by rw [hr5]; exact List.mem_cons_self ..
                  have xr : ExtW H5 M5 (upd H5 Dd (.lst (acc ++ [v]))) M5 := ExtW.rewrite hA5 hDr
                  refine ⟨acc, hA5, by rw [← ra.length]; exact hz, M5, S3, accD ++ [d], acc ++ [v], hr5, upd_same, rs5.rewrite hA5 hDr, (ra5.append (.cons rv .nil)).monoW xr, ext_step x hr hD x35 hA5, rfl, hlt, ob⟩
    · have hi' : i = src.xs.length := by omega
      subst hi'
      rw [List.drop_length] at ob
      unfold compLoop at ob
      split at ob
      · rename_i hst
        exact .inl ⟨it.stop H M S xw rs hst, mkAt ob rs1 x hr hD hA rs ra⟩
      · exact ob.elim
end
end Pw

set_option Elab.async false
set_option linter.all false
set_option maxRecDepth 100000
set_option maxHeartbeats 1000000
namespace Pw
open PySem PySem.Spec PyProof.Rows L2
section
variable {X : Cx} {pos : Pos}
def notSet : Expr → Bool
  | .Set _ _ _ => false
  | _ => true
theorem fold_id {e : Expr} {env : Env} (h : notSet e = true) (x : Value) : foldedSetIterable e env x = pure x := by
  cases e <;> first | rfl | cases h
theorem pts_of {ifs : List Expr} {t : Ev → Sto → R Bool} {W : WX} (h : (ifs = [] ∧ t = fun _ S => .ok true S) ∨ ∃ c, ifs = [c] ∧ PT X c (tT X.K X.mg t W)) : PTs X ifs (tT X.K X.mg t W) := by
  rcases h with ⟨rfl, rfl⟩ | ⟨c, rfl, h⟩
  · exact ⟨fun pins s σ H Q I ⟨M, env, S, re, rs, h⟩ => pts_nil.run pins s σ H Q I (h H M (Ext.refl _ _) rs)⟩
  · exact pts_one h
theorem de_comp {elt tg iter : Expr} {ifs : List Expr} {scope : Scope} {own : List (Str × Nat)} {b bx : Bool} {tgI : Tg} {vI : Ev → Sto → R Src} {t : Ev → Sto → R Bool} {v : Ev → Sto → R D}
    (hc : X.calm = true) (hN : X.N.Nodup) (hi : DI X tg iter b vI) (ok : BlkOk X.N X.env.scope scope own)
    (hg : ∀ (s : Shared) (H : Hp) (C : Addr) (cl : List (Str × Addr)) (fp : List Addr), PG (X.blk s H scope (compEnvC scope cl C X.env) fp) tg (gT X.K tgI b)) (ht : ∀ (s : Shared) (H : Hp) (C : Addr) (cl : List (Str × Addr)) (fp : List Addr), PTs (X.blk s H scope (compEnvC scope cl C X.env) fp) ifs (tT X.K X.mg t W0))
    (he : ∀ (s : Shared) (H : Hp) (C : Addr) (cl : List (Str × Addr)) (fp : List Addr), PE (X.blk s H scope (compEnvC scope cl C X.env) fp) elt (tE X.K X.mg v W0)) (hsl : ∀ j ∈ tgI.slots, j ∈ own.map (·.2)) (hs : notSet iter = true) :
    DE X (.ListComp elt [⟨tg, iter, ifs, 0⟩] scope pos) (fun e S => (vI e S).bind fun src S1 => (compLoop tgI (own.map (·.2)) src e t v src.xs [] S1).bind fun acc S2 => mkL bx acc S2) := by
  intro W tk
  exact ⟨_, pe_lc hc hN (hi W tk) ok hg ht he (fold_id hs), fun σ H M env S Q re rs h => lc_ok hsl re rs h⟩
end

/-! ## statements -/
def WPS (K : PySem.W.Frag) (mg : Str → Option Value) (H : Hp) (M : Pl) (r : SR) (D : Ends) (W : WX) : Prop :=
  match r with
  | .nx e S' => ∀ σ' H' M', Ext H M H' M' → RelS K H' M' S' → RelE K H' M' e σ' → D.nx σ' H'
  | .ret d S' => ∀ v H' M', Ext H M H' M' → RelS K H' M' S' → RelD K H' M' d v → D.rt v H'
  | .exc x e S' => ∀ c dd σ' H' M', Ext H M H' M' → RelS K H' M' S' → RelE K H' M' e σ' → RelX K mg H' M' x c dd → W c dd σ' H'
  | .bad => False
def tS (K : PySem.W.Frag) (mg : Str → Option Value) (f : Ev → Sto → SR) (W : WX) : TS := fun D σ H => ∃ M env S, RelE K H M env σ ∧ RelS K H M S ∧ WPS K mg H M (f env S) D W
def DS (X : Cx) (st : Stmt) (f : Ev → Sto → SR) : Prop := ∀ W, Takes X W → PS X st (tS X.K X.mg f W)
def DSs (X : Cx) (st : List Stmt) (f : Ev → Sto → SR) : Prop := ∀ W, Takes X W → PSs X st (tS X.K X.mg f W)
section
variable {K : PySem.W.Frag} {mg : Str → Option Value} {H H' : Hp} {M M' : Pl} {S : Sto} {D D' : Ends} {W : WX} {env : Ev} {σ : L2.St}
theorem WPS.ext {r : SR} (x : Ext H M H' M') (h : WPS K mg H M r D W) : WPS K mg H' M' r D W := by
  cases r with
  | nx e S' => exact fun σ' H2 M2 y => h σ' H2 M2 (x.trans y)
  | ret d S' => exact fun v H2 M2 y => h v H2 M2 (x.trans y)
  | exc z e S' => exact fun c dd σ' H2 M2 y => h c dd σ' H2 M2 (x.trans y)
  | bad => exact h
theorem WPS.st {r : R Pw.D} {f : Pw.D → Sto → SR} {Q : VK} (h : WPS K mg H M (r.st env f) D W) (re : RelE K H M env σ)
    (n : ∀ d S1 v H1 M1, Ext H M H1 M1 → RelS K H1 M1 S1 → RelD K H1 M1 d v → RelE K H1 M1 env σ → WPS K mg H1 M1 (f d S1) D W → Q v H1) : WPE K mg H M r Q (fun c d H' => W c d σ H') := by
  cases r with
  | ok d S1 => exact fun v H1 M1 x rs r => n d S1 v H1 M1 x rs r (re.mono x) (WPS.ext x h)
  | exc z S1 => exact fun c dd H1 M1 x rs rx => h c dd σ H1 M1 x rs (re.mono x) rx
  | bad => exact h
theorem WPS.stT {r : R Bool} {f : Bool → Sto → SR} {Q : Bool → Hp → Prop} (h : WPS K mg H M (r.st env f) D W) (re : RelE K H M env σ)
    (n : ∀ d S1 H1 M1, Ext H M H1 M1 → RelS K H1 M1 S1 → RelE K H1 M1 env σ → WPS K mg H1 M1 (f d S1) D W → Q d H1) : WPT K mg H M r Q (fun c d H' => W c d σ H') := by
  cases r with
  | ok d S1 => exact fun H1 M1 x rs => n d S1 H1 M1 x rs (re.mono x) (WPS.ext x h)
  | exc z S1 => exact fun c dd H1 M1 x rs rx => h c dd σ H1 M1 x rs (re.mono x) rx
  | bad => exact h
theorem WPS.stA {r : R (List Pw.D)} {f : List Pw.D → Sto → SR} {Q : List V → Hp → Prop} (h : WPS K mg H M (r.st env f) D W) (re : RelE K H M env σ)
    (n : ∀ d S1 v H1 M1, Ext H M H1 M1 → RelS K H1 M1 S1 → RelDs K H1 M1 d v → RelE K H1 M1 env σ → WPS K mg H1 M1 (f d S1) D W → Q v H1) : WPA K mg H M r Q (fun c d H' => W c d σ H') := by
  cases r with
  | ok d S1 => exact fun v H1 M1 x rs r => n d S1 v H1 M1 x rs r (re.mono x) (WPS.ext x h)
  | exc z S1 => exact fun c dd H1 M1 x rs rx => h c dd σ H1 M1 x rs (re.mono x) rx
  | bad => exact h
theorem WPS.nx {e : Ev} (h : WPS K mg H M (.nx e S) D W) (rs : RelS K H M S) (re : RelE K H M e σ) : D.nx σ H := h σ H M (Ext.refl _ _) rs re
theorem WPS.then_ {r : SR} {f : Ev → Sto → SR} (h : WPS K mg H M (r.then_ f) D W) : WPS K mg H M r { D with nx := tS K mg f W D } W := by
  cases r with
  | nx e S1 => exact fun σ' H1 M1 x rs re => ⟨M1, e, S1, re, rs, WPS.ext x h⟩
  | ret d S1 => exact h
  | exc z e S1 => exact h
  | bad => exact h
end
section
variable {X : Cx} {pos : Pos} {e : Expr} {v : Ev → Sto → R D}
theorem PS_imp {st : Stmt} {t t' : TS} (h : PS X st t) (k : ∀ D σ H, t' D σ H → t D σ H) : PS X st t' := ⟨fun pins s σ H D I q => h.run pins s σ H D I (k D σ H q)⟩
theorem PSs_imp {st : List Stmt} {t t' : TS} (h : PSs X st t) (k : ∀ D σ H, t' D σ H → t D σ H) : PSs X st t' := ⟨fun pins s σ H D I q => h.run pins s σ H D I (k D σ H q)⟩
theorem dss_nil : DSs X [] (fun e S => .nx e S) := fun W tk => PSs_imp pss_nil fun D σ H ⟨M, env, S, re, rs, h⟩ => h.nx rs re
theorem dss_cons {s : Stmt} {ss : List Stmt} {f g : Ev → Sto → SR} (h1 : DS X s f) (h2 : DSs X ss g) : DSs X (s :: ss) (fun e S => (f e S).then_ g) :=
  fun W tk => PSs_imp (pss_cons (h1 W tk) (h2 W tk)) fun D σ H ⟨M, env, S, re, rs, h⟩ => ⟨M, env, S, re, rs, h.then_⟩
def isComp : Expr → Bool
  | .ListComp .. => true
  | .SetComp .. => true
  | .DictComp .. => true
  | _ => false
theorem sw_nc {l : Nat} {env : Env} {tg : Option Expr} (h : isComp e = false) : swapsWith e tg l env = pure false := by
  cases e <;> first | rfl | cases h
theorem ds_expr (he : DE X e v) (hs : isComp e = false) : DS X (.Expr e pos) (fun env S => (v env S).st env fun _ S1 => .nx env S1) := by
  intro W tk
  obtain ⟨t, p, q⟩ := he W tk
  exact PS_imp (ps_expr p (sw_nc hs)) fun D σ H ⟨M, env, S, re, rs, h⟩ => q σ H M env S _ re rs (WPS.st h re fun d S1 u H1 M1 x rs1 rd re1 h1 => h1.nx rs1 re1)
theorem ds_ret (he : DE X e v) : DS X (.Return (some e) pos) (fun env S => (v env S).st env fun x S1 => .ret x S1) := by
  intro W tk
  obtain ⟨t, p, q⟩ := he W tk
  exact PS_imp (ps_ret p) fun D σ H ⟨M, env, S, re, rs, h⟩ => q σ H M env S _ re rs (WPS.st h re fun d S1 u H1 M1 x rs1 rd re1 h1 => h1 u H1 M1 (Ext.refl _ _) rs1 rd)
theorem ds_ret0 : DS X (.Return none pos) (fun _ S => .ret .non S) := fun W tk => PS_imp ps_retN fun D σ H ⟨M, env, S, re, rs, h⟩ => h .non H M (Ext.refl _ _) rs .non
theorem ds_pass : DS X (.Pass pos) (fun e S => .nx e S) := fun W tk => PS_imp ps_pass fun D σ H ⟨M, env, S, re, rs, h⟩ => h.nx rs re
theorem ds_if {a b : List Stmt} {t : Ev → Sto → R Bool} {f g : Ev → Sto → SR} (hc : DT X e t) (ha : DSs X a f) (hb : DSs X b g) : DS X (.If e a b pos) (fun env S => (t env S).st env fun k S1 => if k then f env S1 else g env S1) := by
  intro W tk
  obtain ⟨tc, p, q⟩ := hc W tk
  refine PS_imp (ps_if p (ha W tk) (hb W tk)) fun D σ H ⟨M, env, S, re, rs, h⟩ => q σ H M env S _ re rs (WPS.stT h re fun k S1 H1 M1 x rs1 re1 h1 => ?_)
  cases k with
  | true => exact ⟨M1, env, S1, re1, rs1, h1⟩
  | false => exact ⟨M1, env, S1, re1, rs1, h1⟩
theorem asg_core {i : Nat} {x : D} {u : V} {K : PySem.W.Frag} {mg : Str → Option Value} {H : Hp} {M : Pl} {S : Sto} {env : Ev} {σ : L2.St} {D : Ends} {W : WX} (h : WPS K mg H M (optS (Tg.put (.n i) x S env) fun e1 => .nx e1 S) D W) (rs : RelS K H M S) (re : RelE K H M env σ) (rx : RelD K H M x u) : D.nx (σ.set i (some u)) H := by
  unfold Tg.put at h
  split at h
  · exact h.nx rs (re.set i rx)
  · exact h.elim
/-- name = e; sw: whether the display's list is stored at once -/
theorem ds_set {i : Nat} {x : Str} {pos' : Pos} (hN : X.N.Nodup) (hi : X.N[i]? = some x) (hx : Loc X.env.scope x) (he : DE X e v) (hs : swapsWith e (some (.Name x pos')) pos.line X.env = pure false) (hf : X.fn x = true ∨ X.env.scope.names.lookup x = some .local) :
    DS X (.Assign [.Name x pos'] e pos) (fun env S => (v env S).st env fun d S1 => optS (Tg.put (.n i) d S1 env) fun e1 => .nx e1 S1) := by
  intro W tk
  obtain ⟨t, p, q⟩ := he W tk
  exact PS_imp (ps_set hN hi hx p hs hf) fun D σ H ⟨M, env, S, re, rs, h⟩ => q σ H M env S _ re rs (WPS.st h re fun d S1 u H1 M1 x rs1 rd re1 h1 => asg_core h1 rs1 re1 rd)
theorem ds_setLc {i : Nat} {y : Str} {py : Pos} {elt tg iter : Expr} {ifs : List Expr} {scope : Scope} {own : List (Str × Nat)} {p : Pos} {b bx : Bool} {tgI : Tg} {vI : Ev → Sto → R Src} {t : Ev → Sto → R Bool} {v : Ev → Sto → R D}
    (hc : X.calm = true) (hN : X.N.Nodup) (hy : X.N[i]? = some y) (hyl : X.env.scope.names.lookup y = some .local) (hsw : swapsWith (.ListComp elt [⟨tg, iter, ifs, 0⟩] scope p) (some (.Name y py)) pos.line X.env = pure true) (hi : DI X tg iter b vI) (ok : BlkOk X.N X.env.scope scope own)
    (hg : ∀ (s : Shared) (H : Hp) (C : Addr) (cl : List (Str × Addr)) (fp : List Addr), PG (X.blk s H scope (compEnvC scope cl C X.env) fp) tg (gT X.K tgI b)) (ht : ∀ (s : Shared) (H : Hp) (C : Addr) (cl : List (Str × Addr)) (fp : List Addr), PTs (X.blk s H scope (compEnvC scope cl C X.env) fp) ifs (tT X.K X.mg t W0))
    (he : ∀ (s : Shared) (H : Hp) (C : Addr) (cl : List (Str × Addr)) (fp : List Addr), PE (X.blk s H scope (compEnvC scope cl C X.env) fp) elt (tE X.K X.mg v W0)) (hsl : ∀ j ∈ tgI.slots, j ∈ own.map (·.2)) (hs : notSet iter = true) :
    DS X (.Assign [.Name y py] (.ListComp elt [⟨tg, iter, ifs, 0⟩] scope p) pos) (fun env S => ((vI env S).bind fun src S1 => (compLoop tgI (own.map (·.2)) src env t v src.xs [] S1).bind fun acc S2 => mkL bx acc S2).st env fun d S1 => optS (Tg.put (.n i) d S1 env) fun e1 => .nx e1 S1) := by
  intro W tk
  exact PS_imp (ps_setLc hc hN hy hyl hsw (hi W tk) ok hg ht he (fold_id hs)) fun D σ H ⟨M, env, S, re, rs, h⟩ => lc_ok hsl re rs (WPS.st h re fun d S1 u H1 M1 x rs1 rd re1 h1 => asg_core h1 rs1 re1 rd)
/-- a target that is a tuple -/
theorem ds_asg {tg : Expr} {t : Tg} (he : DE X e v) (hg : PG X tg (gT X.K t false)) (hs : swapsWithSole [tg] e pos.line X.env = pure false) (hw : swappedStores [tg] e X.env = pure none) (hn : noStar tg = true) :
    DS X (.Assign [tg] e pos) (fun env S => (v env S).st env fun d S1 => optS (Tg.put t d S1 env) fun e1 => .nx e1 S1) := by
  intro W tk
  obtain ⟨te, p, q⟩ := he W tk
  refine PS_imp (ps_asg p hg hs hw (by rw [assignEach_cons hn]; rfl)) fun D σ H ⟨M, env, S, re, rs, h⟩ => q σ H M env S _ re rs (WPS.st h re fun d S1 u H1 M1 x rs1 rd re1 h1 => ?_)
  cases e1 : Tg.put t d S1 env with
  | none => rw [e1] at h1; exact h1.elim
  | some env' =>
    rw [e1] at h1
    exact ⟨M1, env, S1, d, env', re1, rs1, .inl rd, e1, fun σ' re' _ => h1.nx rs1 re'⟩
/-- a, b = x, y -/
theorem ds_par {i j : Nat} {x y : Str} {a b : Expr} {va : Ev → Sto → R (List D)} {px py pt : Pos} {kt k2 pt2} (hc : X.calm = true) (hN : X.N.Nodup) (hi : X.N[i]? = some x) (hj : X.N[j]? = some y) (hij : i ≠ j)
    (hx : X.env.scope.names.lookup x = some .local) (hy : X.env.scope.names.lookup y = some .local) (ha : DA X [a, b] va)
    (hw : swappedStores [.Tuple [.Name x px, .Name y py] kt pt] (.Tuple [a, b] k2 pt2) X.env = pure (some [x, y])) :
    DS X (.Assign [.Tuple [.Name x px, .Name y py] kt pt] (.Tuple [a, b] k2 pt2) pos) (fun env S => ((va env S).bind fun xs S1 => if xs.length ≤ sizeLine then .ok (.tup xs) S1 else .bad).st env fun d S1 => optS (Tg.put (.tu [.n i, .n j]) d S1 env) fun e1 => .nx e1 S1) := by
  intro W tk
  obtain ⟨te, p, q⟩ := ha W tk
  refine PS_imp (ps_par hc hN hi hj hij hx hy p hw rfl) fun D σ H ⟨M, env, S, re, rs, h⟩ => q σ H M env S _ re rs ?_
  have e0 : ((va env S).bind fun xs S1 => if xs.length ≤ sizeLine then R.ok (Pw.D.tup xs) S1 else R.bad).st env (fun d S1 => optS (Tg.put (.tu [.n i, .n j]) d S1 env) fun e1 => .nx e1 S1) = (va env S).st env fun xs S1 => if xs.length ≤ sizeLine then optS (Tg.put (.tu [.n i, .n j]) (Pw.D.tup xs) S1 env) fun e1 => .nx e1 S1 else .bad := by
    cases va env S with
    | ok xs S1 =>
      show (if xs.length ≤ sizeLine then R.ok (Pw.D.tup xs) S1 else .bad).st env _ = if xs.length ≤ sizeLine then _ else _
      split <;> rfl
    | exc _ _ => rfl
    | bad => rfl
  replace h : WPS X.K X.mg H M (((va env S).bind fun xs S1 => if xs.length ≤ sizeLine then R.ok (Pw.D.tup xs) S1 else R.bad).st env (fun d S1 => optS (Tg.put (.tu [.n i, .n j]) d S1 env) fun e1 => .nx e1 S1)) D W := h
  rw [e0] at h
  refine WPS.stA h re fun ds S1 us H1 M1 x1 rs1 rd re1 h1 => ?_
  split at h1
  · match ds, rd, h1 with
    | [d1, d2], rd, h1 =>
      obtain ⟨u1, u2, rfl, r1, r2⟩ := rd.two
      refine ⟨u1, u2, rfl, ?_⟩
      by_cases hl1 : i < env.length
      · by_cases hl2 : j < env.length
        · have : Tg.put (.tu [.n i, .n j]) (.tup [d1, d2]) S1 env = some ((env.set i (some d1)).set j (some d2)) := by
            simp [Tg.put, Tg.puts, seqOf, hl1, hl2]
          rw [this] at h1
          exact h1.nx rs1 ((re1.set i r1).set j r2)
        · have : Tg.put (.tu [.n i, .n j]) (.tup [d1, d2]) S1 env = none := by
            simp [Tg.put, Tg.puts, seqOf, hl1, hl2]
          rw [this] at h1; exact h1.elim
      · have : Tg.put (.tu [.n i, .n j]) (.tup [d1, d2]) S1 env = none := by
          simp [Tg.put, Tg.puts, seqOf, hl1]
        rw [this] at h1; exact h1.elim
    | [], _, h1 => simp [Tg.put, Tg.puts, seqOf, optS] at h1; exact h1.elim
    | [_], _, h1 => simp [Tg.put, Tg.puts, seqOf, optS] at h1; exact h1.elim
    | _ :: _ :: _ :: _, _, h1 => simp [Tg.put, Tg.puts, seqOf, optS] at h1; exact h1.elim
  · exact h1.elim
end
end Pw

set_option Elab.async false
set_option linter.all false
set_option maxRecDepth 100000
set_option maxHeartbeats 1000000
namespace Pw
open PySem PySem.Spec PyProof.Rows L2
section
variable {X : Cx} {pos : Pos} {e : Expr} {v : Ev → Sto → R D}
/-! ### o[i] = v -/
def rSetD : TSet := fun o i v H Q => ∃ a H', o = .ref a ∧ DPut H a i v H' ∧ Q H'
theorem set_dict (hu : X.A.units + 64 < cLine) : PSet X rSetD := by
  intro pins s σ H o i v ov iv u Q I ro ri rv h
  obtain ⟨a, H', rfl, g, q⟩ := h
  cases ro
  exact d_setItem (by omega) I g ri rv fun s' I' => ⟨H', I', q⟩
def rSetA : TSet := fun o i v H Q => rSetL o i v H Q ∨ rSetD o i v H Q
theorem set_all (hu : X.A.units + 64 < cLine) : PSet X rSetA := by
  intro pins s σ H o i v ov iv u Q I ro ri rv h
  rcases h with h | h
  · exact set_list pins s σ H o i v ov iv u Q I ro ri rv h
  · exact set_dict hu pins s σ H o i v ov iv u Q I ro ri rv h
theorem putK_ok {K : PySem.W.Frag} {H : Hp} {M : Pl} {k : D} {kk : Key} {d : D} {v : V} (hk : dkey k = some kk) (rv : RelD K H M d v) : ∀ {kvs : List (Key × V)} {ds : List D}, RelDs K H M ds (kvs.map (·.2)) →
    (dput k d ((kvs.map (·.1)).map kD) ds).1 = ((putK kvs kk v).map (·.1)).map kD ∧ RelDs K H M (dput k d ((kvs.map (·.1)).map kD) ds).2 ((putK kvs kk v).map (·.2)) := by
  intro kvs ds rd
  have any_eq : (((kvs.map (·.1)).map kD).any fun x => keyEq x k) = kvs.any fun kv => decide (kv.1 = kk) := by
    rw [List.map_map, List.any_map]
    congr 1
    funext kv
    exact keyEq_iff kv.1 k hk
  unfold dput putK
  rw [any_eq]
  by_cases h : (kvs.any fun kv => decide (kv.1 = kk)) = true
  · rw [if_pos h, if_pos h]
    refine ⟨?_, ?_⟩
    · rw [List.map_map, List.map_map, List.map_map]
      apply List.map_congr_left
      intro kv _
      show kD kv.1 = kD (if kv.1 = kk then (kv.1, v) else kv).1
      split <;> rfl
    · clear h any_eq
      induction kvs generalizing ds with
      | nil => cases rd; exact .nil
      | cons kv r ih =>
        cases rd with
        | cons r1 r2 =>
          refine .cons ?_ (ih r2)
          show RelD K H M (if keyEq (kD kv.1) k = true then d else _) (if kv.1 = kk then (kv.1, v) else kv).2
          rw [keyEq_iff kv.1 k hk]
          by_cases z : kv.1 = kk
          · rw [if_pos (by simpa using z), if_pos z]; exact rv
          · rw [if_neg (by simpa using z), if_neg z]; exact r1
  · rw [if_neg h, if_neg h]
    refine ⟨?_, ?_⟩
    · rw [List.map_append, List.map_append]
      show _ = _ ++ [kD kk]
      rw [dkey_kD hk]
    · rw [List.map_append]
      exact rd.append (.cons rv .nil)
theorem set_ok {H : Hp} {M : Pl} {S S4 : Sto} {o i x : D} {vo vi vx : V} {Q : Hp → Prop} (rs : RelS X.K H M S) (ro : RelD X.K H M o vo) (ri : RelD X.K H M i vi) (rx : RelD X.K H M x vx) (h : setItemD o i x S = some S4)
    (q : ∀ H', Ext H M H' M → RelS X.K H' M S4 → Q H') : rSetA vo vi vx H Q := by
  unfold setItemD at h
  cases o with
  | ref l =>
    simp only at h
    cases e : S[l]? with
    | none => rw [e] at h; cases h
    | some m =>
      rw [e] at h
      cases m with
      | lst xs =>
        simp only at h
        cases i with
        | int k =>
          simp only at h
          cases e2 : ixN xs.length k with
          | none => rw [e2] at h; cases h
          | some j =>
            rw [e2] at h
            cases h
            obtain ⟨a, vs, rfl, hm, ha, rr⟩ := refL rs ro e
            refine .inl ⟨a, vs, k, j, rfl, ri.int_, ha, by rw [← rr.length]; exact e2, q _ (Ext.write rs hm) (rs.write hm ⟨_, rfl, RelDs.set rx j rr⟩)⟩
        | _ => cases h
      | dct ks ds =>
        simp only at h
        split at h
        · rename_i hc
          rw [Bool.and_eq_true] at hc
          cases h
          obtain ⟨kk, hk⟩ := keyFits_key hc.1
          obtain ⟨a, kvs, rfl, hm, ha, hks, rr⟩ := refD rs ro e
          subst hks
          have hx := relD_key hk ri
          subst hx
          have hl : kvs.length < sizeLine := by
            have := of_decide_eq_true hc.2
            rw [List.length_map, List.length_map] at this
            exact this
          obtain ⟨p1, p2⟩ := putK_ok hk rx rr
          exact .inr ⟨a, _, rfl, DPut.k ha hl, q _ (Ext.write rs hm) (rs.write hm ⟨_, rfl, p1, p2⟩)⟩
        · cases h
  | _ => cases h
theorem ds_sub {o i : Expr} {vo vi : Ev → Sto → R D} {spos : Pos} (hu : X.A.units + 64 < cLine) (he : DE X e v) (ho : DE X o vo) (hi : DE X i vi) (hs : isComp e = false)
    (ha : ∀ v, assign (.Subscript o i spos) X.env v = (do
      let ov ← holding [v] (eval o X.env)
      let iv ← holding [v, ov] (eval i X.env)
      standAt spos
      holding [v, ov, iv] (setItem ov iv v)
      release [v, ov, iv] [])) :
    DS X (.Assign [.Subscript o i spos] e pos) (fun env S => (v env S).st env fun x S1 => (vo env S1).st env fun ov S2 => (vi env S2).st env fun iv S3 => match setItemD ov iv x S3 with
      | some S4 => .nx env S4
      | none => .bad) := by
  intro W tk
  obtain ⟨te, pe, qe⟩ := he W tk
  obtain ⟨to, po, qo⟩ := ho W tk
  obtain ⟨ti, pi, qi⟩ := hi W tk
  refine PS_imp (ps_asg pe (pg_sub po pi (set_all hu) ha) (show swapsWith e (some (.Subscript o i spos)) pos.line X.env = pure false from sw_nc hs) rfl rfl) fun D σ H ⟨M, env, S, re, rs, h⟩ => ?_
  refine qe σ H M env S _ re rs (WPS.st h re fun x S1 u H1 M1 x1 rs1 rx re1 h1 => ?_)
  refine qo σ H1 M1 env S1 _ re1 rs1 (WPS.st h1 re1 fun ov S2 vo H2 M2 x2 rs2 ro re2 h2 => ?_)
  refine qi σ H2 M2 env S2 _ re2 rs2 (WPS.st h2 re2 fun iv S3 vi H3 M3 x3 rs3 ri re3 h3 => ?_)
  cases e1 : setItemD ov iv x S3 with
  | none => rw [e1] at h3; exact h3.elim
  | some S4 =>
    rw [e1] at h3
    exact set_ok rs3 (ro.mono x3) ri ((rx.mono x2).mono x3) e1 fun H' x' rs' => (h3.ext x').nx rs' (re3.mono x')
/-! ### name op= e -/
def rIpA (K : PySem.W.Frag) : TIp := fun x y H Q => (∃ l b xs zs, x = .ref l ∧ y = .ref b ∧ H l = some (.lst xs) ∧ (SqL K H b zs ∨ SqT K H b zs) ∧ xs.length + zs.length ≤ sizeLine ∧ Q (.ref l) (upd H l (.lst (xs ++ zs)))) ∨
  (∃ i j, x = .int i ∧ y = .int j ∧ Q (.int (i + j)) H) ∨ (∃ i j, x = .str i ∧ y = .str j ∧ i.length + j.length ≤ sizeLine ∧ Q (.str (i ++ j)) H) ∨ rCatF K x y H Q
/-! ### loops -/
theorem ds_for {tg iter : Expr} {body : List Stmt} {t : Tg} {b : Bool} {vI : Ev → Sto → R Src} {f : Ev → Sto → SR} (hp : PassesOwn (model X.prog X.w) X.A X.env X.xe) (hc : X.calm = true) (hi : DI X tg iter b vI) (hg : PG X tg (gT X.K t b)) (hb : DSs X body f)
    (hs : notSet iter = true) :
    DS X (.For tg iter body [] pos) (fun env S => (vI env S).st env fun src S1 => forLoop t src f src.xs env S1) := by
  intro W tk
  refine PS_imp (ps_for hp hc (hi W tk) hg (hb W tk) (fold_id hs)) fun D σ H ⟨M, env, S, re, rs, h⟩ => ?_
  refine ⟨M, env, S, re, rs, ?_⟩
  replace h : WPS X.K X.mg H M ((vI env S).st env fun src S1 => forLoop t src f src.xs env S1) D W := h
  cases e1 : vI env S with
  | bad => rw [e1] at h; exact h.elim
  | exc z S' => rw [e1] at h; exact fun c dd H1 M1 x rs1 rx => h c dd σ H1 M1 x rs1 (re.mono x) rx
  | ok src S1 =>
    rw [e1] at h
    intro J H1 M1 x1 rs1 it
    replace h := WPS.ext x1 h
    refine ⟨fun i m σ H => ∃ M env S, RelE X.K H M env σ ∧ RelS X.K H M S ∧ ExtW H1 M1 H M ∧ m = src.xs.length - i ∧ i ≤ src.xs.length ∧ WPS X.K X.mg H M (forLoop t src f (src.xs.drop i) env S) D W,
      ⟨src.xs.length, M1, env, S1, re.mono x1, rs1, ExtW.refl _ _, rfl, Nat.zero_le _, h⟩, ?_⟩
    rintro i m σ H ⟨M, env, S, re, rs, xw, rfl, hi, ob⟩
    by_cases hlt : i < src.xs.length
    · rw [List.drop_eq_getElem_cons hlt] at ob
      unfold forLoop at ob
      split at ob
      rotate_left
      · exact ob.elim
      · rename_i hst
        cases e2 : Tg.put t src.xs[i] S env with
        | none => rw [e2] at ob; exact ob.elim
        | some en1 =>
          rw [e2] at ob
          obtain ⟨go, yd⟩ := it.go H M S i src.xs[i] xw rs hst (List.getElem?_eq_getElem hlt)
          refine .inr ⟨go, _, fun σ' H' hw => ⟨src.xs.length - (i + 1), by omega, hw⟩, fun y H3 hy => ?_⟩
          obtain ⟨x3, rs3, ry⟩ := yd y H3 hy
          refine ⟨M, env, S, src.xs[i], en1, re.mono x3, rs3, ry, e2, fun σ2 re2 _ => ⟨M, en1, S, re2, rs3, ?_⟩⟩
          replace ob : WPS X.K X.mg H M ((f en1 S).then_ fun e2 S2 => forLoop t src f (src.xs.drop (i + 1)) e2 S2) D W := ob
          have ob3 := WPS.ext x3 ob
          cases e3 : f en1 S with
          | bad => rw [e3] at ob3; exact ob3.elim
          | ret d S2 => rw [e3] at ob3; exact ob3
          | exc z en2 S2 => rw [e3] at ob3; exact ob3
          | nx en2 S2 =>
            rw [e3] at ob3
            intro σ3 H4 M4 x4 rs4 re4
            exact ⟨M4, en2, S2, re4, rs4, xw.trans ((x3.trans x4).w rs4), rfl, hlt, WPS.ext x4 ob3⟩
    · have hi' : i = src.xs.length := by omega
      subst hi'
      rw [List.drop_length] at ob
      unfold forLoop at ob
      split at ob
      · rename_i hst
        exact .inl ⟨it.stop H M S xw rs hst, ob.nx rs re⟩
      · exact ob.elim
theorem ds_while {body : List Stmt} {c : Ev → Sto → R Bool} {f : Ev → Sto → SR} (hp : PassesOwn (model X.prog X.w) X.A X.env X.xe) (hc : DT X e c) (hb : DSs X body f) :
    DS X (.While e body [] pos) (whileS c f) := by
  intro W tk
  obtain ⟨tc, pc, qc⟩ := hc W tk
  refine PS_imp (ps_while hp pc (hb W tk)) fun D σ H ⟨M, env, S, re, rs, h⟩ => ?_
  have hne : whileS c f env S ≠ .bad := fun z => by rw [z] at h; exact h
  obtain ⟨n, hn⟩ := whileS_ne hne
  rw [hn] at h
  refine ⟨fun m σ H => ∃ M env S, RelE X.K H M env σ ∧ RelS X.K H M S ∧ WPS X.K X.mg H M (whileN c f m env S) D W, ⟨n, M, env, S, re, rs, h⟩, ?_⟩
  rintro m σ H ⟨M, env, S, re, rs, h⟩
  cases m with
  | zero => exact h.elim
  | succ m =>
    replace h : WPS X.K X.mg H M ((c env S).st env fun t S1 => if t then (f env S1).then_ (fun e2 S2 => whileN c f m e2 S2) else .nx env S1) D W := h
    refine qc σ H M env S _ re rs (WPS.stT h re fun k S1 H1 M1 x1 rs1 re1 h1 => ?_)
    cases k with
    | false => exact h1.nx rs1 re1
    | true =>
      refine ⟨_, fun σ' H' hw => ⟨m, Nat.lt_succ_self m, hw⟩, M1, env, S1, re1, rs1, ?_⟩
      replace h1 : WPS X.K X.mg H1 M1 ((f env S1).then_ fun e2 S2 => whileN c f m e2 S2) D W := h1
      cases e3 : f env S1 with
      | bad => rw [e3] at h1; exact h1.elim
      | ret d S2 => rw [e3] at h1; exact h1
      | exc z en2 S2 => rw [e3] at h1; exact h1
      | nx en2 S2 =>
        rw [e3] at h1
        intro σ3 H4 M4 x4 rs4 re4
        exact ⟨M4, en2, S2, re4, rs4, WPS.ext x4 h1⟩
end
end Pw

set_option Elab.async false
set_option linter.all false
set_option maxRecDepth 100000
set_option maxHeartbeats 1000000
namespace Pw
open PySem PySem.Spec PyProof.Rows L2
/-! ## the end of a call -/
section
variable {K : PySem.W.Frag} {mg : Str → Option Value} {H H' : Hp} {M M' : Pl} {S S' : Sto}
mutual
theorem low_of : ∀ {d : D} {v : V}, RelD K H M d v → D.low M.m.length d = true
  | _, _, .non => rfl
  | _, _, .bl b => rfl
  | _, _, .int i => rfl
  | _, _, .str z => rfl
  | _, _, .tup h r => lows_of r
  | _, _, .lst h n q r => lows_of r
  | _, _, .lstF h r => lows_of r
  | _, _, .dctK h n q e r => lows_of r
  | _, _, .ref h => decide_eq_true (List.getElem?_eq_some_iff.mp h).1
theorem lows_of : ∀ {ds : List D} {vs : List V}, RelDs K H M ds vs → D.lows M.m.length ds = true
  | _, _, .nil => rfl
  | _, _, .cons h r => by unfold D.lows; rw [low_of h, lows_of r]; rfl
end
mutual
theorem un_low (p : ∃ T, M'.m = M.m ++ T) (hr : M'.r = M.r) : ∀ {d : D} {v : V}, D.low M.m.length d = true → RelD K H M' d v → RelD K H M d v
  | _, _, _, .non => .non
  | _, _, _, .bl b => .bl b
  | _, _, _, .int i => .int i
  | _, _, _, .str z => .str z
  | _, _, l, .tup h r => .tup h (un_lows p hr l r)
  | _, _, l, .lst h n q r => .lst h (fun z => n (by obtain ⟨T, e⟩ := p; rw [e]; exact List.mem_append_left _ z)) (by rw [← hr]; exact q) (un_lows p hr l r)
  | _, _, l, .lstF h r => .lstF h (un_lows p hr l r)
  | _, _, l, .dctK h n q e r => .dctK h (fun z => n (by obtain ⟨T, e⟩ := p; rw [e]; exact List.mem_append_left _ z)) (by rw [← hr]; exact q) e (un_lows p hr l r)
  | _, _, l, .ref h => .ref (by
    obtain ⟨T, e⟩ := p
    have hl := of_decide_eq_true l
    rw [e, List.getElem?_append_left hl] at h
    exact h)
theorem un_lows (p : ∃ T, M'.m = M.m ++ T) (hr : M'.r = M.r) : ∀ {ds : List D} {vs : List V}, D.lows M.m.length ds = true → RelDs K H M' ds vs → RelDs K H M ds vs
  | _, _, _, .nil => .nil
  | _, _, l, .cons h r => by
    unfold D.lows at l
    rw [Bool.and_eq_true] at l
    exact .cons (un_low p hr l.1 h) (un_lows p hr l.2 r)
end
/-- freezing goes right -/
def FrzOk (K : PySem.W.Frag) (H : Hp) (M M' : Pl) (F : List D → Option (List D)) : Prop := ∀ xs ys vs, F xs = some ys → RelDs K H M' xs vs → RelDs K H M ys vs
mutual
theorem frz1_ok {F : List D → Option (List D)} (hF : FrzOk K H M M' F) (p : ∃ T, M'.m = M.m ++ T) (hr : M'.r = M.r) (rs : RelS K H M' S') : ∀ {d d' : D} {v : V}, frz1 M.m.length S' F d = some d' → RelD K H M' d v → RelD K H M d' v
  | .non, d', v, h, r => by cases h; cases r; exact .non
  | .bl b, d', v, h, r => by cases h; cases r; exact .bl _
  | .int b, d', v, h, r => by cases h; cases r; exact .int _
  | .str b, d', v, h, r => by cases h; cases r; exact .str _
  | .tup xs, d', v, h, r => by
    have h : (frz1s M.m.length S' F xs).map .tup = some d' := h
    obtain ⟨ys, hy, rfl⟩ := Option.map_eq_some_iff.mp h
    cases r with
    | tup ht rr => exact .tup ht (frz1s_ok hF p hr rs hy rr)
  | .lst xs, d', v, h, r => by
    have h : (frz1s M.m.length S' F xs).map .lst = some d' := h
    obtain ⟨ys, hy, rfl⟩ := Option.map_eq_some_iff.mp h
    cases r with
    | lst ht n q rr => exact .lst ht (fun z => n (by obtain ⟨T, e⟩ := p; rw [e]; exact List.mem_append_left _ z)) (by rw [← hr]; exact q) (frz1s_ok hF p hr rs hy rr)
    | lstF ht rr => exact .lstF ht (frz1s_ok hF p hr rs hy rr)
  | .dct ks xs, d', v, h, r => by
    have h : (frz1s M.m.length S' F xs).map (D.dct ks) = some d' := h
    obtain ⟨ys, hy, rfl⟩ := Option.map_eq_some_iff.mp h
    cases r with
    | dctK ht n q e rr => exact .dctK ht (fun z => n (by obtain ⟨T, e⟩ := p; rw [e]; exact List.mem_append_left _ z)) (by rw [← hr]; exact q) e (frz1s_ok hF p hr rs hy rr)
  | .ref l, d', v, h, r => by
    unfold frz1 at h
    obtain ⟨a, rfl, hm⟩ := r.ref_
    by_cases hl : l < M.m.length
    · rw [if_pos hl] at h
      cases h
      refine .ref ?_
      obtain ⟨T, e⟩ := p
      rw [e, List.getElem?_append_left hl] at hm
      exact hm
    · rw [if_neg hl] at h
      have ham : a ∈ M'.m := List.mem_of_getElem? hm
      have hn : a ∉ M.m := fun z => by
        obtain ⟨T, e⟩ := p
        obtain ⟨j, hj, e2⟩ := List.getElem_of_mem z
        have h1 : M'.m[j]? = some a := by rw [e, List.getElem?_append_left hj, List.getElem?_eq_getElem hj, e2]
        have h2 : j < M'.m.length := (List.getElem?_eq_some_iff.mp h1).1
        have := (List.getElem?_inj h2 rs.nd).mp (h1.trans hm.symm)
        omega
      have hq : a ∉ M.r := fun z => (rs.apart a (by rw [hr]; exact z)).1 ham
      cases e : S'[l]? with
      | none => rw [e] at h; cases h
      | some m =>
        rw [e] at h
        cases m with
        | lst xs =>
          obtain ⟨ys, hy, rfl⟩ := Option.map_eq_some_iff.mp h
          obtain ⟨o, ho, vs, rfl, rr⟩ := rs.at_ l a _ hm e
          exact .lst (.inl ho) hn hq (hF _ _ _ hy rr)
        | dct ks xs =>
          obtain ⟨ys, hy, rfl⟩ := Option.map_eq_some_iff.mp h
          obtain ⟨o, ho, kvs, rfl, hk, rr⟩ := rs.at_ l a _ hm e
          exact .dctK ho hn hq hk (hF _ _ _ hy rr)
theorem frz1s_ok {F : List D → Option (List D)} (hF : FrzOk K H M M' F) (p : ∃ T, M'.m = M.m ++ T) (hr : M'.r = M.r) (rs : RelS K H M' S') : ∀ {ds ds' : List D} {vs : List V}, frz1s M.m.length S' F ds = some ds' → RelDs K H M' ds vs → RelDs K H M ds' vs
  | [], _, _, h, r => by cases h; cases r; exact .nil
  | d :: ds, ds', _, h, r => by
    unfold frz1s at h
    cases r with
    | cons r1 r2 =>
      cases e1 : frz1 M.m.length S' F d with
      | none => rw [e1] at h; cases h
      | some y =>
        cases e2 : frz1s M.m.length S' F ds with
        | none => rw [e1, e2] at h; cases h
        | some ys =>
          rw [e1, e2] at h
          cases h
          exact .cons (frz1_ok hF p hr rs e1 r1) (frz1s_ok hF p hr rs e2 r2)
end
theorem frzs_ok (p : ∃ T, M'.m = M.m ++ T) (hr : M'.r = M.r) (rs : RelS K H M' S') : ∀ k, FrzOk K H M M' (frzs M.m.length S' k)
  | 0 => fun xs ys vs h r => frz1s_ok (F := fun _ => none) (fun _ _ _ h => nomatch h) p hr rs h r
  | k + 1 => fun xs ys vs h r => frz1s_ok (frzs_ok p hr rs k) p hr rs h r
/-- the old part of the store -/
theorem RelS.old (rs0 : RelS K H M S) (x : Ext H M H' M') (rs : RelS K H' M' S') (ho : OldOk S S') : RelS K H' M (S'.take S.length) := by
  obtain ⟨T, e⟩ := x.pre
  have hlen : S.length ≤ S'.length := by rw [← rs0.len, ← rs.len, e, List.length_append]; omega
  refine ⟨by rw [List.length_take, rs0.len]; omega, rs0.nd, fun a ha => ?_, fun l a m h1 h2 => ?_⟩
  · obtain ⟨n, u⟩ := rs.apart a (by rw [x.res]; exact ha)
    exact ⟨fun z => n (by rw [e]; exact List.mem_append_left _ z), u⟩
  · have hl : l < M.m.length := (List.getElem?_eq_some_iff.mp h1).1
    have h3 : S'[l]? = some m := by
      rw [List.getElem?_take] at h2
      split at h2
      · exact h2
      · cases h2
    obtain ⟨o, hO, q⟩ := rs.at_ l a m (x.get h1) h3
    refine ⟨o, hO, ?_⟩
    have hm : m.low M.m.length = true := by
      rcases ho l (by rw [← rs0.len]; exact hl) with z | ⟨m', z, zl⟩
      · obtain ⟨o0, _, q0⟩ := rs0.at_ l a m h1 (by rw [← z]; exact h3)
        cases m with
        | lst xs => obtain ⟨vs, _, r⟩ := q0; exact lows_of r
        | dct ks xs => obtain ⟨kvs, _, _, r⟩ := q0; exact lows_of r
      · rw [h3] at z
        cases z
        rw [rs0.len]; exact zl
    cases m with
    | lst xs => obtain ⟨vs, e2, r⟩ := q; exact ⟨vs, e2, un_lows x.pre x.res hm r⟩
    | dct ks xs => obtain ⟨kvs, e2, e3, r⟩ := q; exact ⟨kvs, e2, e3, un_lows x.pre x.res hm r⟩
theorem Ext.old (x : Ext H M H' M') : Ext H M H' M := ⟨⟨[], by simp⟩, rfl, fun a o n h => ⟨(x.keep a o n h).1, n⟩, x.tups, x.frzs⟩
theorem close_ok {fz : Bool} {r : SR} {Q : VK} {E : XK} (rs0 : RelS K H M S) (h : WPE K mg H M (closeR fz S r) Q E) :
    WPS K mg H M r { nx := fun _ H' => Q .non H', rt := Q } (fun c d _ H' => E c d H') := by
  cases r with
  | bad => exact h.elim
  | nx e S' =>
    intro σ' H' M' x rs _
    replace h : WPE K mg H M (.ok .non (if fz then (close S S' .non).2 else S')) Q E := h
    cases fz with
    | false => exact h .non H' M' x rs .non
    | true =>
      simp only [if_true] at h
      unfold close at h
      split at h
      · exact h .non H' M' x rs .non
      · have e : frz S.length S' .non = some .non := rfl
        rw [e] at h
        simp only at h
        split at h
        · exact h .non H' M x.old (rs0.old x rs ‹_›) .non
        · exact h .non H' M' x rs .non
  | ret d S' =>
    intro v H' M' x rs rd
    cases fz with
    | false => exact h v H' M' x rs rd
    | true =>
      replace h : WPE K mg H M (.ok (close S S' d).1 (close S S' d).2) Q E := h
      unfold close at h
      split at h
      · exact h v H' M' x rs rd
      · cases e : frz S.length S' d with
        | none => rw [e] at h; exact h v H' M' x rs rd
        | some d' =>
          rw [e] at h
          simp only at h
          split at h
          · refine h v H' M x.old (rs0.old x rs ‹_›) ?_
            unfold frz at e
            rw [← rs0.len] at e
            exact frz1_ok (frzs_ok x.pre x.res rs 6) x.pre x.res rs e rd
          · exact h v H' M' x rs rd
  | exc z e S' =>
    intro c dd σ' H' M' x rs _ rx
    cases fz with
    | false => exact h c dd H' M' x rs rx
    | true =>
      replace h : WPE K mg H M (.exc (closeX S S' z).1 (closeX S S' z).2) Q E := h
      unfold closeX at h
      split at h
      · exact h c dd H' M' x rs rx
      · cases e : frz1s S.length S' (frzs S.length S' 6) (z.fs.map (·.2)) with
        | none => rw [e] at h; exact h c dd H' M' x rs rx
        | some ds =>
          rw [e] at h
          simp only at h
          split at h
          · refine h c dd H' M x.old (rs0.old x rs ‹_›) ?_
            obtain ⟨C, hC, hcls, hf⟩ := rx
            refine ⟨C, hC, hcls, ?_⟩
            rcases hf with ⟨hf, hd⟩ | ⟨a, vs, hf, hd, ha, na, nr, rv⟩
            · left
              rw [hf]
              exact ⟨rfl, hd⟩
            · right
              rw [← rs0.len] at e
              have rv' := frz1s_ok (frzs_ok x.pre x.res rs 6) x.pre x.res rs e rv
              have hl : ds.length = z.fs.length := by rw [rv'.length, ← rv.length, List.length_map]
              have e1 : (((z.fs.map (·.1)).zip ds).map (·.1)) = z.fs.map (·.1) := by
                rw [List.map_fst_zip]
                rw [List.length_map, hl]; exact Nat.le_refl _
              have e2 : (((z.fs.map (·.1)).zip ds).map (·.2)) = ds := by
                rw [List.map_snd_zip]
                rw [List.length_map, hl]; exact Nat.le_refl _
              refine ⟨a, vs, fun q => hf ?_, hd, by rw [e1]; exact ha, fun z => na (by obtain ⟨T, e⟩ := x.pre; rw [e]; exact List.mem_append_left _ z), by rw [← x.res]; exact nr, by rw [e2]; exact rv'⟩
              have := congrArg List.length q
              rw [List.length_zip, List.length_map, hl, Nat.min_self] at this
              exact List.eq_nil_of_length_eq_zero this
          · exact h c dd H' M' x rs rx
/-- the slots at a call -/
theorem start_rel {N : List Str} {ds : List D} {vs : List V} {k : Nat} (r : RelDs K H M ds vs) (hk : N.length = ds.length + k) : RelE K H M (ds.map some ++ List.replicate k none) (L2.start N vs) := by
  unfold L2.start
  have hl := r.length
  refine ⟨by simp [← hl, hk], fun i d h => ?_⟩
  by_cases hi : i < ds.length
  · rw [List.getElem?_append_left (by simpa using hi), List.getElem?_map] at h
    obtain ⟨d', hd, e⟩ := Option.map_eq_some_iff.mp h
    cases e
    obtain ⟨v, hv, rv⟩ := r.get hd
    refine ⟨v, ?_, rv⟩
    rw [List.getElem?_append_left (by simpa [← hl] using hi), List.getElem?_map, hv]
    rfl
  · rw [List.getElem?_append_right (by simpa using Nat.le_of_not_lt hi), List.getElem?_replicate] at h
    split at h <;> cases h
end
end Pw

set_option Elab.async false
set_option linter.all false
set_option maxRecDepth 100000
set_option maxHeartbeats 1000000
namespace Pw
open PySem PySem.Spec PyProof.Rows L2
/-! # zip of two and of three sequences, each a list or a tuple -/
def SqB (K : PySem.W.Frag) (H : Hp) (tp : Bool) (a : Addr) (xs : List V) : Prop := cond tp (SqT K H a xs) (SqL K H a xs)
def SeqB (tp : Bool) (h : Heap) (a : Addr) (its : Array Value) : Prop := cond tp (h.IsTuple a its) (h.IsList a its)
def ItB (tp : Bool) (h : Heap) (it a : Addr) (i : Nat) : Prop := cond tp (h.IsTupleIter it a i) (h.IsListIter it a i)
def itO (tp : Bool) (a : Addr) : Obj := cond tp { cls := .type "tuple_iterator", data := .fields #[.ref a, .int 0 0] } { cls := .type "list_iterator", data := .fields #[.ref a, .int 0 0] }
theorem begins_B (tp : Bool) (a : Addr) (its : Array Value) : Begins (.ref a) (itO tp a) (fun h => SeqB tp h a its) := by
  cases tp
  · exact begins_list a its
  · exact begins_tuple a its
theorem draws_B {prog : Program} {w : World} {A : Around} (tp : Bool) (hh : A.handled = none) (it a : Addr) (hne : a ≠ it) (its : Array Value) :
    Draws prog w A it [it, a] its.size (fun i v => its[i]? = some v) (fun i h => ItB tp h it a i ∧ SeqB tp h a its) := by
  cases tp
  · exact Draws.list hh it a hne its
  · exact Draws.tuple hh it a hne its
theorem itB_of {tp : Bool} {h : Heap} {it a : Addr} (e : h.get? it = some (itO tp a)) : ItB tp h it a 0 := by
  cases tp
  · exact ⟨_, e, rfl, rfl⟩
  · exact ⟨_, e, rfl, rfl⟩
theorem itB_obj {tp : Bool} {h : Heap} {it a : Addr} {i : Nat} (q : ItB tp h it a i) : ∃ o, h.get? it = some o ∧ ∀ v, o.data ≠ .cell v := by
  cases tp
  · obtain ⟨o, e, _, d⟩ := q; exact ⟨o, e, fun v z => by rw [d] at z; cases z⟩
  · obtain ⟨o, e, _, d⟩ := q; exact ⟨o, e, fun v z => by rw [d] at z; cases z⟩
theorem itB_at {tp : Bool} {h h' : Heap} {it a : Addr} {i : Nat} (q : ItB tp h it a i) (k : ∀ o, h.get? it = some o → h'.get? it = some o) : ItB tp h' it a i := by
  cases tp
  · exact Heap.IsListIter.at q k
  · exact Heap.IsTupleIter.at q k
section
variable {X : Cx} {pins : List (Addr × Obj)} {σ : L2.St} {H : Hp} {s : Shared}
theorem sqB_get {tp : Bool} {a : Addr} {xs : List V} (I : Inv X pins σ H s) (h : SqB X.K H tp a xs) : ∃ its : List Value, Vals xs its ∧ SeqB tp s.heap a its.toArray ∧ a < s.heap.objs.size := by
  cases tp
  · obtain ⟨its, rv, p, _⟩ := I.list h
    exact ⟨its, rv, p.isList, p.lt⟩
  · obtain ⟨its, rv, p, _⟩ := I.tuple h
    obtain ⟨o, ho, q⟩ := id p
    exact ⟨its, rv, (show s.heap.IsTuple a its.toArray from p), Heap.lt_size ho⟩
theorem sqB_inj {tp : Bool} {a : Addr} {xs ys : List V} (I : Inv X pins σ H s) (h : SqB X.K H tp a xs) (h2 : SqB X.K H tp a ys) : xs = ys := by
  cases tp
  · exact I.list_inj h h2
  · exact I.tuple_inj h h2
end
theorem vals3 {a b c : V} {us : List Value} (r : Vals [a, b, c] us) : ∃ u v w, us = [u, v, w] ∧ RelV a u ∧ RelV b v ∧ RelV c w := by
  cases r with
  | cons r1 r => cases r with
    | cons r2 r => cases r with
      | cons r3 r => cases r; exact ⟨_, _, _, rfl, r1, r2, r3⟩
/-- 2 sequences as they stand at each turn, their items in new tuples -/
def ItzB2 (K : PySem.W.Frag) (t1 : Bool) (a1 : Addr) (t2 : Bool) (a2 : Addr) : It :=
  ⟨fun i H => ∃ (xs1 xs2 : List V) (x1 x2 : V), SqB K H t1 a1 xs1 ∧ SqB K H t2 a2 xs2 ∧ xs1[i]? = some x1 ∧ xs2[i]? = some x2,
    fun i H v H' => ∃ T x1 x2, v = .ref T ∧ H T = none ∧ H' = upd H T (.tup [x1, x2]) ∧ (∀ xs, SqB K H t1 a1 xs → xs[i]? = some x1) ∧ (∀ xs, SqB K H t2 a2 xs → xs[i]? = some x2),
    fun i H => ∃ xs1 xs2 : List V, SqB K H t1 a1 xs1 ∧ SqB K H t2 a2 xs2 ∧ i = min xs1.length xs2.length⟩
theorem turn_zipB2 {P : Program} {w : World} {K : PySem.W.Frag} {elts : List Expr} {kk : Nat} {tpos : Pos} {t1 t2 : Bool} {a1 a2 z TI TO i1 i2 : Addr} (D : ZipSep2 z TI TO i1 i2 [i1, a1] [i2, a2]) (h1 : a1 ≠ i1) (h2 : a2 ≠ i2) :
    Turn P w K (.Tuple elts kk tpos) (ItzB2 K t1 a1 t2 a2) [z, TI, TO, i1, i2] z (fun i h => IsZip h z TI TO .none ∧ IsTupOf2 h TI (.ref i1) (.ref i2) ∧ (∃ y1 y2, IsTupOf2 h TO y1 y2) ∧ ItB t1 h i1 a1 i ∧ ItB t2 h i2 a2 i) where
  mem := by simp
  obj := fun i h st c hc => by
    obtain ⟨hz, hTI, ⟨y1, y2, hTO⟩, q1, q2⟩ := st
    have e' : c = z ∨ c = TI ∨ c = TO ∨ c = i1 ∨ c = i2 := by simpa using hc
    rcases e' with q | q | q | q | q
    · rw [q]; exact ⟨_, hz, fun v q => nomatch q⟩
    · rw [q]; exact ⟨_, hTI, fun v q => nomatch q⟩
    · rw [q]; exact ⟨_, hTO, fun v q => nomatch q⟩
    · rw [q]; exact itB_obj q1
    · rw [q]; exact itB_obj q2
  keep := fun i h h' st k => by
    obtain ⟨hz, hTI, ⟨y1, y2, hTO⟩, q1, q2⟩ := st
    exact ⟨k z (by simp) _ hz, k TI (by simp) _ hTI, ⟨y1, y2, k TO (by simp) _ hTO⟩, itB_at q1 fun o q => k i1 (by simp) o q, itB_at q2 fun o q => k i2 (by simp) o q⟩
  item := by
    intro X hP hw hK hc i pins s σ H E I hf st hg
    subst hP hw hK
    obtain ⟨hz, hTI, ⟨y1, y2, hTO⟩, q1, q2⟩ := st
    obtain ⟨xs1, xs2, x1, x2, hq1, hq2, hx1, hx2⟩ := hg
    obtain ⟨its1, rv1, p1, hl1⟩ := sqB_get I hq1
    obtain ⟨u1, hu1, ru1⟩ := rv1.get hx1
    have lt1 : i < its1.toArray.size := by have := (List.getElem?_eq_some_iff.mp hu1).1; simpa using this
    have d1 := draws_B (prog := X.prog) (w := X.w) (A := X.A.in1) t1 (I.ok.hd hc) i1 a1 h1 its1.toArray
    obtain ⟨its2, rv2, p2, hl2⟩ := sqB_get I hq2
    obtain ⟨u2, hu2, ru2⟩ := rv2.get hx2
    have lt2 : i < its2.toArray.size := by have := (List.getElem?_eq_some_iff.mp hu2).1; simpa using this
    have d2 := draws_B (prog := X.prog) (w := X.w) (A := X.A.in1) t2 (I.ok.hd hc) i2 a2 h2 its2.toArray
    have hzl : z < s.heap.objs.size := Heap.lt_size hz
    refine wpAny_pyNext_zipD2_item D d1 d2 hz hTI hTO ⟨q1, p1⟩ ⟨q2, p2⟩ lt1 lt2 fun v1 v2 h' tk w1 w2 z' TO' b1 b2 hT hsz hk => ?_
    have e1 : v1 = u1 := by
      have : its1.toArray[i]? = some u1 := by simpa using hu1
      rw [this] at w1
      exact (Option.some.inj w1).symm
    subst e1
    have e2 : v2 = u2 := by
      have : its2.toArray[i]? = some u2 := by simpa using hu2
      rw [this] at w2
      exact (Option.some.inj w2).symm
    subst e2
    refine ⟨_, rfl, wpAny_letOwnedTupleGo_zip (s := { s with heap := h', toks := tk }) z' fun h'' z'' sb => ?_⟩
    have hT2 : h''.get? s.heap.objs.size = some { cls := .type "tuple", data := .seq #[v1, v2] } := (sb.2 _ (Nat.ne_of_gt hzl)).trans hT
    have new : ObjOk X.prog X.w (upd H s.heap.objs.size (.tup [x1, x2])) h'' s.heap.objs.size (.tup [x1, x2]) :=
      ⟨by show 2 ≤ sizeLine; decide, [v1, v2], .cons ru1 (.cons ru2 (.nil)), ⟨_, hT2, rfl, _, rfl⟩⟩
    have I1 : Inv X pins σ (upd H s.heap.objs.size (.tup [x1, x2])) { s with heap := h'', toks := tk } :=
      I.turnedNew (ch := [z, TI, TO, i1, i2]) (fun c o hb q => (sb.2 c (fun q' => hb (by simp [q']))).trans (hk c o (fun q' => hb (by simp [q'])) (fun q' => hb (by simp [q'])) (fun q' => hb (by simp [q'])) (fun q' => hb (by simp [q'])) q)) hf (Nat.le_refl _) new
    refine ⟨.ref s.heap.objs.size, _, I1, rfl, ⟨_, x1, x2, rfl, I.hok.fresh (Nat.le_refl _), rfl, (fun l hl => by rw [sqB_inj I hl hq1]; exact hx1), (fun l hl => by rw [sqB_inj I hl hq2]; exact hx2)⟩, ⟨z'', ?_, ⟨v1, v2, ?_⟩, ?_, ?_⟩, fun c hcm => ?_⟩
    · exact (sb.2 _ D.TIz).trans (hk _ _ D.TIz D.TITO D.TIi1 D.TIi2 hTI)
    · exact (sb.2 _ D.TOz).trans TO'
    · exact itB_at b1.1 fun o q => (sb.2 _ (Ne.symm D.zi1)).trans q
    · exact itB_at b2.1 fun o q => (sb.2 _ (Ne.symm D.zi2)).trans q
    · have hlt : c < s.heap.objs.size := by
        have e' : c = z ∨ c = TI ∨ c = TO ∨ c = i1 ∨ c = i2 := by simpa using hcm
        rcases e' with q | q | q | q | q
        · rw [q]; exact hzl
        · rw [q]; exact Heap.lt_size hTI
        · rw [q]; exact Heap.lt_size hTO
        · rw [q]; obtain ⟨_, e, _⟩ := itB_obj q1; exact Heap.lt_size e
        · rw [q]; obtain ⟨_, e, _⟩ := itB_obj q2; exact Heap.lt_size e
      rw [upd_ne (Nat.ne_of_lt hlt)]
      exact (hf c hcm).1
  done := by
    intro X hP hw hK hc i pins s σ H E I hf st hg
    subst hP hw hK
    obtain ⟨hz, hTI, ⟨y1, y2, hTO⟩, q1, q2⟩ := st
    obtain ⟨xs1, xs2, hq1, hq2, hend⟩ := hg
    obtain ⟨its1, rv1, p1, hl1⟩ := sqB_get I hq1
    have d1 := draws_B (prog := X.prog) (w := X.w) (A := X.A.in1) t1 (I.ok.hd hc) i1 a1 h1 its1.toArray
    have n1 : its1.toArray.size = xs1.length := by rw [List.size_toArray, ← rv1.length]
    obtain ⟨its2, rv2, p2, hl2⟩ := sqB_get I hq2
    have d2 := draws_B (prog := X.prog) (w := X.w) (A := X.A.in1) t2 (I.ok.hd hc) i2 a2 h2 its2.toArray
    have n2 : its2.toArray.size = xs2.length := by rw [List.size_toArray, ← rv2.length]
    exact wpAny_pyNext_zipD2_end D d1 d2 hz hTI hTO ⟨q1, p1⟩ ⟨q2, p2⟩ (by omega) (by omega) (by omega) fun h' tk hk => ⟨rfl, I.turnedL (t' := tk) (ch := [z, TI, TO, i1, i2]) (fun c o hb q =>
      hk c o (fun q' => hb (by simp [q'])) (fun q' => hb (by simp [q'])) (fun q' => hb (by simp [q'])) (fun q' => hb (by simp [q'])) q) hf⟩
  self := fun A i s Q E st h => wpAny_pyIter_zip st.1 h
def iZipB2 (K : PySem.W.Frag) (ta : TA) : TI := fun σ H R => ta σ H fun vs H1 => ∃ (t1 t2 : Bool) (a1 a2 : Addr) (xs1 xs2 : List V), vs = [.ref a1, .ref a2] ∧ SqB K H1 t1 a1 xs1 ∧ SqB K H1 t2 a2 xs2 ∧ R (ItzB2 K t1 a1 t2 a2) H1
theorem pi_zipB2 {X : Cx} {e1 e2 : Expr} {ta : TA} {p pos tpos : Pos} {elts : List Expr} {kk : Nat} (hg : Gl X "zip") (hm : X.mg "zip" = none) (ha : PA X [e1, e2] ta)
    (hs : starEach [e1, e2] X.env = (false, eval e1 X.env) :: starEach [e2] X.env) (hpl : (backTo pos (starEach [e2] X.env)).any (·.1) = false) :
    PI X (.Tuple elts kk tpos) (.Call (.Name "zip" p) [e1, e2] [] pos) (iZipB2 X.K ta) := by
  refine ⟨fun pins s σ H R I h => ?_⟩
  refine Call_ (ld_blt I hg hm PyProof.Rows.boot_zip (PyProof.Rows.callWith_type1 (thn (ha.run pos pins s σ H _ I h) fun us s1 ⟨vs, H1, I1, r1, q1⟩ => ?_) hs hpl))
  obtain ⟨t1, t2, a1, a2, xs1, xs2, ex, hq1, hq2, q⟩ := q1
  subst ex
  obtain ⟨v1, v2, rfl, r1, r2⟩ := vals2 r1
  cases r1
  cases r2
  obtain ⟨its1, rv1, p1, hl1⟩ := sqB_get I1 hq1
  obtain ⟨its2, rv2, p2, hl2⟩ := sqB_get I1 hq2
  have fresh : ∀ c, c ∈ [s1.heap.objs.size + 4, s1.heap.objs.size + 2, s1.heap.objs.size + 3, s1.heap.objs.size, s1.heap.objs.size + 1] → FpOk X pins H1 c := fun c hcm => by
    have e' : c = s1.heap.objs.size + 4 ∨ c = s1.heap.objs.size + 2 ∨ c = s1.heap.objs.size + 3 ∨ c = s1.heap.objs.size ∨ c = s1.heap.objs.size + 1 := by simpa using hcm
    have hle : s1.heap.objs.size ≤ c := by
      rcases e' with z | z | z | z | z
      · rw [z]; exact Nat.le_add_right _ _
      · rw [z]; exact Nat.le_add_right _ _
      · rw [z]; exact Nat.le_add_right _ _
      · rw [z]; exact Nat.le_refl _
      · rw [z]; exact Nat.le_add_right _ _
    exact I1.fpOk hle (I1.hok.fresh hle)
  refine zip_begins2 (begins_B t1 a1 its1.toArray) (begins_B t2 a2 its2.toArray) p1 p2 fun h' hz hTI hTO g1 g2 hsz hk => wpAny_pyIter_zip hz ?_
  have I2 : Inv X pins σ H1 { s1 with heap := h' } := I1.kept (t' := s1.toks) hk
  exact ⟨s1.heap.objs.size + 4, [s1.heap.objs.size + 4, s1.heap.objs.size + 2, s1.heap.objs.size + 3, s1.heap.objs.size, s1.heap.objs.size + 1], _, _, H1, rfl, I2, turn_zipB2 (zip_sep2 (fun b hb => by rw [List.mem_singleton.mp hb]; exact hl1) (fun b hb => by rw [List.mem_singleton.mp hb]; exact hl2)) (Nat.ne_of_lt hl1) (Nat.ne_of_lt (Nat.lt_add_right 1 hl2)), ⟨hz, hTI, ⟨_, _, hTO⟩, itB_of g1, itB_of g2⟩, fresh, q⟩
/-- 3 sequences as they stand at each turn, their items in new tuples -/
def ItzB3 (K : PySem.W.Frag) (t1 : Bool) (a1 : Addr) (t2 : Bool) (a2 : Addr) (t3 : Bool) (a3 : Addr) : It :=
  ⟨fun i H => ∃ (xs1 xs2 xs3 : List V) (x1 x2 x3 : V), SqB K H t1 a1 xs1 ∧ SqB K H t2 a2 xs2 ∧ SqB K H t3 a3 xs3 ∧ xs1[i]? = some x1 ∧ xs2[i]? = some x2 ∧ xs3[i]? = some x3,
    fun i H v H' => ∃ T x1 x2 x3, v = .ref T ∧ H T = none ∧ H' = upd H T (.tup [x1, x2, x3]) ∧ (∀ xs, SqB K H t1 a1 xs → xs[i]? = some x1) ∧ (∀ xs, SqB K H t2 a2 xs → xs[i]? = some x2) ∧ (∀ xs, SqB K H t3 a3 xs → xs[i]? = some x3),
    fun i H => ∃ xs1 xs2 xs3 : List V, SqB K H t1 a1 xs1 ∧ SqB K H t2 a2 xs2 ∧ SqB K H t3 a3 xs3 ∧ i = min xs1.length (min xs2.length xs3.length)⟩
theorem turn_zipB3 {P : Program} {w : World} {K : PySem.W.Frag} {elts : List Expr} {kk : Nat} {tpos : Pos} {t1 t2 t3 : Bool} {a1 a2 a3 z TI TO i1 i2 i3 : Addr} (D : ZipSep3 z TI TO i1 i2 i3 [i1, a1] [i2, a2] [i3, a3]) (h1 : a1 ≠ i1) (h2 : a2 ≠ i2) (h3 : a3 ≠ i3) :
    Turn P w K (.Tuple elts kk tpos) (ItzB3 K t1 a1 t2 a2 t3 a3) [z, TI, TO, i1, i2, i3] z (fun i h => IsZip h z TI TO .none ∧ IsTupOf3 h TI (.ref i1) (.ref i2) (.ref i3) ∧ (∃ y1 y2 y3, IsTupOf3 h TO y1 y2 y3) ∧ ItB t1 h i1 a1 i ∧ ItB t2 h i2 a2 i ∧ ItB t3 h i3 a3 i) where
  mem := by simp
  obj := fun i h st c hc => by
    obtain ⟨hz, hTI, ⟨y1, y2, y3, hTO⟩, q1, q2, q3⟩ := st
    have e' : c = z ∨ c = TI ∨ c = TO ∨ c = i1 ∨ c = i2 ∨ c = i3 := by simpa using hc
    rcases e' with q | q | q | q | q | q
    · rw [q]; exact ⟨_, hz, fun v q => nomatch q⟩
    · rw [q]; exact ⟨_, hTI, fun v q => nomatch q⟩
    · rw [q]; exact ⟨_, hTO, fun v q => nomatch q⟩
    · rw [q]; exact itB_obj q1
    · rw [q]; exact itB_obj q2
    · rw [q]; exact itB_obj q3
  keep := fun i h h' st k => by
    obtain ⟨hz, hTI, ⟨y1, y2, y3, hTO⟩, q1, q2, q3⟩ := st
    exact ⟨k z (by simp) _ hz, k TI (by simp) _ hTI, ⟨y1, y2, y3, k TO (by simp) _ hTO⟩, itB_at q1 fun o q => k i1 (by simp) o q, itB_at q2 fun o q => k i2 (by simp) o q, itB_at q3 fun o q => k i3 (by simp) o q⟩
  item := by
    intro X hP hw hK hc i pins s σ H E I hf st hg
    subst hP hw hK
    obtain ⟨hz, hTI, ⟨y1, y2, y3, hTO⟩, q1, q2, q3⟩ := st
    obtain ⟨xs1, xs2, xs3, x1, x2, x3, hq1, hq2, hq3, hx1, hx2, hx3⟩ := hg
    obtain ⟨its1, rv1, p1, hl1⟩ := sqB_get I hq1
    obtain ⟨u1, hu1, ru1⟩ := rv1.get hx1
    have lt1 : i < its1.toArray.size := by have := (List.getElem?_eq_some_iff.mp hu1).1; simpa using this
    have d1 := draws_B (prog := X.prog) (w := X.w) (A := X.A.in1) t1 (I.ok.hd hc) i1 a1 h1 its1.toArray
    obtain ⟨its2, rv2, p2, hl2⟩ := sqB_get I hq2
    obtain ⟨u2, hu2, ru2⟩ := rv2.get hx2
    have lt2 : i < its2.toArray.size := by have := (List.getElem?_eq_some_iff.mp hu2).1; simpa using this
    have d2 := draws_B (prog := X.prog) (w := X.w) (A := X.A.in1) t2 (I.ok.hd hc) i2 a2 h2 its2.toArray
    obtain ⟨its3, rv3, p3, hl3⟩ := sqB_get I hq3
    obtain ⟨u3, hu3, ru3⟩ := rv3.get hx3
    have lt3 : i < its3.toArray.size := by have := (List.getElem?_eq_some_iff.mp hu3).1; simpa using this
    have d3 := draws_B (prog := X.prog) (w := X.w) (A := X.A.in1) t3 (I.ok.hd hc) i3 a3 h3 its3.toArray
    have hzl : z < s.heap.objs.size := Heap.lt_size hz
    refine wpAny_pyNext_zipD3_item D d1 d2 d3 hz hTI hTO ⟨q1, p1⟩ ⟨q2, p2⟩ ⟨q3, p3⟩ lt1 lt2 lt3 fun v1 v2 v3 h' tk w1 w2 w3 z' TO' b1 b2 b3 hT hsz hk => ?_
    have e1 : v1 = u1 := by
      have : its1.toArray[i]? = some u1 := by simpa using hu1
      rw [this] at w1
      exact (Option.some.inj w1).symm
    subst e1
    have e2 : v2 = u2 := by
      have : its2.toArray[i]? = some u2 := by simpa using hu2
      rw [this] at w2
      exact (Option.some.inj w2).symm
    subst e2
    have e3 : v3 = u3 := by
      have : its3.toArray[i]? = some u3 := by simpa using hu3
      rw [this] at w3
      exact (Option.some.inj w3).symm
    subst e3
    refine ⟨_, rfl, wpAny_letOwnedTupleGo_zip (s := { s with heap := h', toks := tk }) z' fun h'' z'' sb => ?_⟩
    have hT2 : h''.get? s.heap.objs.size = some { cls := .type "tuple", data := .seq #[v1, v2, v3] } := (sb.2 _ (Nat.ne_of_gt hzl)).trans hT
    have new : ObjOk X.prog X.w (upd H s.heap.objs.size (.tup [x1, x2, x3])) h'' s.heap.objs.size (.tup [x1, x2, x3]) :=
      ⟨by show 3 ≤ sizeLine; decide, [v1, v2, v3], .cons ru1 (.cons ru2 (.cons ru3 (.nil))), ⟨_, hT2, rfl, _, rfl⟩⟩
    have I1 : Inv X pins σ (upd H s.heap.objs.size (.tup [x1, x2, x3])) { s with heap := h'', toks := tk } :=
      I.turnedNew (ch := [z, TI, TO, i1, i2, i3]) (fun c o hb q => (sb.2 c (fun q' => hb (by simp [q']))).trans (hk c o (fun q' => hb (by simp [q'])) (fun q' => hb (by simp [q'])) (fun q' => hb (by simp [q'])) (fun q' => hb (by simp [q'])) (fun q' => hb (by simp [q'])) q)) hf (Nat.le_refl _) new
    refine ⟨.ref s.heap.objs.size, _, I1, rfl, ⟨_, x1, x2, x3, rfl, I.hok.fresh (Nat.le_refl _), rfl, (fun l hl => by rw [sqB_inj I hl hq1]; exact hx1), (fun l hl => by rw [sqB_inj I hl hq2]; exact hx2), (fun l hl => by rw [sqB_inj I hl hq3]; exact hx3)⟩, ⟨z'', ?_, ⟨v1, v2, v3, ?_⟩, ?_, ?_, ?_⟩, fun c hcm => ?_⟩
    · exact (sb.2 _ D.TIz).trans (hk _ _ D.TIz D.TITO D.TIi1 D.TIi2 D.TIi3 hTI)
    · exact (sb.2 _ D.TOz).trans TO'
    · exact itB_at b1.1 fun o q => (sb.2 _ (Ne.symm D.zi1)).trans q
    · exact itB_at b2.1 fun o q => (sb.2 _ (Ne.symm D.zi2)).trans q
    · exact itB_at b3.1 fun o q => (sb.2 _ (Ne.symm D.zi3)).trans q
    · have hlt : c < s.heap.objs.size := by
        have e' : c = z ∨ c = TI ∨ c = TO ∨ c = i1 ∨ c = i2 ∨ c = i3 := by simpa using hcm
        rcases e' with q | q | q | q | q | q
        · rw [q]; exact hzl
        · rw [q]; exact Heap.lt_size hTI
        · rw [q]; exact Heap.lt_size hTO
        · rw [q]; obtain ⟨_, e, _⟩ := itB_obj q1; exact Heap.lt_size e
        · rw [q]; obtain ⟨_, e, _⟩ := itB_obj q2; exact Heap.lt_size e
        · rw [q]; obtain ⟨_, e, _⟩ := itB_obj q3; exact Heap.lt_size e
      rw [upd_ne (Nat.ne_of_lt hlt)]
      exact (hf c hcm).1
  done := by
    intro X hP hw hK hc i pins s σ H E I hf st hg
    subst hP hw hK
    obtain ⟨hz, hTI, ⟨y1, y2, y3, hTO⟩, q1, q2, q3⟩ := st
    obtain ⟨xs1, xs2, xs3, hq1, hq2, hq3, hend⟩ := hg
    obtain ⟨its1, rv1, p1, hl1⟩ := sqB_get I hq1
    have d1 := draws_B (prog := X.prog) (w := X.w) (A := X.A.in1) t1 (I.ok.hd hc) i1 a1 h1 its1.toArray
    have n1 : its1.toArray.size = xs1.length := by rw [List.size_toArray, ← rv1.length]
    obtain ⟨its2, rv2, p2, hl2⟩ := sqB_get I hq2
    have d2 := draws_B (prog := X.prog) (w := X.w) (A := X.A.in1) t2 (I.ok.hd hc) i2 a2 h2 its2.toArray
    have n2 : its2.toArray.size = xs2.length := by rw [List.size_toArray, ← rv2.length]
    obtain ⟨its3, rv3, p3, hl3⟩ := sqB_get I hq3
    have d3 := draws_B (prog := X.prog) (w := X.w) (A := X.A.in1) t3 (I.ok.hd hc) i3 a3 h3 its3.toArray
    have n3 : its3.toArray.size = xs3.length := by rw [List.size_toArray, ← rv3.length]
    exact wpAny_pyNext_zipD3_end D d1 d2 d3 hz hTI hTO ⟨q1, p1⟩ ⟨q2, p2⟩ ⟨q3, p3⟩ (by omega) (by omega) (by omega) (by omega) fun h' tk hk => ⟨rfl, I.turnedL (t' := tk) (ch := [z, TI, TO, i1, i2, i3]) (fun c o hb q =>
      hk c o (fun q' => hb (by simp [q'])) (fun q' => hb (by simp [q'])) (fun q' => hb (by simp [q'])) (fun q' => hb (by simp [q'])) (fun q' => hb (by simp [q'])) q) hf⟩
  self := fun A i s Q E st h => wpAny_pyIter_zip st.1 h
def iZipB3 (K : PySem.W.Frag) (ta : TA) : TI := fun σ H R => ta σ H fun vs H1 => ∃ (t1 t2 t3 : Bool) (a1 a2 a3 : Addr) (xs1 xs2 xs3 : List V), vs = [.ref a1, .ref a2, .ref a3] ∧ SqB K H1 t1 a1 xs1 ∧ SqB K H1 t2 a2 xs2 ∧ SqB K H1 t3 a3 xs3 ∧ R (ItzB3 K t1 a1 t2 a2 t3 a3) H1
theorem pi_zipB3 {X : Cx} {e1 e2 e3 : Expr} {ta : TA} {p pos tpos : Pos} {elts : List Expr} {kk : Nat} (hg : Gl X "zip") (hm : X.mg "zip" = none) (ha : PA X [e1, e2, e3] ta)
    (hs : starEach [e1, e2, e3] X.env = (false, eval e1 X.env) :: starEach [e2, e3] X.env) (hpl : (backTo pos (starEach [e2, e3] X.env)).any (·.1) = false) :
    PI X (.Tuple elts kk tpos) (.Call (.Name "zip" p) [e1, e2, e3] [] pos) (iZipB3 X.K ta) := by
  refine ⟨fun pins s σ H R I h => ?_⟩
  refine Call_ (ld_blt I hg hm PyProof.Rows.boot_zip (PyProof.Rows.callWith_type1 (thn (ha.run pos pins s σ H _ I h) fun us s1 ⟨vs, H1, I1, r1, q1⟩ => ?_) hs hpl))
  obtain ⟨t1, t2, t3, a1, a2, a3, xs1, xs2, xs3, ex, hq1, hq2, hq3, q⟩ := q1
  subst ex
  obtain ⟨v1, v2, v3, rfl, r1, r2, r3⟩ := vals3 r1
  cases r1
  cases r2
  cases r3
  obtain ⟨its1, rv1, p1, hl1⟩ := sqB_get I1 hq1
  obtain ⟨its2, rv2, p2, hl2⟩ := sqB_get I1 hq2
  obtain ⟨its3, rv3, p3, hl3⟩ := sqB_get I1 hq3
  have fresh : ∀ c, c ∈ [s1.heap.objs.size + 5, s1.heap.objs.size + 3, s1.heap.objs.size + 4, s1.heap.objs.size, s1.heap.objs.size + 1, s1.heap.objs.size + 2] → FpOk X pins H1 c := fun c hcm => by
    have e' : c = s1.heap.objs.size + 5 ∨ c = s1.heap.objs.size + 3 ∨ c = s1.heap.objs.size + 4 ∨ c = s1.heap.objs.size ∨ c = s1.heap.objs.size + 1 ∨ c = s1.heap.objs.size + 2 := by simpa using hcm
    have hle : s1.heap.objs.size ≤ c := by
      rcases e' with z | z | z | z | z | z
      · rw [z]; exact Nat.le_add_right _ _
      · rw [z]; exact Nat.le_add_right _ _
      · rw [z]; exact Nat.le_add_right _ _
      · rw [z]; exact Nat.le_refl _
      · rw [z]; exact Nat.le_add_right _ _
      · rw [z]; exact Nat.le_add_right _ _
    exact I1.fpOk hle (I1.hok.fresh hle)
  refine zip_begins3 (begins_B t1 a1 its1.toArray) (begins_B t2 a2 its2.toArray) (begins_B t3 a3 its3.toArray) p1 p2 p3 fun h' hz hTI hTO g1 g2 g3 hsz hk => wpAny_pyIter_zip hz ?_
  have I2 : Inv X pins σ H1 { s1 with heap := h' } := I1.kept (t' := s1.toks) hk
  exact ⟨s1.heap.objs.size + 5, [s1.heap.objs.size + 5, s1.heap.objs.size + 3, s1.heap.objs.size + 4, s1.heap.objs.size, s1.heap.objs.size + 1, s1.heap.objs.size + 2], _, _, H1, rfl, I2, turn_zipB3 (zip_sep3 (fun b hb => by rw [List.mem_singleton.mp hb]; exact hl1) (fun b hb => by rw [List.mem_singleton.mp hb]; exact hl2) (fun b hb => by rw [List.mem_singleton.mp hb]; exact hl3)) (Nat.ne_of_lt hl1) (Nat.ne_of_lt (Nat.lt_add_right 1 hl2)) (Nat.ne_of_lt (Nat.lt_add_right 2 hl3)), ⟨hz, hTI, ⟨_, _, _, hTO⟩, itB_of g1, itB_of g2, itB_of g3⟩, fresh, q⟩
/-! ### the evaluator's zip -/
section
variable {K : PySem.W.Frag} {H : Hp} {M : Pl} {S : Sto}
theorem seqG_rel {d : D} {v : V} {xs : List D} {g : List (Nat × List D)} (rs : RelS K H M S) (r : RelD K H M d v) (e : seqG S d = some (xs, g)) :
    ∃ (tp : Bool) (a : Addr), v = .ref a ∧ (∃ vs, SqB K H tp a vs) ∧ ∀ H2 M2 S2, ExtW H M H2 M2 → RelS K H2 M2 S2 → (∀ p ∈ g, S2[p.1]? = some (.lst p.2)) → ∃ vs, SqB K H2 tp a vs ∧ RelDs K H2 M2 xs vs := by
  unfold seqG at e
  cases e2 : rd S d with
  | tup ys =>
    rw [e2] at e
    cases e
    obtain ⟨a, rfl, h1, k⟩ := src_tup rs r e2
    exact ⟨true, a, rfl, h1, fun H2 M2 S2 x _ _ => k H2 M2 x⟩
  | lst ys =>
    rw [e2] at e
    cases e
    obtain ⟨a, rfl, h1, k⟩ := src_list rs r e2
    exact ⟨false, a, rfl, h1, fun H2 M2 S2 x rs2 g => k H2 M2 S2 x rs2 g⟩
  | _ => rw [e2] at e; cases e
theorem zipW_get {xs ys : List D} {i : Nat} {d : D} (h : (List.zipWith (fun x y => D.tup [x, y]) xs ys)[i]? = some d) : ∃ x y, xs[i]? = some x ∧ ys[i]? = some y ∧ d = .tup [x, y] := by
  rw [List.getElem?_zipWith] at h
  cases e : xs[i]? with
  | none => rw [e] at h; cases e2 : ys[i]? <;> rw [e2] at h <;> cases h
  | some x =>
    cases e2 : ys[i]? with
    | none => rw [e, e2] at h; cases h
    | some y => rw [e, e2] at h; exact ⟨x, y, rfl, rfl, (Option.some.inj h).symm⟩
theorem zip3_get : ∀ {xs ys zs : List D} {i : Nat} {d : D}, (zip3D xs ys zs)[i]? = some d → ∃ x y z, xs[i]? = some x ∧ ys[i]? = some y ∧ zs[i]? = some z ∧ d = .tup [x, y, z]
  | x :: xs, y :: ys, z :: zs, 0, d, h => ⟨x, y, z, rfl, rfl, rfl, (Option.some.inj h).symm⟩
  | x :: xs, y :: ys, z :: zs, i + 1, d, h => by
    obtain ⟨a, b, c, h1, h2, h3, h4⟩ := zip3_get (xs := xs) (ys := ys) (zs := zs) (i := i) (d := d) (by simpa [zip3D] using h)
    exact ⟨a, b, c, by simpa using h1, by simpa using h2, by simpa using h3, h4⟩
  | [], _, _, i, d, h => by simp [zip3D] at h
  | _ :: _, [], _, i, d, h => by simp [zip3D] at h
  | _ :: _, _ :: _, [], i, d, h => by simp [zip3D] at h
theorem zip3_len : ∀ (xs ys zs : List D), (zip3D xs ys zs).length = min xs.length (min ys.length zs.length)
  | x :: xs, y :: ys, z :: zs => by
    show (zip3D xs ys zs).length + 1 = _
    rw [zip3_len xs ys zs]
    simp only [List.length_cons]
    omega
  | [], _, _ => by simp [zip3D]
  | _ :: _, [], _ => by simp [zip3D]
  | _ :: _, _ :: _, [] => by simp [zip3D]
theorem iter_zip2 {t1 t2 : Bool} {a1 a2 : Addr} {xs ys : List D} {g g2 : List (Nat × List D)}
    (h : ∀ H2 M2 S2, ExtW H M H2 M2 → RelS K H2 M2 S2 → (∀ p ∈ g, S2[p.1]? = some (.lst p.2)) → ∃ vs, SqB K H2 t1 a1 vs ∧ RelDs K H2 M2 xs vs)
    (h2 : ∀ H2 M2 S2, ExtW H M H2 M2 → RelS K H2 M2 S2 → (∀ p ∈ g2, S2[p.1]? = some (.lst p.2)) → ∃ vs, SqB K H2 t2 a2 vs ∧ RelDs K H2 M2 ys vs) :
    IterOk K (ItzB2 K t1 a1 t2 a2) true ⟨List.zipWith (fun x y => D.tup [x, y]) xs ys, g ++ g2⟩ H M where
  go := fun H2 M2 S2 i d x rs st e => by
    obtain ⟨vs, hs, rr⟩ := h H2 M2 S2 x rs fun p hp => st p (List.mem_append_left _ hp)
    obtain ⟨us, hs2, rr2⟩ := h2 H2 M2 S2 x rs fun p hp => st p (List.mem_append_right _ hp)
    obtain ⟨p, q, hp, hq, rfl⟩ := zipW_get e
    obtain ⟨v, hv, rv⟩ := rr.get hp
    obtain ⟨u, hu, ru⟩ := rr2.get hq
    refine ⟨⟨vs, us, v, u, hs, hs2, hv, hu⟩, fun z H3 hz => ?_⟩
    obtain ⟨T, w1, w2, rfl, hT, rfl, k1, k2⟩ := hz
    have e1 := k1 vs hs
    rw [hv] at e1
    cases e1
    have e2 := k2 us hs2
    rw [hu] at e2
    cases e2
    exact pair_y rs hT (.cons rv (.cons ru .nil))
  stop := fun H2 M2 S2 x rs st => by
    obtain ⟨vs, hs, rr⟩ := h H2 M2 S2 x rs fun p hp => st p (List.mem_append_left _ hp)
    obtain ⟨us, hs2, rr2⟩ := h2 H2 M2 S2 x rs fun p hp => st p (List.mem_append_right _ hp)
    exact ⟨vs, us, hs, hs2, by show (List.zipWith _ xs ys).length = _; rw [List.length_zipWith, rr.length, rr2.length]⟩
theorem iter_zip3 {t1 t2 t3 : Bool} {a1 a2 a3 : Addr} {xs ys zs : List D} {g g2 g3 : List (Nat × List D)}
    (h : ∀ H2 M2 S2, ExtW H M H2 M2 → RelS K H2 M2 S2 → (∀ p ∈ g, S2[p.1]? = some (.lst p.2)) → ∃ vs, SqB K H2 t1 a1 vs ∧ RelDs K H2 M2 xs vs)
    (h2 : ∀ H2 M2 S2, ExtW H M H2 M2 → RelS K H2 M2 S2 → (∀ p ∈ g2, S2[p.1]? = some (.lst p.2)) → ∃ vs, SqB K H2 t2 a2 vs ∧ RelDs K H2 M2 ys vs)
    (h3 : ∀ H2 M2 S2, ExtW H M H2 M2 → RelS K H2 M2 S2 → (∀ p ∈ g3, S2[p.1]? = some (.lst p.2)) → ∃ vs, SqB K H2 t3 a3 vs ∧ RelDs K H2 M2 zs vs) :
    IterOk K (ItzB3 K t1 a1 t2 a2 t3 a3) true ⟨zip3D xs ys zs, g ++ (g2 ++ g3)⟩ H M where
  go := fun H2 M2 S2 i d x rs st e => by
    obtain ⟨vs, hs, rr⟩ := h H2 M2 S2 x rs fun p hp => st p (List.mem_append_left _ hp)
    obtain ⟨us, hs2, rr2⟩ := h2 H2 M2 S2 x rs fun p hp => st p (List.mem_append_right _ (List.mem_append_left _ hp))
    obtain ⟨ts, hs3, rr3⟩ := h3 H2 M2 S2 x rs fun p hp => st p (List.mem_append_right _ (List.mem_append_right _ hp))
    obtain ⟨p, q, r, hp, hq, hr, rfl⟩ := zip3_get e
    obtain ⟨v, hv, rv⟩ := rr.get hp
    obtain ⟨u, hu, ru⟩ := rr2.get hq
    obtain ⟨t, ht, rt⟩ := rr3.get hr
    refine ⟨⟨vs, us, ts, v, u, t, hs, hs2, hs3, hv, hu, ht⟩, fun z H3 hz => ?_⟩
    obtain ⟨T, w1, w2, w3, rfl, hT, rfl, k1, k2, k3⟩ := hz
    have e1 := k1 vs hs
    rw [hv] at e1
    cases e1
    have e2 := k2 us hs2
    rw [hu] at e2
    cases e2
    have e3 := k3 ts hs3
    rw [ht] at e3
    cases e3
    exact pair_y rs hT (.cons rv (.cons ru (.cons rt .nil)))
  stop := fun H2 M2 S2 x rs st => by
    obtain ⟨vs, hs, rr⟩ := h H2 M2 S2 x rs fun p hp => st p (List.mem_append_left _ hp)
    obtain ⟨us, hs2, rr2⟩ := h2 H2 M2 S2 x rs fun p hp => st p (List.mem_append_right _ (List.mem_append_left _ hp))
    obtain ⟨ts, hs3, rr3⟩ := h3 H2 M2 S2 x rs fun p hp => st p (List.mem_append_right _ (List.mem_append_right _ hp))
    exact ⟨vs, us, ts, hs, hs2, hs3, by show (zip3D xs ys zs).length = _; rw [zip3_len, rr.length, rr2.length, rr3.length]⟩
end
theorem di_zip2 {X : Cx} {e1 e2 : Expr} {v1 v2 : Ev → Sto → R D} {p pos tpos : Pos} {elts : List Expr} {kk : Nat} (hg : Gl X "zip") (hm : X.mg "zip" = none) (h1 : DE X e1 v1) (h2 : DE X e2 v2) (s1 : noStar e1 = true) (s2 : noStar e2 = true) :
    DI X (.Tuple elts kk tpos) (.Call (.Name "zip" p) [e1, e2] [] pos) true (fun e S => (v1 e S).bind fun x S1 => (v2 e S1).bind fun y S2 => R.opt S2 (srcZip S2 x y)) := by
  intro W tk
  obtain ⟨t, pa, q⟩ := (da_cons (starEach_cons (es := [e2]) s1) h1 (da_cons (starEach_cons (es := []) s2) h2 da_nil)) W tk
  refine ⟨fun pins s σ H R' I ⟨M, env, S, re, rs, h⟩ => (pi_zipB2 hg hm pa (starEach_cons (es := [e2]) s1) (starEach_plain (by rw [List.all_cons, s2]; rfl))).run pins s σ H R' I ?_⟩
  refine q σ H M env S _ re rs ?_
  dsimp only at h ⊢
  cases f1 : v1 env S with
  | bad => rw [f1] at h; exact h.elim
  | exc z S' => rw [f1] at h; exact h
  | ok d S1 =>
    rw [f1] at h
    simp only [R.bind_ok] at h ⊢
    cases f2 : v2 env S1 with
    | bad => rw [f2] at h; exact h.elim
    | exc z S' => rw [f2] at h; exact h
    | ok d2 S2 =>
      rw [f2] at h
      simp only [R.bind_ok] at h ⊢
      intro xs H1 M1 x1 rs1 rx
      obtain ⟨u, u2, rfl, ru, ru2⟩ := rx.two
      unfold srcZip at h
      cases g1 : seqG S2 d with
      | none => rw [g1] at h; exact h.elim
      | some p1 =>
        obtain ⟨ys, gg⟩ := p1
        cases g2 : seqG S2 d2 with
        | none => rw [g1, g2] at h; exact h.elim
        | some p2 =>
          obtain ⟨zs, gg2⟩ := p2
          rw [g1, g2] at h
          obtain ⟨t1, a1, rfl, ⟨vs, hs⟩, k⟩ := seqG_rel rs1 ru g1
          obtain ⟨t2, a2, rfl, ⟨us, hs2⟩, k2⟩ := seqG_rel rs1 ru2 g2
          exact ⟨t1, t2, a1, a2, vs, us, rfl, hs, hs2, h _ H1 M1 x1 rs1 (iter_zip2 k k2)⟩
theorem di_zip3 {X : Cx} {e1 e2 e3 : Expr} {v1 v2 v3 : Ev → Sto → R D} {p pos tpos : Pos} {elts : List Expr} {kk : Nat} (hg : Gl X "zip") (hm : X.mg "zip" = none) (h1 : DE X e1 v1) (h2 : DE X e2 v2) (h3 : DE X e3 v3) (s1 : noStar e1 = true) (s2 : noStar e2 = true) (s3 : noStar e3 = true) :
    DI X (.Tuple elts kk tpos) (.Call (.Name "zip" p) [e1, e2, e3] [] pos) true (fun e S => (v1 e S).bind fun x S1 => (v2 e S1).bind fun y S2 => (v3 e S2).bind fun z S3 => R.opt S3 (srcZip3 S3 x y z)) := by
  intro W tk
  obtain ⟨t, pa, q⟩ := (da_cons (starEach_cons (es := [e2, e3]) s1) h1 (da_cons (starEach_cons (es := [e3]) s2) h2 (da_cons (starEach_cons (es := []) s3) h3 da_nil))) W tk
  refine ⟨fun pins s σ H R' I ⟨M, env, S, re, rs, h⟩ => (pi_zipB3 hg hm pa (starEach_cons (es := [e2, e3]) s1) (starEach_plain (by rw [List.all_cons, List.all_cons, s2, s3]; rfl))).run pins s σ H R' I ?_⟩
  refine q σ H M env S _ re rs ?_
  dsimp only at h ⊢
  cases f1 : v1 env S with
  | bad => rw [f1] at h; exact h.elim
  | exc z S' => rw [f1] at h; exact h
  | ok d S1 =>
    rw [f1] at h
    simp only [R.bind_ok] at h ⊢
    cases f2 : v2 env S1 with
    | bad => rw [f2] at h; exact h.elim
    | exc z S' => rw [f2] at h; exact h
    | ok d2 S2 =>
      rw [f2] at h
      simp only [R.bind_ok] at h ⊢
      cases f3 : v3 env S2 with
      | bad => rw [f3] at h; exact h.elim
      | exc z S' => rw [f3] at h; exact h
      | ok d3 S3 =>
        rw [f3] at h
        simp only [R.bind_ok] at h ⊢
        intro xs H1 M1 x1 rs1 rx
        obtain ⟨u, u2, u3, rfl, ru, ru2, ru3⟩ := rx.three
        unfold srcZip3 at h
        cases g1 : seqG S3 d with
        | none => rw [g1] at h; exact h.elim
        | some p1 =>
          obtain ⟨ys, gg⟩ := p1
          cases g2 : seqG S3 d2 with
          | none => rw [g1, g2] at h; exact h.elim
          | some p2 =>
            obtain ⟨zs, gg2⟩ := p2
            cases g3 : seqG S3 d3 with
            | none => rw [g1, g2, g3] at h; exact h.elim
            | some p3 =>
              obtain ⟨ts, gg3⟩ := p3
              rw [g1, g2, g3] at h
              obtain ⟨t1, a1, rfl, ⟨vs, hs⟩, k⟩ := seqG_rel rs1 ru g1
              obtain ⟨t2, a2, rfl, ⟨us, hs2⟩, k2⟩ := seqG_rel rs1 ru2 g2
              obtain ⟨t3, a3, rfl, ⟨ws, hs3⟩, k3⟩ := seqG_rel rs1 ru3 g3
              exact ⟨t1, t2, t3, a1, a2, a3, vs, us, ws, rfl, hs, hs2, hs3, h _ H1 M1 x1 rs1 (iter_zip3 k k2 k3)⟩
end Pw

set_option Elab.async false
set_option linter.all false
set_option maxRecDepth 100000
set_option maxHeartbeats 1000000
namespace Pw
open PySem PySem.Spec PyProof.Rows L2
section
variable {X : Cx} {a b c : Expr} {pos : Pos} {va vb vc : Ev → Sto → R D}
/-! ## what is not reached -/
theorem de_bad {e : Expr} : DE X e (fun _ _ => .bad) := fun W tk => ⟨fun _ _ _ => False, ⟨fun pins s σ H Q I h => h.elim⟩, fun σ H M env S Q re rs h => h.elim⟩
/-! ## isinstance(x, (A, B)) -/
theorem tyIs_ty {H : Hp} {M : Pl} {S : Sto} {d : D} {x : V} {t : Ty} {k : Bool} (rs : RelS X.K H M S) (r : RelD X.K H M d x) (h : tyIs S d t = some k) : ∃ T, TyX X.K H x (.type T) ∧ T = tyOfD (rd S d) ∧ kitB T (tyName t) = some k := by
  have qx := rd_rel rs r
  have hd : ∀ l, rd S d ≠ .ref l := fun l e => by unfold tyIs at h; rw [e] at h; cases h
  have e : tyIs [] (rd S d) t = some k := by
    unfold tyIs at h ⊢
    cases e : rd S d with
    | ref l => exact absurd e (hd l)
    | _ => rw [e] at h; exact h
  exact ⟨_, tyx qx hd, rfl, kit_all _ t k e hd⟩
theorem tyIs_kit {S : Sto} {d : D} {t : Ty} {k : Bool} (h : tyIs S d t = some k) : kitB (tyOfD (rd S d)) (tyName t) = some k := by
  have hd : ∀ l, rd S d ≠ .ref l := fun l e => by unfold tyIs at h; rw [e] at h; cases h
  have e : tyIs [] (rd S d) t = some k := by
    unfold tyIs at h ⊢
    cases e : rd S d with
    | ref l => exact absurd e (hd l)
    | _ => rw [e] at h; exact h
  exact kit_all _ t k e hd
theorem de_isi2 {t u : Ty} {x y : Str} {p p2 p3 tp : Pos} {n : Nat} (ha : DE X a va) (hsa : noStar a = true) (hg : Gl X "isinstance") (hm : X.mg "isinstance" = none) (hgT : Gl X x) (hmT : X.mg x = none) (hx : x = Str.ofString (tyName t))
    (hgU : Gl X y) (hmU : X.mg y = none) (hy : y = Str.ofString (tyName u)) :
    DE X (.Call (.Name "isinstance" p) [a, .Tuple [.Name x p2, .Name y p3] n tp] [] pos) (fun e S => (va e S).bind fun d S1 => R.opt S1 ((tyIs2 S1 d t u).map .bl)) := by
  intro W tk
  obtain ⟨ta, pa, qa⟩ := ha W tk
  have pT : PE X (.Name x p2) (tC (.ty (tyName t))) := pe_ty hgT hmT (by rw [hx]; exact boot_ty t) (by rw [hx]; cases t <;> decide) (by rw [hx]; cases t <;> decide)
  have pU : PE X (.Name y p3) (tC (.ty (tyName u))) := pe_ty hgU hmU (by rw [hy]; exact boot_ty u) (by rw [hy]; cases u <;> decide) (by rw [hy]; cases u <;> decide)
  have pTU := pe_tup (pos := tp) (x1 := n) (pa_cons pT (pa_cons pU pa_nil (starEach_cons rfl)) (starEach_cons (es := [.Name y p3]) rfl))
  have pA := pa_cons pa (pa_cons pTU pa_nil (starEach_cons rfl)) (starEach_cons (es := [.Tuple [.Name x p2, .Name y p3] n tp]) hsa)
  refine ⟨_, pe_callB call_isiT hg hm PyProof.Rows.boot_isinstance pA (by decide) (by decide) (starEach_cons hsa) (starEach_plain rfl), fun σ H M env S Q re rs h => ?_⟩
  refine qa σ H M env S _ re rs (WPE.bind h fun dx S1 v H1 M1 x1 rs1 rx h1 => ?_)
  unfold tyIs2 at h1
  cases e : tyIs S1 dx t with
  | none => rw [e] at h1; exact h1.elim
  | some b1 =>
    cases e2 : tyIs S1 dx u with
    | none => rw [e, e2] at h1; exact h1.elim
    | some b2 =>
      rw [e, e2] at h1
      refine ⟨by show 2 ≤ sizeLine; rw [sizeLine_eq]; omega, fun q hq => ?_⟩
      obtain ⟨T, ty, hT, k1⟩ := tyIs_ty (rs1.new hq) (rx.mono (Ext.new hq)) e
      have k2 := tyIs_kit e2
      refine ⟨v, q, [.ty (tyName t), .ty (tyName u)], .type T, [.type (tyName t), .type (tyName u)], b1 || b2, rfl, upd_same, .cons (.ty _) (.cons (.ty _) .nil), ty, ?_, h1 (.bl _) _ M1 (Ext.new hq) (rs1.new hq) (.bl _)⟩
      rw [← hT] at k2
      refine kitAny_cons (kit_ty k1) (fun e1 => ?_) (fun e1 => by rw [e1]; rfl)
      refine kitAny_cons (kit_ty k2) (fun e3 => ?_) (fun e3 => by rw [e1, e3]; rfl)
      rw [e1, e3]
      rfl
/-! ## constants of the module -/
def ConstG (X : Cx) (x : Str) (d : D) : Prop := match d with
  | .int i => ∃ t, X.mg x = some (.int i t)
  | .str z => ∃ t, X.mg x = some (.str z t)
  | _ => False
theorem de_glob {x : Str} {d : D} {p : Pos} (hg : Gl X x) (h : ConstG X x d) (hd : (x == ("__debug__" : Str)) = false) : DE X (.Name x p) (fun _ S => .ok d S) := by
  cases d with
  | int i =>
    obtain ⟨t, ht⟩ := h
    exact de_k (pe_glob (v := .int i) hg ht ⟨t, rfl⟩ hd) fun _ _ => .int i
  | str z =>
    obtain ⟨t, ht⟩ := h
    exact de_k (pe_glob (v := .str z) hg ht ⟨t, rfl⟩ hd) fun _ _ => .str z
  | _ => exact h.elim
/-! ## dict(d) -/
theorem WPE.mkD {mg : Str → Option Value} {K : PySem.W.Frag} {H : Hp} {M : Pl} {S : Sto} {Q : VK} {E : XK} {bx : Bool} {ks xs : List D} (rs : RelS K H M S) (h : WPE K mg H M (mkD bx ks xs S) Q E) :
    ∀ (kvs : List (Key × V)) p, ks = (kvs.map (·.1)).map kD → RelDs K H M xs (kvs.map (·.2)) → H p = none → Q (.ref p) (upd H p (.dK kvs)) := by
  intro kvs p e r hp
  unfold Pw.mkD at h
  cases bx with
  | false =>
    have np : p ∉ M.m := fun z => by obtain ⟨u, e, _⟩ := rs.tracked z; rw [hp] at e; cases e
    have nr : p ∉ M.r := fun z => by obtain ⟨_, u, e⟩ := rs.apart p z; rw [hp] at e; cases e
    exact h (.ref p) _ M (Ext.new hp) (rs.new hp) (.dctK upd_same np nr e (r.mono (Ext.new hp)))
  | true =>
    refine h (.ref p) _ ⟨M.m ++ [p], M.r⟩ (Ext.newB hp) (rs.newB hp ⟨kvs, rfl, e, r⟩) (.ref ?_)
    show (M.m ++ [p])[S.length]? = some p
    rw [← rs.len, List.getElem?_append_right (Nat.le_refl _)]
    simp
theorem dict_tells {bx : Bool} : Tells X (prim .dict bx) (fun xs H Q => ∃ (a : Addr) (kvs : List (Key × V)), xs = [.ref a] ∧ Rd H a (.dK kvs) ∧ ∀ p, H p = none → Q (.ref p) (upd H p (.dK kvs))) := by
  intro H M S xs ds Q E rs rv h
  match ds, rv, h with
  | [], _, h => exact h.elim
  | [d], rv, h =>
    obtain ⟨v, rfl, r⟩ := rv.one
    have q := rd_rel rs r
    replace h : WPE X.K X.mg H M (pDict bx S d) Q E := h
    unfold pDict at h
    cases e : rd S d with
    | dct ks us =>
      rw [e] at h q
      obtain ⟨a, kvs, rfl, ha, hk, rr⟩ := q.dct_
      simp only at h
      split at h
      · exact ⟨a, kvs, rfl, .inl ha, fun p hp => h.mkD rs kvs p hk rr hp⟩
      · exact h.elim
    | _ => rw [e] at h; exact h.elim
  | [_, _], _, h => exact h.elim
  | [_, _, _], _, h => exact h.elim
  | _ :: _ :: _ :: _ :: _, _, h => exact h.elim
/-! ## extend -/
theorem extend_tells {bx : Bool} : TellsM X "extend" Pr.extend.kindOk (fun d ds => prim .extend bx (d :: ds)) := by
  intro H M S d x rs r hk
  refine ⟨"list", "list.extend", rExtend, ⟨PySem.F.plainAttrs_list, PySem.F.slot_list_extend, PySem.F.type_list_extend, mt_extend⟩, tyL rs r (by simpa [Pr.kindOk] using hk), ?_⟩
  intro H2 M2 S2 xs ds Q E rs2 r2 rv _ h
  match ds, rv, h with
  | [], _, h => exact h.elim
  | [y], rv, h =>
    obtain ⟨u, rfl, ry⟩ := rv.one
    replace h : WPE X.K X.mg H2 M2 (dExtend d y S2) Q E := h
    cases d with
    | ref l =>
      unfold dExtend at h
      simp only at h
      cases y with
      | ref l2 =>
        simp only at h
        cases e : S2[l]? with
        | none => rw [e] at h; exact h.elim
        | some m =>
          rw [e] at h
          cases m with
          | dct _ _ => exact h.elim
          | lst zs =>
            simp only at h
            cases e2 : S2[l2]? with
            | none => rw [e2] at h; exact h.elim
            | some m2 =>
              rw [e2] at h
              cases m2 with
              | dct _ _ => exact h.elim
              | lst ys =>
                simp only at h
                split at h
                · rename_i hz
                  obtain ⟨a, vs, rfl, hm, ha, rr⟩ := refL rs2 r2 e
                  obtain ⟨b, us, rfl, hm2, hb, rr2⟩ := refL rs2 ry e2
                  have hx : Ext H2 M2 (upd H2 a (.lst (vs ++ us))) M2 := Ext.write rs2 hm
                  exact ⟨a, b, vs, us, rfl, rfl, ha, hb, by rw [← rr.length, ← rr2.length]; exact hz, h .non _ _ hx (rs2.write hm ⟨_, rfl, rr.append rr2⟩) .non⟩
                · exact h.elim
      | _ => exact h.elim
    | _ => exact h.elim
  | [_, _], _, h => exact h.elim
  | _ :: _ :: _ :: _, _, h => exact h.elim
end
end Pw

set_option Elab.async false
set_option linter.all false
set_option maxRecDepth 100000
set_option maxHeartbeats 1000000
namespace Pw
open PySem PySem.Spec PyProof.Rows L2
/-! # dict comprehensions -/
section
variable {K : PySem.W.Frag} {mg : Str → Option Value} {H H1 H5 : Hp} {M M1 M5 : Pl} {S S5 : Sto} {Dd : Addr}
theorem ExtW.rewriteK {p : Addr} {kvs : List (Key × V)} {o : HO} (h : H p = some (.dK kvs)) (hp : p ∈ M.r) : ExtW H M (upd H p o) M :=
  ⟨⟨[], by simp⟩, fun a ha => ha, fun a ha => .inl ha, fun a u n n2 e => ⟨by rw [upd_ne (show a ≠ p from fun z => n2 (by rw [z]; exact hp))]; exact e, n⟩,
    fun a ys e => by rw [upd_ne (fun z => by subst z; rw [h] at e; cases e)]; exact e, fun a x u e => by rw [upd_ne (fun z => by subst z; rw [h] at e; cases e)]; exact e, fun a u e => by
      by_cases z : a = p
      · subst z; exact ⟨o, upd_same⟩
      · exact ⟨u, by rw [upd_ne z]; exact e⟩⟩
theorem RelS.rewriteK {p : Addr} {kvs : List (Key × V)} {o : HO} (r : RelS K H M S) (h : H p = some (.dK kvs)) (hp : p ∈ M.r) : RelS K (upd H p o) M S := by
  have x : ExtW H M (upd H p o) M := ExtW.rewriteK h hp
  refine ⟨r.len, r.nd, fun a ha => ⟨(r.apart a ha).1, ?_⟩, fun l a m h1 h2 => ?_⟩
  · obtain ⟨u, e⟩ := (r.apart a ha).2
    exact x.dom a u e
  · obtain ⟨u, hu, q⟩ := r.at_ l a m h1 h2
    exact ⟨u, by rw [upd_ne (show a ≠ p from fun z => (r.apart p hp).1 (by rw [← z]; exact List.mem_of_getElem? h1))]; exact hu, q.monoW x⟩
theorem ext_stepK {o : HO} {acc : List (Key × V)} (x : Ext H1 M1 H ⟨M.m, M1.r⟩) (hr : M.r = Dd :: M1.r) (hD : H1 Dd = none) (y : Ext H M H5 M5) (h5 : H5 Dd = some (.dK acc)) : Ext H1 M1 (upd H5 Dd o) ⟨M5.m, M1.r⟩ := by
  obtain ⟨T, e⟩ := x.pre
  obtain ⟨T', e'⟩ := y.pre
  refine ⟨⟨T ++ T', by show M5.m = _; rw [e', show M.m = M1.m ++ T from e, List.append_assoc]⟩, rfl, fun a u n h => ?_, fun a xs h => ?_, fun a u w h => ?_⟩
  · obtain ⟨h2, n2⟩ := x.keep a u n h
    obtain ⟨h3, n3⟩ := y.keep a u n2 h2
    exact ⟨by rw [upd_ne (ne_of_none h hD)]; exact h3, n3⟩
  · have h3 := y.tups _ _ (x.tups _ _ h)
    rw [upd_ne (show a ≠ Dd from fun z => by subst z; rw [h5] at h3; cases h3)]; exact h3
  · have h3 := y.frzs _ _ _ (x.frzs _ _ _ h)
    rw [upd_ne (show a ≠ Dd from fun z => by subst z; rw [h5] at h3; cases h3)]; exact h3
theorem relD_keyK {d : D} {k : Key} {v : V} (h : dkey d = some k) (r : RelD K H M d v) : v = kV k := by
  have := dkey_kD h
  subst this
  cases k with
  | inl i => exact r.int_
  | inr x => exact r.str_
/-- what was reserved becomes a dict of the store -/
theorem RelS.takeK {ks vs : List D} {acc : List (Key × V)} {rr : List Addr} (rs : RelS K H M S) (hr : M.r = Dd :: rr) (nr : Dd ∉ rr) (h : H Dd = some (.dK acc)) (hk : ks = (acc.map (·.1)).map kD) (ra : RelDs K H M vs (acc.map (·.2))) : RelS K H ⟨M.m ++ [Dd], rr⟩ (S ++ [.dct ks vs]) := by
  have hn : Dd ∉ M.m := (rs.apart Dd (by rw [hr]; exact List.mem_cons_self ..)).1
  have p : ∃ T, M.m ++ [Dd] = M.m ++ T := ⟨_, rfl⟩
  have x : ∀ a ∈ M.m ++ [Dd], a ∈ M.m ∨ a ∈ M.r := fun a ha => by
    rcases List.mem_append.mp ha with z | z
    · exact .inl z
    · rw [List.mem_singleton.mp z, hr]; exact .inr (List.mem_cons_self ..)
  have y : ∀ a ∈ rr, a ∈ M.r := fun a ha => by rw [hr]; exact List.mem_cons_of_mem _ ha
  refine ⟨by simp [rs.len], ?_, fun a ha => ⟨fun z => ?_, (rs.apart a (y a ha)).2⟩, fun l a m h1 h2 => ?_⟩
  · rw [List.nodup_append]
    exact ⟨rs.nd, by simp, fun a ha b hb => by simp at hb; subst hb; exact fun e => hn (e ▸ ha)⟩
  · rcases List.mem_append.mp z with z | z
    · exact (rs.apart a (y a ha)).1 z
    · rw [List.mem_singleton.mp z] at ha; exact nr ha
  · have mv : ∀ {m : MO} {o : HO}, RelM K H M m o → RelM K H ⟨M.m ++ [Dd], rr⟩ m o := by
      intro m o q
      cases m with
      | lst xs => obtain ⟨vs, e, q⟩ := q; exact ⟨vs, e, q.mv p x y⟩
      | dct ks ds => obtain ⟨kvs, e, e2, q⟩ := q; exact ⟨kvs, e, e2, q.mv p x y⟩
    rcases Nat.lt_trichotomy l M.m.length with hl | hl | hl
    · rw [List.getElem?_append_left hl] at h1
      rw [List.getElem?_append_left (by rw [← rs.len]; exact hl)] at h2
      obtain ⟨u, hu, z⟩ := rs.at_ l a m h1 h2
      exact ⟨u, hu, mv z⟩
    · subst hl
      rw [List.getElem?_append_right (Nat.le_refl _)] at h1
      rw [List.getElem?_append_right (by rw [rs.len]; exact Nat.le_refl _), rs.len] at h2
      simp at h1 h2
      subst h1 h2
      exact ⟨.dK acc, h, acc, rfl, hk, ra.mv p x y⟩
    · rw [List.getElem?_eq_none (by simp; omega)] at h1; cases h1
/-- the new dict, at the end -/
theorem mkDAt {bx : Bool} {ks vs : List D} {acc : List (Key × V)} {Q : VK} {E : XK} (ob : WPE K mg H1 M1 (mkD bx ks vs S) Q E) (rs1 : RelS K H1 M1 S5) (x : Ext H1 M1 H ⟨M.m, M1.r⟩) (hr : M.r = Dd :: M1.r) (hD : H1 Dd = none) (h : H Dd = some (.dK acc)) (rs : RelS K H M S)
    (hk : ks = (acc.map (·.1)).map kD) (ra : RelDs K H M vs (acc.map (·.2))) : Q (.ref Dd) H := by
  have hn : Dd ∉ M.m := (rs.apart Dd (by rw [hr]; exact List.mem_cons_self ..)).1
  have sub : ∀ a ∈ M1.r, a ∈ M.r := fun a ha => by rw [hr]; exact List.mem_cons_of_mem _ ha
  have nr : Dd ∉ M1.r := fun z => by obtain ⟨_, u, e⟩ := rs1.apart Dd z; rw [hD] at e; cases e
  unfold mkD at ob
  split at ob
  · refine ob (.ref Dd) H ⟨M.m ++ [Dd], M1.r⟩ ?_ (rs.takeK hr nr h hk ra) (.ref ?_)
    · obtain ⟨T, e⟩ := x.pre
      refine ⟨⟨T ++ [Dd], by show M.m ++ [Dd] = _; rw [show M.m = M1.m ++ T from e, List.append_assoc]⟩, rfl, fun a u n h1 => ?_, x.tups, x.frzs⟩
      obtain ⟨h2, n2⟩ := x.keep a u n h1
      refine ⟨h2, fun z => ?_⟩
      rcases List.mem_append.mp z with z | z
      · exact n2 z
      · rw [List.mem_singleton.mp z, hD] at h1; cases h1
    · show (M.m ++ [Dd])[S.length]? = some Dd
      rw [List.getElem?_append_right (by rw [rs.len]; exact Nat.le_refl _), rs.len]
      simp
  · exact ob (.ref Dd) H ⟨M.m, M1.r⟩ x (rs.unres sub) (.dctK h hn nr hk (ra.unres sub))
end
section
variable {K : PySem.W.Frag} {mg : Str → Option Value}
theorem dc_ok {b bx : Bool} {vI : Ev → Sto → R Src} {tg : Tg} {own : List Nat} {ke ve : Ev → Sto → R D} {W : WX} {σ : L2.St} {H : Hp} {M : Pl} {env : Ev} {S : Sto} {Q : VK} (hsl : ∀ j ∈ tg.slots, j ∈ own)
    (re : RelE K H M env σ) (rs : RelS K H M S)
    (h : WPE K mg H M ((vI env S).bind fun src S1 => (dcompLoop tg own src env ke ve src.xs ([], []) S1).bind fun q S2 => mkD bx q.1 q.2 S2) Q (fun c d H' => W c d σ H')) :
    tDc (tI K mg b vI W) (gT K tg b) (tT K mg (fun _ S => .ok true S) W0) (tE K mg ke W0) (tE K mg ve W0) own σ H Q := by
  refine ⟨M, env, S, re, rs, ?_⟩
  cases e1 : vI env S with
  | bad => rw [e1] at h; exact h.elim
  | exc z S' => rw [e1] at h; exact h
  | ok src S1 =>
    rw [e1] at h
    intro J H1 M1 x1 rs1 it Dd hD
    replace h := WPE.ext x1 h
    simp only [R.bind_ok] at h
    refine ⟨fun i m H => ∃ M S ks vs acc, M.r = Dd :: M1.r ∧ H Dd = some (.dK acc) ∧ RelS K H M S ∧ ks = (acc.map (·.1)).map kD ∧ RelDs K H M vs (acc.map (·.2)) ∧ Ext H1 M1 H ⟨M.m, M1.r⟩ ∧ m = src.xs.length - i ∧ i ≤ src.xs.length ∧
      WPE K mg H1 M1 ((dcompLoop tg own src env ke ve (src.xs.drop i) (ks, vs) S).bind fun q S2 => mkD bx q.1 q.2 S2) Q (fun c d H' => W c d σ H'), ⟨src.xs.length, ⟨M1.m, Dd :: M1.r⟩, S1, [], [], [], rfl, upd_same, rs1.reserve hD, rfl, .nil, Ext.new hD, rfl, Nat.zero_le _, h⟩, ?_⟩
    rintro i m H ⟨M, S, ks, vs, acc, hr, hA, rs, hks, ra, x, rfl, hi, ob⟩
    have xw : ExtW H1 M1 H M := ext_in x hr hD rs
    have hDn : Dd ∉ M.m := (rs.apart Dd (by rw [hr]; exact List.mem_cons_self ..)).1
    by_cases hlt : i < src.xs.length
    · rw [List.drop_eq_getElem_cons hlt] at ob
      unfold dcompLoop at ob
      split at ob
      rotate_left
      · exact ob.elim
      · rename_i hst
        cases e2 : Tg.put tg src.xs[i] S (wipeE env own) with
        | none => rw [e2] at ob; exact ob.elim
        | some en1 =>
          rw [e2] at ob
          dsimp only at ob
          obtain ⟨go, yd⟩ := it.go H M S i src.xs[i] xw rs hst (List.getElem?_eq_getElem hlt)
          refine .inr ⟨go, _, fun H' hw => ⟨src.xs.length - (i + 1), by omega, hw⟩, fun y H3 hy => ?_⟩
          obtain ⟨x3, rs3, ry⟩ := yd y H3 hy
          have re3 : RelE K H3 M (wipeE env own) (L2.wipe σ own) := RelE.mono x3 (((re.mono x1).monoW xw).wipe own)
          refine ⟨M, wipeE env own, S, src.xs[i], en1, re3, rs3, ry, e2, fun σ2 re2 hj => ⟨wipe_same (by rw [re2.1, ← wipe_length σ own, re3.1]; exact (put_length e2)) hj hsl, ?_⟩⟩
          refine ⟨M, en1, S, re2, rs3, ?_⟩
          intro H4 M4 x4 rs4
          have x34 := x3.trans x4
          simp only [if_true]
          refine ⟨M4, en1, S, re2.mono x4, rs4, ?_⟩
          cases e4 : ke en1 S with
          | bad => rw [e4] at ob; exact ob.elim
          | exc z S' => rw [e4] at ob; exact ob.elim
          | ok kd S3 =>
            rw [e4] at ob
            intro vk H5 M5 x5 rs5 rk
            have x35 := x34.trans x5
            simp only [R.nox_ok, R.bind_ok] at ob
            refine ⟨M5, en1, S3, (re2.mono x4).mono x5, rs5, ?_⟩
            cases e5 : ve en1 S3 with
            | bad => rw [e5] at ob; exact ob.elim
            | exc z S' => rw [e5] at ob; exact ob.elim
            | ok vd S4 =>
              rw [e5] at ob
              intro vv H6 M6 x6 rs6 rv
              have x36 := x35.trans x6
              simp only [R.nox_ok, R.bind_ok] at ob
              split at ob
              rotate_left
              · exact ob.elim
              · rename_i hz
                rw [Bool.and_eq_true] at hz
                obtain ⟨kk, hk⟩ := keyFits_key hz.1
                have hl : acc.length < sizeLine := by
                  have := of_decide_eq_true hz.2
                  rw [hks, List.length_map, List.length_map] at this
                  exact this
                have hA6 := (x36.keep _ _ hDn hA).1
                have ra6 := ra.mono x36
                have hr6 : M6.r = Dd :: M1.r := x36.res.trans hr
                have hDr : Dd ∈ M6.r := by rw [hr6]; exact List.mem_cons_self ..
                obtain ⟨p1, p2⟩ := putK_ok hk rv ra6
                have xr : ExtW H6 M6 (upd H6 Dd (.dK (putK acc kk vv))) M6 := ExtW.rewriteK hA6 hDr
                rw [← hks] at p1 p2
                refine ⟨acc, kk, relD_keyK hk rk, hA6, hl, M6, S4, _, _, putK acc kk vv, hr6, upd_same, rs6.rewriteK hA6 hDr, p1, p2.monoW xr, ext_stepK x hr hD x36 hA6, (by first | rfl | trivial), hlt, ob⟩
    · have hi' : i = src.xs.length := by omega
      subst hi'
      rw [List.drop_length] at ob
      unfold dcompLoop at ob
      split at ob
      · rename_i hst
        exact .inl ⟨it.stop H M S xw rs hst, mkDAt ob rs1 x hr hD hA rs hks ra⟩
      · exact ob.elim
end
section
variable {X : Cx} {pos : Pos}
theorem de_dcomp {kx vx tg iter : Expr} {scope : Scope} {own : List (Str × Nat)} {b bx : Bool} {tgI : Tg} {vI : Ev → Sto → R Src} {ke ve : Ev → Sto → R D}
    (hc : X.calm = true) (hN : X.N.Nodup) (hi : DI X tg iter b vI) (ok : BlkOk X.N X.env.scope scope own)
    (hg : ∀ (s : Shared) (H : Hp) (C : Addr) (cl : List (Str × Addr)) (fp : List Addr), PG (X.blk s H scope (compEnvC scope cl C X.env) fp) tg (gT X.K tgI b))
    (hk : ∀ (s : Shared) (H : Hp) (C : Addr) (cl : List (Str × Addr)) (fp : List Addr), PE (X.blk s H scope (compEnvC scope cl C X.env) fp) kx (tE X.K X.mg ke W0))
    (he : ∀ (s : Shared) (H : Hp) (C : Addr) (cl : List (Str × Addr)) (fp : List Addr), PE (X.blk s H scope (compEnvC scope cl C X.env) fp) vx (tE X.K X.mg ve W0)) (hsl : ∀ j ∈ tgI.slots, j ∈ own.map (·.2)) (hs : notSet iter = true) :
    DE X (.DictComp kx vx [⟨tg, iter, [], 0⟩] scope pos) (fun e S => (vI e S).bind fun src S1 => (dcompLoop tgI (own.map (·.2)) src e ke ve src.xs ([], []) S1).bind fun q S2 => mkD bx q.1 q.2 S2) := by
  intro W tk
  exact ⟨_, pe_dc hc hN (hi W tk) ok hg (fun s H C cl fp => pts_of (.inl ⟨rfl, rfl⟩)) hk he (fold_id hs), fun σ H M env S Q re rs h => dc_ok hsl re rs h⟩
end
end Pw

set_option Elab.async false
set_option linter.all false
set_option maxRecDepth 100000
set_option maxHeartbeats 1000000
namespace Pw
open PySem PySem.Spec PyProof.Rows L2
/-! # repr -/
section
variable {X : Cx}
def rRepr (K : PySem.W.Frag) : List V → Hp → VK → Prop := fun xs H Q => ∃ v p, xs = [v] ∧ Dp K H v p ∧ p.showable = true ∧ p.hasDict = false ∧ p.shown.length + 64 ≤ sizeLine ∧ p.depth ≤ 60 ∧ Q (.str p.shown) H
theorem cr_repr (hgd : X.A.guards = some []) (hu : X.A.units + 70 < cLine) : CallR X (.builtin "repr") (rRepr X.K) := by
  intro pins s σ H xs us Q I r h
  obtain ⟨v, p, rfl, hp, hs, hd, hz, hdp, q⟩ := h
  obtain ⟨u, rfl, ru⟩ := r.one
  obtain ⟨as, rr⟩ := Dp.reads I _ _ _ hp ru
  have fin : ∀ (h' : Heap) (u : Tok) (tk : Nat), (∀ b o, s.heap.get? b = some o → h'.get? b = some o) → EP X pins σ Q (.str p.shown u) { s with heap := h', toks := tk } := fun h' u tk hk => ⟨.str p.shown, H, I.kept hk, ⟨u, rfl⟩, q⟩
  cases p with
  | none =>
    cases rr
    exact PySem.P.repr_of_none (fin s.heap _ _ fun _ _ e => e)
  | bool b =>
    cases rr
    exact PySem.P.repr_of_bool (fin s.heap _ _ fun _ _ e => e)
  | int i =>
    cases rr
    exact PySem.P.repr_of_int (of_decide_eq_true hs) (fin s.heap _ _ fun _ _ e => e)
  | str x =>
    cases rr
    exact PySem.P.repr_of_str (fin s.heap _ _ fun _ _ e => e) (by have : (PyData.shown (.str x)).length ≤ sizeLine := by omega
                                                                  exact this)
  | tuple xs =>
    have rr2 := rr
    cases rr with
    | tuple _ _ _ _ => exact repr_of_reads' rr2 hs (fun z => by rw [hd] at z; cases z) hgd (by omega) (fun _ _ e => e) (fun h' u tk hk => fin h' u tk hk) (by omega)
  | list xs =>
    have rr2 := rr
    cases rr with
    | list _ _ _ _ => exact repr_of_reads' rr2 hs (fun z => by rw [hd] at z; cases z) hgd (by omega) (fun _ _ e => e) (fun h' u tk hk => fin h' u tk hk) (by omega)
  | dict kvs => cases hd
theorem repr_tells {bx : Bool} : Tells X (prim .repr bx) (rRepr X.K) := by
  intro H M S xs ds Q E rs rv h
  match ds, rv, h with
  | [], _, h => exact h.elim
  | [d], rv, h =>
    obtain ⟨v, rfl, r⟩ := rv.one
    have q := rd_rel rs r
    replace h : WPE X.K X.mg H M (R.o (reprD S d) fun x => .ok (.str x) S) Q E := h
    unfold reprD pyd at h
    cases e : (rd S d).toPy with
    | none => rw [e] at h; exact h.elim
    | some p =>
      rw [e] at h
      simp only [Option.bind_some] at h
      split at h
      · rename_i hc
        simp only [Bool.and_eq_true, Bool.not_eq_true', decide_eq_true_eq] at hc
        obtain ⟨⟨⟨h1, h2⟩, h3⟩, h4⟩ := hc
        exact ⟨v, p, rfl, q.dp e, h1, h2, h3, h4, h.ok rs (.str _)⟩
      · exact h.elim
  | [_, _], _, h => exact h.elim
  | [_, _, _], _, h => exact h.elim
  | _ :: _ :: _ :: _ :: _, _, h => exact h.elim
end
end Pw

set_option Elab.async false
set_option linter.all false
set_option maxRecDepth 100000
set_option maxHeartbeats 1000000
namespace Pw
open PySem PySem.Spec PyProof.Rows
/-! # set(a list, a tuple) of keys of one kind: its size -/
theorem eraseDups_snoc {κ : Type} [BEq κ] [LawfulBEq κ] (ks : List κ) (k : κ) : ((ks ++ [k]).eraseDups).length = if ks.any (· == k) then ks.eraseDups.length else ks.eraseDups.length + 1 := by
  rw [List.eraseDups_append, List.length_append]
  by_cases h : k ∈ ks
  · have e1 : [k].removeAll ks = [] := by simp [List.removeAll, h]
    have e2 : ks.any (· == k) = true := by
      rw [List.any_eq_true]
      exact ⟨k, h, by simp⟩
    rw [e1, if_pos e2]
    rfl
  · have e1 : [k].removeAll ks = [k] := by simp [List.removeAll, h]
    have e2 : ¬ ks.any (· == k) = true := by
      rw [List.any_eq_true]
      rintro ⟨x, hx, he⟩
      exact h (eq_of_beq he ▸ hx)
    rw [e1, if_neg e2]
    simp [List.eraseDups_cons]
theorem eraseDups_le {κ : Type} [BEq κ] [LawfulBEq κ] : ∀ (m : Nat) (l : List κ), l.length ≤ m → l.eraseDups.length ≤ l.length
  | _, [], _ => by simp
  | 0, _ :: _, h => by cases h
  | m + 1, a :: l, h => by
    rw [List.eraseDups_cons, List.length_cons, List.length_cons]
    have h1 := List.length_filter_le (fun b => !b == a) l
    have h2 := eraseDups_le m (l.filter fun b => !b == a) (by rw [List.length_cons] at h; omega)
    omega
section
variable {prog : Program} {w : World} {κ : Type} [DecidableEq κ] [BEq κ] [LawfulBEq κ] [Inhabited κ] {knd : PySem.KeyKind prog w κ}
/-- what a set stands for behind the first so many keys -/
abbrev SetUp (knd : PySem.KeyKind prog w κ) (h : Heap) (S : Addr) (ks : List κ) (i : Nat) : Prop := h.SetOf knd S (fun k' => (ks.take i).any (· == k')) (ks.take i).eraseDups.length
theorem SetUp.next {h : Heap} {S : Addr} {ks : List κ} {i : Nat} (hi : i < ks.length)
    (q : h.SetOf knd S (fun k' => (ks.take i).any (· == k') || decide (k' = ks.getD i default)) (if (ks.take i).any (· == ks.getD i default) then (ks.take i).eraseDups.length else (ks.take i).eraseDups.length + 1)) : SetUp knd h S ks (i + 1) := by
  have e : ks.take (i + 1) = ks.take i ++ [ks.getD i default] := by
    rw [List.take_add_one, List.getD_eq_getElem?_getD, List.getElem?_eq_getElem hi]
    rfl
  unfold SetUp
  rw [e, eraseDups_snoc]
  refine SetOf_congr q (fun k' => ?_) rfl
  rw [List.any_append]
  congr 1
  simp only [List.any_cons, List.any_nil, Bool.or_false]
  by_cases z : k' = ks.getD i default
  · rw [decide_eq_true z, z]; simp
  · rw [decide_eq_false z]
    cases y : ks.getD i default == k' with
    | false => rfl
    | true => exact absurd (eq_of_beq y).symm z
variable {A : Around} {R : Result → Shared → Prop} {I : Addr} {fp wr : List Addr} {G : Array GenState → Array GenState → Prop} {n : Nat} {P : Nat → Value → Prop} {St : Nat → Shared → Prop}
theorem set_loop (W : WalksS prog w A.in1 I fp wr G n P St) (S : Addr) (apart : S ∉ fp) (ks : List κ) (long : ks.length = n) (few : n + 1 < scanBound) (vals : ∀ i v, P i v → knd.is (ks.getD i default) v = true ∧ v.scannable = true) :
    ∀ (left i : Nat) (s : Shared), i + left = n → St i s → SetUp knd s.heap S ks i →
      (∀ s', Moved (S :: wr) G s s' → SetUp knd s'.heap S ks n → R (.ok (.ret .none)) s') → codeAny (model prog w) A (.builtin "set.update.loop" ⟨[.ref S, .ref I], []⟩) R s := by
  have off : S ∉ wr := fun z => apart (W.sub _ z)
  have more : ∀ b ∈ wr, b ∈ S :: wr := fun b hb => List.mem_cons_of_mem _ hb
  have moved : ∀ {s s' : Shared} {i : Nat}, Moved wr G s s' → SetUp knd s.heap S ks i → SetUp knd s'.heap S ks i := by
    rintro s s' i mv ⟨o, es, ep, tb, ho, rest⟩
    exact ⟨o, es, ep, tb, mv.heap S _ off ho, rest⟩
  intro left
  induction left with
  | zero =>
    intro i s hi st up goal
    obtain rfl : i = n := by omega
    refine codeAny_builtin PyProof.Rows.F.entry_set_update_loop ?_
    rw [Around.under_plainId PyProof.Rows.F.plain_set_update_loop _]
    show wpAny _ A.in1 (pyNext (.ref I) >>= _) _ _ s
    exact wpAny_bind (W.done s _ _ st fun s' mv => wpAny_pure (goal s' (mv.mono more) (moved mv up)))
  | succ left ih =>
    intro i s hi st up goal
    have lt : i < n := by omega
    refine codeAny_builtin PyProof.Rows.F.entry_set_update_loop ?_
    rw [Around.under_plainId PyProof.Rows.F.plain_set_update_loop _]
    show wpAny _ A.in1 (pyNext (.ref I) >>= _) _ _ s
    refine wpAny_bind (W.item i s _ _ lt st fun v s' pv st' mv => ?_)
    obtain ⟨isK, scan⟩ := vals i v pv
    have up' := moved mv up
    have room : (ks.take i).eraseDups.length + 1 < scanBound := by
      have : (ks.take i).eraseDups.length ≤ (ks.take i).length := eraseDups_le _ _ (Nat.le_refl _)
      rw [List.length_take] at this
      omega
    show wpAny _ A.in1 (holding [v] (setAdd S v) >>= _) _ _ s'
    refine wpAny_bind (wpAny_holding ?_)
    unfold setAdd
    refine wpAny_holding (wpAny_bind (knd.pyHash (k := ks.getD i default) isK ?_))
    refine wpAny_setAddHashed_of (knd := knd) (s := { s' with toks := s'.toks + 1 }) isK scan up' room fun h' same up2 => ?_
    refine wpAny_pure ⟨plainId_quiet PyProof.Rows.F.plain_set_update_loop _, ih (i + 1) _ (by omega) ?_ (SetUp.next (by omega) up2) fun s2 mv2 done => goal s2 ?_ done⟩
    · refine W.frame _ s' _ _ st' (Nat.le_succ _) fun b hb o e => ?_
      exact (same.2 b (fun z : b = S => apart (z ▸ hb))).trans e
    · refine Moved.trans W.gtrans ((mv.mono more).then_heap (Nat.le_succ _) fun b o hb e => ?_) mv2
      exact (same.2 b (fun z : b = S => hb (by rw [z]; exact List.mem_cons_self))).trans e
end
abbrev setObj (led : Bool) : Obj := { cls := .type "set", dict := none, data := .set #[] 0 (.fresh 0 0 led) }
section
variable {prog : Program} {w : World} {κ : Type} [DecidableEq κ] [BEq κ] [LawfulBEq κ] [Inhabited κ] {knd : PySem.KeyKind prog w κ} {A : Around} {E : Value → Shared → Prop} {s : Shared}
set_option maxHeartbeats 4000000 in
theorem set_made (tp : Bool) {l : Addr} {its : Array Value} (ks : List κ) {Q : Value → Shared → Prop} (calmA : A.handled = none) (src : SeqB tp s.heap l its) (size : ks.length = its.size) (few : its.size + 1 < scanBound)
    (vals : ∀ i v, its[i]? = some v → knd.is (ks.getD i default) v = true ∧ v.scannable = true)
    (goal : ∀ (h' : Heap) (tk : Nat), SetUp knd h' s.heap.objs.size ks its.size → (∀ b o, b < s.heap.objs.size → s.heap.get? b = some o → h'.get? b = some o) → Q (.ref s.heap.objs.size) { s with heap := h', toks := tk }) :
    wpAny (model prog w) A (call (.type "set") [.ref l]) Q E s := by
  have z0 := PySem.F.called_set.mro
  obtain ⟨c0, r0, mroEq⟩ := z0
  have made := PySem.F.called_set.made
  have subt := PySem.F.called_set.sub
  refine wpAny_call (codeAny_of_tree ?_)
  show wpAny _ _ (callAny (.type "set") _) _ _ _
  refine wpAny_pure ⟨Code.quiet_builtin _ (by decide +kernel), codeAny_builtin PySem.F.entry_type_call ?_⟩
  rw [Around.under_plain (weight_type_call_type "set" [.ref l] []) rfl]
  have notT := PySem.F.called_set.notType
  have can := PySem.F.called_set.canCreate
  have chk := PySem.F.typeCall_set_1 (.ref l)
  repeat (any_goals (first | assumption | wp_step))
  refine codeAny_mono (code_set_new_1 (.ref l) (E := E) (Q₁ := fun obj s₁ => ∃ led : Bool, obj = .ref s.heap.objs.size ∧ s₁ = { s with heap := s.heap.push (setObj led) }) fun led => ⟨led, rfl, rfl⟩) ?_
  intro res s1 got
  rcases res with e | fl
  · exact got
  rcases fl with _ | _ | _ | obj
  · exact got.elim
  · exact got.elim
  · exact got.elim
  · obtain ⟨led, eo, es⟩ := got
    subst eo
    subst es
    have at_ : (s.heap.push (setObj led)).get? s.heap.objs.size = some (setObj led) := Heap.get?_push_size _ rfl
    have typ : Shared.TypeIs { s with heap := s.heap.push (setObj led) } (.ref s.heap.objs.size) "set" := ⟨_, at_, rfl⟩
    have look := PySem.F.called_set.init.lookup
    have bnd := PySem.F.called_set.init.bind (.ref s.heap.objs.size)
    repeat (any_goals (first | assumption | wp_step))
    refine codeAny_mono (codeAny_call_builtin (R := wants (fun r s2 => r = .none ∧ ∃ h' tk, s2 = { s with heap := h', toks := tk } ∧ SetUp knd h' s.heap.objs.size ks its.size ∧
        (∀ b o, b < s.heap.objs.size → s.heap.get? b = some o → h'.get? b = some o)) E) PySem.F.called_set.init.plain PySem.F.entry_set_init (check_set_init_1 typ ?_)) ?_
    · have below : l < s.heap.objs.size := by
        cases tp
        · obtain ⟨o, ho, _⟩ := (show s.heap.IsList l its from src); exact Heap.lt_size ho
        · obtain ⟨o, ho, _⟩ := (show s.heap.IsTuple l its from src); exact Heap.lt_size ho
      have grown : (s.heap.push (setObj led)).objs.size = s.heap.objs.size + 1 := by rw [Heap.size_push]
      have src1 : SeqB tp (s.heap.push (setObj led)) l its := (begins_B tp l its).keeps _ _ src fun b o e => Heap.get?_push_of_some _ e
      have loop : ∀ {A' : Around} {E' : Value → Shared → Prop} (R' : Result → Shared → Prop), A'.in1.handled = none →
          (∀ (h' : Heap) (tk : Nat), SetUp knd h' s.heap.objs.size ks its.size → (∀ b o, b < s.heap.objs.size → s.heap.get? b = some o → h'.get? b = some o) → R' (.ok (.ret .none)) { s with heap := h', toks := tk }) →
          codeAny (model prog w) A' (.builtin "set.update.loop" ⟨[.ref s.heap.objs.size, .ref (s.heap.push (setObj led)).objs.size], []⟩) R' { s with heap := (s.heap.push (setObj led)).push (itO tp l) } := by
        intro A' E' R' hA fin
        have W : Walks prog w A'.in1 (s.heap.push (setObj led)).objs.size [(s.heap.push (setObj led)).objs.size, l] [(s.heap.push (setObj led)).objs.size] its.size (fun i v => its[i]? = some v) (fun i h => ItB tp h (s.heap.push (setObj led)).objs.size l i ∧ SeqB tp h l its) := by
          have ne : l ≠ (s.heap.push (setObj led)).objs.size := by rw [grown]; exact Nat.ne_of_lt (Nat.lt_succ_of_lt below)
          cases tp
          · exact Walks.list hA _ l ne its
          · exact Walks.tuple hA _ l ne its
        refine set_loop W.toS s.heap.objs.size (by rw [grown]; simp only [List.mem_cons, List.not_mem_nil, or_false, not_or]; exact ⟨Nat.ne_of_lt (Nat.lt_succ_self _), Nat.ne_of_gt below⟩) ks size few vals its.size 0 _ (by omega) ⟨itB_of (Heap.get?_push_size _ (begins_B tp l its).free), (begins_B tp l its).keeps _ _ src1 fun b o e => Heap.get?_push_of_some _ e⟩ ?_ ?_
        · have there : ((s.heap.push (setObj led)).push (itO tp l)).get? s.heap.objs.size = some (setObj led) := Heap.get?_push_of_some _ at_
          exact SetOf_congr ((setObjOf_fresh (knd := knd) led).setOf there (by unfold scanBound; omega)) (fun _ => rfl) rfl
        · intro s2 mv up
          obtain ⟨h', g', d', tk', os'⟩ := s2
          obtain rfl : g' = s.gens := mv.gens
          obtain rfl : d' = s.drawn := mv.drawn
          obtain rfl : os' = s.os := mv.os
          refine fin h' tk' up fun b o hb e => mv.heap b o ?_ (Heap.get?_push_of_some _ (Heap.get?_push_of_some _ e))
          rw [grown]
          simp only [List.mem_cons, List.not_mem_nil, or_false, not_or]
          exact ⟨Nat.ne_of_lt hb, Nat.ne_of_lt (Nat.lt_succ_of_lt hb)⟩
      have c3 : A.in1.in1.in1.handled = none := by simp [calmA]
      cases tp with
      | false =>
        obtain ⟨⟨oc, od, odata, oslots⟩, hol, ocE, nl, odE⟩ := (show s.heap.IsList l its from src)
        simp only at ocE odE
        subst ocE
        subst odE
        have hol1 : (s.heap.push (setObj led)).get? l = some { cls := .type "list", dict := od, data := .seq its nl, slots := oslots } := Heap.get?_push_of_some _ hol
        have s1 := PySem.F.sub_list_set
        have s2 := PySem.F.sub_list_frozenset
        have s3 : (Value.type "list" == Value.type "dict") = false := by decide
        have src2 : (s.heap.push (setObj led)).IsList l its := src1
        unfold Builtin.«set.__init__» noKeywords Builtin.Frozenset.updateFrom
        generalize pE : pyIter = pI
        wp_walk
        subst pE
        refine wpAny_pyIter_list src2 (wpAny_bind (wpAny_runValue ?_))
        refine loop (E' := E) _ c3 fun h' tk up old => ?_
        show wpAny _ _ _ _ _ _
        refine wpAny_pure ?_
        show wpAny _ _ (ret Value.none) _ _ _
        exact wpAny_pure ⟨rfl, h', tk, rfl, up, old⟩
      | true =>
        obtain ⟨⟨oc, od, odata, oslots⟩, hol, ocE, nl, odE⟩ := (show s.heap.IsTuple l its from src)
        simp only at ocE odE
        subst ocE
        subst odE
        have hol1 : (s.heap.push (setObj led)).get? l = some { cls := .type "tuple", dict := od, data := .seq its nl, slots := oslots } := Heap.get?_push_of_some _ hol
        have s1 := PySem.F.sub_tuple_set
        have s2 := PySem.F.sub_tuple_frozenset
        have s3 : (Value.type "tuple" == Value.type "dict") = false := by decide
        have src2 : (s.heap.push (setObj led)).IsTuple l its := src1
        unfold Builtin.«set.__init__» noKeywords Builtin.Frozenset.updateFrom
        generalize pE : pyIter = pI
        wp_walk
        subst pE
        refine wpAny_pyIter_tuple src2 (wpAny_bind (wpAny_runValue ?_))
        refine loop (E' := E) _ c3 fun h' tk up old => ?_
        show wpAny _ _ _ _ _ _
        refine wpAny_pure ?_
        show wpAny _ _ (ret Value.none) _ _ _
        exact wpAny_pure ⟨rfl, h', tk, rfl, up, old⟩
    · intro res2 s2 got2
      rcases res2 with e | fl2
      · exact got2
      rcases fl2 with _ | _ | _ | r
      · exact got2.elim
      · exact got2.elim
      · exact got2.elim
      · obtain ⟨er, h', tk, es2, up, old⟩ := got2
        subst er
        subst es2
        repeat (any_goals (first | assumption | wp_step))
        exact goal _ _ up old
end
end Pw

set_option Elab.async false
set_option linter.all false
set_option maxRecDepth 100000
set_option maxHeartbeats 1000000
namespace Pw
open PySem PySem.Spec PyProof.Rows L2
/-! # len(set(e)) -/
section
variable {X : Cx}
def tLenB (K : PySem.W.Frag) (ta : TE) : TE := fun σ H Q => ta σ H fun x H1 => ∃ (tp : Bool) (l : Addr), x = .ref l ∧
  ((∃ ws : List Str, SqB K H1 tp l (ws.map .str) ∧ ws.length ≤ 1000 ∧ Q (.int ws.eraseDups.length) H1) ∨ ∃ ns : List Int, SqB K H1 tp l (ns.map .int) ∧ ns.length ≤ 1000 ∧ Q (.int ns.eraseDups.length) H1)
theorem vals_str_at : ∀ {ws : List Str} {its : List Value}, Vals (ws.map V.str) its → ∀ (i : Nat) (v : Value), its[i]? = some v → ∃ t, v = .str (ws.getD i default) t
  | [], _, .nil, i, v, h => by simp at h
  | w :: ws, _, .cons r t, 0, v, h => by
    obtain ⟨tk, e⟩ := r
    refine ⟨tk, ?_⟩
    rw [← Option.some.inj (show some _ = some v from h)]
    exact e
  | w :: ws, _, .cons r t, i + 1, v, h => vals_str_at t i v (by simpa using h)
theorem vals_int_at : ∀ {ws : List Int} {its : List Value}, Vals (ws.map V.int) its → ∀ (i : Nat) (v : Value), its[i]? = some v → ∃ t, v = .int (ws.getD i default) t
  | [], _, .nil, i, v, h => by simp at h
  | w :: ws, _, .cons r t, 0, v, h => by
    obtain ⟨tk, e⟩ := r
    refine ⟨tk, ?_⟩
    rw [← Option.some.inj (show some _ = some v from h)]
    exact e
  | w :: ws, _, .cons r t, i + 1, v, h => vals_int_at t i v (by simpa using h)
theorem pe_lenB {a : Expr} {ta : TE} {p p2 q pos : Pos} (hc : X.calm = true) (hg : Gl X "len") (hm : X.mg "len" = none) (hg2 : Gl X "set") (hm2 : X.mg "set" = none) (ha : PE X a ta)
    (na : starEach [a] X.env = (false, eval a X.env) :: starEach [] X.env) : PE X (.Call (.Name "len" p) [.Call (.Name "set" p2) [a] [] q] [] pos) (tLenB X.K ta) := by
  refine ⟨fun pins s σ H Q I h => ?_⟩
  refine Call_ (ld_blt I hg hm boot_len ?_)
  refine PyProof.Rows.callWith_builtin1 (PyProof.Rows.args_cons ?_ rfl) rfl rfl
  refine Call_ (ld_blt I hg2 hm2 boot_set ?_)
  refine PyProof.Rows.callWith_type1 (PyProof.Rows.args_cons (thn (ha.run pins s σ H _ I h) fun v s1 ⟨x, H1, I1, r1, told⟩ => PyProof.Rows.args_nil ?_) na) na rfl
  obtain ⟨tp, l, rfl, told⟩ := told
  cases r1
  have fin : ∀ {κ : Type} [DecidableEq κ] [BEq κ] [LawfulBEq κ] [Inhabited κ] (knd : PySem.KeyKind X.prog X.w κ) (ks : List κ) (its : List Value), ks.length ≤ 1000 → ks.length = its.length → Q (.int ks.eraseDups.length) H1 →
      ∀ (h' : Heap) (tk : Nat), SetUp knd h' s1.heap.objs.size ks its.toArray.size → (∀ b o, b < s1.heap.objs.size → s1.heap.get? b = some o → h'.get? b = some o) →
      wpAny (model X.prog X.w) X.A (spliced (backTo pos (starEach [] X.env))) (fun vs s₂ => wpAny (model X.prog X.w) X.A (call (.builtin "len") (Value.ref s1.heap.objs.size :: vs)) (EP X pins σ Q) X.xe s₂) X.xe { s1 with heap := h', toks := tk } := by
    intro κ _ _ _ _ knd ks its few size told h' tk up old
    refine PyProof.Rows.args_nil ?_
    have sz : its.toArray.size = ks.length := by rw [List.size_toArray, size]
    unfold SetUp at up
    rw [sz, List.take_length] at up
    obtain ⟨o, es, ep, t, ho, hex, hd, _, _, _, hf, hn⟩ := up
    have I2 : Inv X pins σ H1 { s1 with heap := h', toks := tk } := I1.kept fun b o e => old b o (Heap.lt_size e) e
    have le := eraseDups_le _ ks (Nat.le_refl _)
    exact call_len_set ho hex hd hf (by rw [hn]; omega) ⟨.int ks.eraseDups.length, H1, I2.tok _, ⟨_, by rw [hn]⟩, told⟩
  rcases told with ⟨ws, hq, few, told⟩ | ⟨ns, hq, few, told⟩
  · obtain ⟨its, r, src, _⟩ := sqB_get I1 hq
    have size : ws.length = its.length := by rw [← r.length, List.length_map]
    exact set_made (knd := PySem.strKind X.prog X.w) tp ws (I1.ok.hd hc) src (by rw [List.size_toArray, size]) (by rw [List.size_toArray]; unfold scanBound; omega)
      (fun i v hv => by obtain ⟨t, rfl⟩ := vals_str_at r i v (by simpa using hv); exact ⟨strKind_is _ _ _ _, rfl⟩) fun h' tk up old => fin (PySem.strKind X.prog X.w) ws its few size told h' tk up old
  · obtain ⟨its, r, src, _⟩ := sqB_get I1 hq
    have size : ns.length = its.length := by rw [← r.length, List.length_map]
    exact set_made (knd := PySem.intKind X.prog X.w) tp ns (I1.ok.hd hc) src (by rw [List.size_toArray, size]) (by rw [List.size_toArray]; unfold scanBound; omega)
      (fun i v hv => by obtain ⟨t, rfl⟩ := vals_int_at r i v (by simpa using hv); exact ⟨intKind_is _ _ _ _, rfl⟩) fun h' tk up old => fin (PySem.intKind X.prog X.w) ns its few size told h' tk up old
theorem seq_sqB {K : PySem.W.Frag} {H : Hp} {M : Pl} {S : Sto} {d : D} {v : V} {xs : List D} (rs : RelS K H M S) (r : RelD K H M d v) (h : seqOf S d = some xs) : ∃ tp l vs, v = .ref l ∧ SqB K H tp l vs ∧ RelDs K H M xs vs := by
  obtain ⟨a, vs, rfl, hs, rr⟩ := seqOf_rel rs r h
  rcases hs with hs | hs
  · exact ⟨false, a, vs, rfl, hs, rr⟩
  · exact ⟨true, a, vs, rfl, hs.sq, rr⟩
theorem de_lenSet {a : Expr} {va : Ev → Sto → R D} {p p2 q pos : Pos} {bx : Bool} (hc : X.calm = true) (hg : Gl X "len") (hm : X.mg "len" = none) (hg2 : Gl X "set") (hm2 : X.mg "set" = none) (ha : DE X a va) (hs : noStar a = true) :
    DE X (.Call (.Name "len" p) [.Call (.Name "set" p2) [a] [] q] [] pos) (fun e S => ((va e S).bind fun x S1 => .ok [x] S1).bind fun xs S1 => prim .lenSet bx xs S1) := by
  intro W tk
  obtain ⟨ta, pa, qa⟩ := ha W tk
  refine ⟨_, pe_lenB hc hg hm hg2 hm2 pa (starEach_cons hs), fun σ H M env S Q re rs h => ?_⟩
  dsimp only at h
  rw [bind_assoc] at h
  refine qa σ H M env S _ re rs (WPE.bind h fun dx S1 v H1 M1 x1 rs1 rx h1 => ?_)
  replace h1 : WPE X.K X.mg H1 M1 (pLenSet S1 dx) Q (fun c d H' => W c d σ H') := h1
  unfold pLenSet at h1
  cases e : seqOf S1 dx with
  | none => rw [e] at h1; exact h1.elim
  | some xs =>
    rw [e] at h1
    simp only [Option.bind_some] at h1
    obtain ⟨tp, l, vs, rfl, hq, rr⟩ := seq_sqB rs1 rx e
    refine ⟨tp, l, rfl, ?_⟩
    cases e2 : strs? xs with
    | some ws =>
      rw [e2] at h1
      have ev := strs_rel rr e2
      subst ev
      simp only at h1
      split at h1
      · rename_i hl
        exact .inl ⟨ws, hq, hl, h1.ok rs1 (.int _)⟩
      · exact h1.elim
    | none =>
      rw [e2] at h1
      simp only at h1
      cases e3 : ints? xs with
      | none => rw [e3] at h1; exact h1.elim
      | some ns =>
        rw [e3] at h1
        have ev := ints_rel rr e3
        subst ev
        simp only at h1
        split at h1
        · rename_i hl
          exact .inr ⟨ns, hq, hl, h1.ok rs1 (.int _)⟩
        · exact h1.elim
end
/-! # name op= e -/
section
variable {X : Cx} {e : Expr} {v : Ev → Sto → R D} {pos : Pos}
def augE (o : BOp) : Operator := match o with | .add => .Add | _ => .Sub
def rAug : BOp → TIp
  | .add => fun x y H Q => rExt2 x y H Q ∨ ipI (fun i j => i + j) x y H Q
  | .sub => ipI (fun i j => i - j)
  | _ => fun _ _ _ _ => False
theorem ip_aug {o : BOp} (ho : o = .add ∨ o = .sub) : PIp X (augE o) (rAug o) := by
  rcases ho with rfl | rfl
  · intro pins s σ H x y v u Q I rx ry h
    rcases h with h | h
    · exact iop_ext pins s σ H x y v u Q I rx ry h
    · exact ip_add pins s σ H x y v u Q I rx ry h
  · exact ip_sub
theorem aug_ok {o : BOp} (ho : o = .add ∨ o = .sub) {H : Hp} {M : Pl} {S : Sto} {dx dy : D} {x y : V} {Q : VK} {E : XK} (rs : RelS X.K H M S) (rx : RelD X.K H M dx x) (ry : RelD X.K H M dy y) (h : WPE X.K X.mg H M (augop o dx dy S) Q E) : rAug o x y H Q := by
  rcases ho with rfl | rfl
  · unfold augop at h
    simp only at h
    cases dx with
    | ref l =>
      simp only at h
      cases dy with
      | ref l2 =>
        simp only at h
        cases e : S[l]? with
        | none => rw [e] at h; exact h.elim
        | some m =>
          rw [e] at h
          cases m with
          | dct _ _ => exact h.elim
          | lst zs =>
            simp only at h
            cases e2 : S[l2]? with
            | none => rw [e2] at h; exact h.elim
            | some m2 =>
              rw [e2] at h
              cases m2 with
              | dct _ _ => exact h.elim
              | lst ys =>
                simp only at h
                split at h
                · rename_i hz
                  obtain ⟨a, vs, rfl, hm, ha, rr⟩ := refL rs rx e
                  obtain ⟨b, us, rfl, hm2, hb, rr2⟩ := refL rs ry e2
                  have hx : Ext H M (upd H a (.lst (vs ++ us))) M := Ext.write rs hm
                  exact .inl ⟨a, b, vs, us, rfl, rfl, ha, hb, by rw [← rr.length, ← rr2.length]; exact hz, h (.ref a) _ _ hx (rs.write hm ⟨_, rfl, rr.append rr2⟩) (rx.mono hx)⟩
                · exact h.elim
      | _ => exact h.elim
    | int i =>
      simp only at h
      cases dy with
      | int j =>
        rw [rx.int_, ry.int_]
        exact .inr ⟨i, j, rfl, rfl, h.ok rs (.int _)⟩
      | _ => exact h.elim
    | _ => exact h.elim
  · unfold augop at h
    simp only at h
    cases dx with
    | int i =>
      simp only at h
      cases dy with
      | int j =>
        rw [rx.int_, ry.int_]
        exact ⟨i, j, rfl, rfl, h.ok rs (.int _)⟩
      | _ => exact h.elim
    | _ => exact h.elim
theorem ds_aug {i : Nat} {x : Str} {p : Pos} {o : BOp} (ho : o = .add ∨ o = .sub) (hN : X.N.Nodup) (hi : X.N[i]? = some x) (hx : Loc X.env.scope x) (he : DE X e v) (hf : X.fn x = true ∨ X.env.scope.names.lookup x = some .local) :
    DS X (.AugAssign (.Name x p) (augE o) e pos) (fun env S => (dVar i env S).st env fun x S1 => (v env S1).st env fun y S2 => (augop o x y S2).st env fun z S3 => if i < env.length then .nx (env.set i (some z)) S3 else .bad) := by
  intro W tk
  obtain ⟨t, pe, q⟩ := he W tk
  refine PS_imp (ps_aug hN hi hx pe (ip_aug ho) hf) fun D σ H ⟨M, env, S, re, rs, h⟩ => ?_
  dsimp only at h
  cases e1 : env[i]? with
  | none => unfold dVar at h; rw [e1] at h; exact h.elim
  | some od =>
    cases od with
    | none => unfold dVar at h; rw [e1] at h; exact h.elim
    | some d =>
      unfold dVar at h
      rw [e1] at h
      simp only [R.st_ok] at h
      obtain ⟨u, hu, ru⟩ := re.2 i d e1
      refine ⟨u, hu, q σ H M env S _ re rs (h.st re fun y S2 vy H2 M2 x2 rs2 ry re2 h2 => ?_)⟩
      refine aug_ok ho rs2 (ru.mono x2) ry (h2.st re2 fun z S3 vz H3 M3 x3 rs3 rz re3 h3 => ?_)
      split at h3
      · exact h3.nx rs3 (re3.set i rz)
      · exact h3.elim
end
end Pw

set_option Elab.async false
set_option linter.all false
set_option maxRecDepth 100000
set_option maxHeartbeats 1000000
namespace Pw
open PySem PySem.Spec PyProof.Rows L2
/-! ## the check that an expression of the text is what the evaluator's term says -/
structure CC where
  N : List Str
  sc : Scope
  fn : Str → Bool
  FN : List Str
  KS : List KSh
  /-- the module's constants -/
  GL : List (Str × D)
def CC.blk (c : CC) (scope : Scope) : CC := { c with sc := relS scope c.sc, fn := fun x => scope.names.lookup x == some .cell }
def bltNames : List Str := ["len", "tuple", "list", "dict", "all", "any", "sum", "max", "min", "sorted", "int", "abs", "range", "enumerate", "zip", "isinstance", "bool", "str", "set", "repr"]
structure CtxOk (X : Cx) (c : CC) (C : Nat → List D → Sto → R D) (PS : Nat → List Str) (k : Nat) : Prop where
  N : X.N = c.N
  nd : c.N.Nodup
  sc : X.env.scope = c.sc
  fn : X.fn = c.fn
  calm : X.calm = true
  room : Room k X.A
  kind : c.sc.kind = .function
  fns : FnsOk X C c.FN PS c.KS k
  blt : ∀ x ∈ bltNames, X.mg x = none
  gd : X.A.guards = some []
  gls : ∀ p ∈ c.GL, ConstG X p.1 p.2
theorem CtxOk.hu {X : Cx} {c : CC} {C : Nat → List D → Sto → R D} {PS : Nat → List Str} {k : Nat} (h : CtxOk X c C PS k) : X.A.units + 70 < cLine := by have := h.room.un; omega
theorem CtxOk.hu2 {X : Cx} {c : CC} {C : Nat → List D → Sto → R D} {PS : Nat → List Str} {k : Nat} (h : CtxOk X c C PS k) : X.A.units + 64 < cLine := by have := h.room.un; omega
theorem CtxOk.blk {X : Cx} {c : CC} {C : Nat → List D → Sto → R D} {PS : Nat → List Str} {k : Nat} (h : CtxOk X c C PS k) {scope : Scope} (hk : scope.kind = .function) (s : Shared) (H : Hp) (Ca : Addr) (cl : List (Str × Addr)) (fp : List Addr) :
    CtxOk (X.blk s H scope (compEnvC scope cl Ca X.env) fp) (c.blk scope) C PS k :=
  ⟨h.N, h.nd, by show relS scope X.env.scope = relS scope c.sc; rw [h.sc], rfl, h.calm, h.room, hk, ⟨h.fns.at_⟩, h.blt, h.gd, h.gls⟩
def glB (c : CC) (x : Str) : Bool := match c.sc.names.lookup x with | some .globalImplicit => true | _ => false
def visB (c : CC) (x : Str) : Bool := match c.sc.names.lookup x with | some .local => true | some .cell => true | some .free => true | _ => false
def stB (c : CC) (x : Str) : Bool := match c.sc.names.lookup x with | some .local => true | some .cell => c.fn x | _ => false
def nmB (c : CC) (i : Nat) (x : Str) : Bool := match c.N[i]? with | some y => y == x | none => false
section
variable {X : Cx} {c : CC} {C : Nat → List D → Sto → R D} {PS : Nat → List Str} {k : Nat} (K : CtxOk X c C PS k)
include K
theorem gl_of {x : Str} (h : glB c x = true) : Gl X x := by
  unfold glB at h
  show X.env.scope.names.lookup x = _
  rw [K.sc]
  split at h
  · assumption
  · cases h
theorem vis_of {x : Str} (h : visB c x = true) : Vis X.env.scope x := by
  unfold visB at h
  rw [K.sc]
  split at h
  · exact .inl (by assumption)
  · exact .inr (.inl (by assumption))
  · exact .inr (.inr (by assumption))
  · cases h
theorem st_of {x : Str} (h : stB c x = true) : Loc X.env.scope x ∧ (X.fn x = true ∨ X.env.scope.names.lookup x = some .local) := by
  unfold stB at h
  rw [K.sc, K.fn]
  split at h
  · exact ⟨.inl (by assumption), .inr (by assumption)⟩
  · exact ⟨.inr (by assumption), .inl h⟩
  · cases h
theorem nm_of {i : Nat} {x : Str} (h : nmB c i x = true) : X.N[i]? = some x := by
  unfold nmB at h
  rw [K.N]
  split at h
  · rename_i y hy
    rw [hy, eq_of_beq h]
  · cases h
theorem blt_of {x : Str} (h : bltNames.contains x = true) : X.mg x = none := K.blt x (by simpa using h)
end
/-- as a test -/
def plainB : Expr → Bool
  | .UnaryOp .Not _ _ => false
  | .BoolOp _ _ _ => false
  | .IfExp _ _ _ _ => false
  | .Compare _ _ _ _ => false
  | _ => true
def isIte : Expr → Bool
  | .IfExp _ _ _ _ => true
  | _ => false
theorem plain_of {X : Cx} {e : Expr} (h : plainB e = true) : PlainTest X e := by
  intro whole
  cases e with
  | UnaryOp op a p => cases op <;> first | rfl | cases h
  | BoolOp _ _ _ => cases h
  | IfExp _ _ _ _ => cases h
  | Compare _ _ _ _ => cases h
  | _ => rfl
structure Snd (X : Cx) (ex : Expr) (d : Den) : Prop where
  e : DE X ex d.v
  t : isIte ex = false → DT X ex d.t
  w : ∀ op es pos, ex = .BoolOp op es pos → DW X ex d.t
theorem Snd.plain {X : Cx} {ex : Expr} {v : Ev → Sto → R D} (h : DE X ex v) (hp : plainB ex = true) : Snd X ex (ofV v) :=
  ⟨h, fun _ => dt_of (plain_of hp) h, fun op es pos e => by rw [e] at hp; cases hp⟩
abbrev Ck := CC → E → Expr → Bool
def Good (C : Nat → List D → Sto → R D) (G : Nat → Option D) (PS : Nat → List Str) (k : Nat) (r : Ck) : Prop := ∀ c ir ex X, CtxOk X c C PS k → r c ir ex = true → Snd X ex (den C G ir)
/-- lists -/
def cks (r : Ck) (c : CC) : List E → List Expr → Bool
  | [], [] => true
  | a :: as, e :: es => r c a e && noStar e && cks r c as es
  | _, _ => false
section
variable {X : Cx} {c : CC} {C : Nat → List D → Sto → R D} {G : Nat → Option D} {PS : Nat → List Str} {k : Nat} {r : Ck}
theorem cks_ok (hr : Good C G PS k r) (K : CtxOk X c C PS k) : ∀ {as : List E} {es : List Expr}, cks r c as es = true → DA X es (dens C G as) ∧ es.all noStar = true ∧ as.length = es.length
  | [], [], _ => ⟨da_nil, rfl, rfl⟩
  | a :: as, e :: es, h => by
    unfold cks at h
    rw [Bool.and_eq_true, Bool.and_eq_true] at h
    obtain ⟨h1, h2, h3⟩ := cks_ok hr K h.2
    exact ⟨da_cons (starEach_cons h.1.2) (hr c a e X K h.1.1).e h1, by rw [List.all_cons, h.1.2, h2]; rfl, by rw [List.length_cons, List.length_cons, h3]⟩
  | [], _ :: _, h => by cases h
  | _ :: _, [], h => by cases h
/-! ### one constructor at a time -/
def constB : D → Const → Bool
  | .non, .none => true
  | .bl b, .bool b' => b == b'
  | .int i, .int j => i == j
  | .str x, .str y => x == y
  | _, _ => false
theorem const_ok {d : D} {cn : Const} {j : Nat} {pos : Pos} (h : constB d cn = true) : DE X (.Constant cn j pos) (fun _ S => .ok d S) := by
  unfold constB at h
  split at h
  · exact de_k pe_non fun _ _ => .non
  · rw [← eq_of_beq h]; exact de_k pe_bl fun _ _ => .bl _
  · rw [← eq_of_beq h]; exact de_k pe_int fun _ _ => .int _
  · rw [← eq_of_beq h]; exact de_k pe_str fun _ _ => .str _
  · cases h
def ckV (c : CC) (i : Nat) : Expr → Bool
  | .Name x _ => nmB c i x && visB c x && !(x == ("__debug__" : Str)) && !(x == ("__classdict__" : Str))
  | _ => false
theorem ckV_ok (K : CtxOk X c C PS k) {i : Nat} {ex : Expr} (h : ckV c i ex = true) : Snd X ex (den C G (.v i)) := by
  unfold ckV at h
  split at h
  · simp only [Bool.and_eq_true, Bool.not_eq_true'] at h
    exact .plain (de_var (nm_of K h.1.1.1) (vis_of K h.1.1.2) h.1.2 h.2) rfl
  · cases h
def litB : D → D → Bool
  | .int i, .int j => i == j
  | .str x, .str y => x == y
  | _, _ => false
theorem litB_eq {a b : D} (h : litB a b = true) : a = b := by
  unfold litB at h
  split at h
  · rw [eq_of_beq h]
  · rw [eq_of_beq h]
  · cases h
def ckK (c : CC) (d : D) : Expr → Bool
  | .Constant cn _ _ => constB d cn
  | .Name x _ => glB c x && !(x == ("__debug__" : Str)) && c.GL.any fun p => p.1 == x && litB p.2 d
  | _ => false
theorem ckK_ok (K : CtxOk X c C PS k) {d : D} {ex : Expr} (h : ckK c d ex = true) : Snd X ex (den C G (.k d)) := by
  unfold ckK at h
  split at h
  · exact .plain (const_ok h) rfl
  · rw [Bool.and_eq_true, Bool.and_eq_true, Bool.not_eq_true'] at h
    obtain ⟨p, hp, hq⟩ := List.any_eq_true.mp h.2
    rw [Bool.and_eq_true] at hq
    have e1 := eq_of_beq hq.1
    have e2 := litB_eq hq.2
    have z := K.gls p hp
    rw [e1, e2] at z
    exact .plain (de_glob (gl_of K h.1.1) z h.1.2) rfl
  · cases h
theorem ckBad_ok {ex : Expr} (h : plainB ex = true) : Snd X ex (den C G .bad) := .plain de_bad h
def ckBin (r : Ck) (c : CC) (o : BOp) (a b : E) : Expr → Bool
  | .BinOp x op y _ => decide (op = bOp o) && r c a x && r c b y
  | _ => false
theorem ckBin_ok (hr : Good C G PS k r) (K : CtxOk X c C PS k) {o : BOp} {bx : Bool} {a b : E} {ex : Expr} (h : ckBin r c o a b ex = true) : Snd X ex (den C G (.bin o bx a b)) := by
  unfold ckBin at h
  split at h
  · simp only [Bool.and_eq_true, decide_eq_true_eq] at h
    obtain ⟨⟨rfl, h1⟩, h2⟩ := h
    exact .plain (de_bin o bx (hr c a _ X K h1).e (hr c b _ X K h2).e) rfl
  · cases h
def ckNeg (r : Ck) (c : CC) (a : E) : Expr → Bool
  | .UnaryOp .USub x _ => r c a x
  | _ => false
theorem ckNeg_ok (hr : Good C G PS k r) (K : CtxOk X c C PS k) {a : E} {ex : Expr} (h : ckNeg r c a ex = true) : Snd X ex (den C G (.neg a)) := by
  unfold ckNeg at h
  split at h
  · exact .plain (de_neg (hr c a _ X K h).e) rfl
  · cases h
def ckNot (r : Ck) (c : CC) (a : E) : Expr → Bool
  | .UnaryOp .Not x _ => r c a x && !isIte x
  | _ => false
theorem ckNot_ok (hr : Good C G PS k r) (K : CtxOk X c C PS k) {a : E} {ex : Expr} (h : ckNot r c a ex = true) : Snd X ex (den C G (.not a)) := by
  unfold ckNot at h
  split at h
  · rw [Bool.and_eq_true, Bool.not_eq_true'] at h
    have s := hr c a _ X K h.1
    exact ⟨de_not s.e, fun _ => dt_not (s.t h.2), fun _ _ _ e => nomatch e⟩
  · cases h
def ckCmp (r : Ck) (c : CC) (o : COp) (a b : E) : Expr → Bool
  | .Compare x [op] [y] _ => decide (op = cOp o) && !behindInMarks op y && r c a x && r c b y
  | _ => false
theorem ckCmp_ok (hr : Good C G PS k r) (K : CtxOk X c C PS k) {o : COp} {a b : E} {ex : Expr} (h : ckCmp r c o a b ex = true) : Snd X ex (den C G (.cmp o a b)) := by
  unfold ckCmp at h
  split at h
  · simp only [Bool.and_eq_true, decide_eq_true_eq, Bool.not_eq_true'] at h
    obtain ⟨⟨⟨rfl, hm⟩, h1⟩, h2⟩ := h
    exact ⟨de_cmp K.hu2 o hm (hr c a _ X K h1).e (hr c b _ X K h2).e, fun _ => dt_cmp K.hu2 o hm (hr c a _ X K h1).e (hr c b _ X K h2).e, fun _ _ _ e => nomatch e⟩
  · cases h
def ckCmp2 (r : Ck) (c : CC) (o o' : COp) (a b d : E) : Expr → Bool
  | .Compare x [op, op'] [y, z] _ => decide (op = cOp o) && decide (op' = cOp o') && !lastMarks [op, op'] [y, z] && r c a x && r c b y && r c d z
  | _ => false
theorem ckCmp2_ok (hr : Good C G PS k r) (K : CtxOk X c C PS k) {o o' : COp} {a b d : E} {ex : Expr} (h : ckCmp2 r c o o' a b d ex = true) : Snd X ex (den C G (.cmp2 o o' a b d)) := by
  unfold ckCmp2 at h
  split at h
  · simp only [Bool.and_eq_true, decide_eq_true_eq, Bool.not_eq_true'] at h
    obtain ⟨⟨⟨⟨⟨rfl, rfl⟩, hm⟩, h1⟩, h2⟩, h3⟩ := h
    exact ⟨de_cmp2 K.hu2 o o' hm (hr c a _ X K h1).e (hr c b _ X K h2).e (hr c d _ X K h3).e, fun _ => dt_cmp2 K.hu2 o o' hm (hr c a _ X K h1).e (hr c b _ X K h2).e (hr c d _ X K h3).e, fun _ _ _ e => nomatch e⟩
  · cases h
def ckIsk (r : Ck) (c : CC) (ng : Bool) (a : E) (d : D) : Expr → Bool
  | .Compare x [op] [.Constant cn _ _] _ => decide (op = isE ng) && constB d cn && (match d with | .non => true | .bl _ => true | _ => false) && r c a x
  | _ => false
theorem ckIsk_ok (hr : Good C G PS k r) (K : CtxOk X c C PS k) {ng : Bool} {a : E} {d : D} {ex : Expr} (h : ckIsk r c ng a d ex = true) : Snd X ex (den C G (.isk ng a d)) := by
  unfold ckIsk at h
  split at h
  · rename_i x op cn j p1 p2
    simp only [Bool.and_eq_true, decide_eq_true_eq] at h
    obtain ⟨⟨⟨rfl, hc⟩, hd⟩, h1⟩ := h
    have pb : PE X (.Constant cn j p1) (tC (cV d)) := by
      cases d with
      | non => cases cn <;> first | exact pe_non | cases hc
      | bl b =>
        cases cn with
        | bool b' => rw [show b' = b from (eq_of_beq hc).symm]; exact pe_bl
        | _ => cases hc
      | _ => cases hd
    exact ⟨de_isk ng d rfl pb (hr c a _ X K h1).e, fun _ => dt_isk ng d rfl pb (hr c a _ X K h1).e, fun _ _ _ e => nomatch e⟩
  · cases h
def ckAnd (r : Ck) (c : CC) (a b : E) : Expr → Bool
  | .BoolOp .And (x :: y :: es) pos => r c a x && !isIte x && r c b (.BoolOp .And (y :: es) pos)
  | _ => false
theorem ckAnd_ok (hr : Good C G PS k r) (K : CtxOk X c C PS k) {a b : E} {ex : Expr} (h : ckAnd r c a b ex = true) : Snd X ex (den C G (.and a b)) := by
  unfold ckAnd at h
  split at h
  · simp only [Bool.and_eq_true, Bool.not_eq_true'] at h
    have s := hr c a _ X K h.1.1
    have s2 := hr c b _ X K h.2
    have w := dw_and (s.t h.1.2) (s2.w _ _ _ rfl)
    exact ⟨de_and s.e s2.e, fun _ => w.dt, fun _ _ _ _ => w⟩
  · cases h
def ckOr (r : Ck) (c : CC) (a b : E) : Expr → Bool
  | .BoolOp .Or (x :: y :: es) pos => r c a x && !isIte x && r c b (.BoolOp .Or (y :: es) pos)
  | _ => false
theorem ckOr_ok (hr : Good C G PS k r) (K : CtxOk X c C PS k) {a b : E} {ex : Expr} (h : ckOr r c a b ex = true) : Snd X ex (den C G (.or a b)) := by
  unfold ckOr at h
  split at h
  · simp only [Bool.and_eq_true, Bool.not_eq_true'] at h
    have s := hr c a _ X K h.1.1
    have s2 := hr c b _ X K h.2
    have w := dw_or (s.t h.1.2) (s2.w _ _ _ rfl)
    exact ⟨de_or s.e s2.e, fun _ => w.dt, fun _ _ _ _ => w⟩
  · cases h
def ckIte (r : Ck) (c : CC) (t a b : E) : Expr → Bool
  | .IfExp x y z _ => r c t x && !isIte x && r c a y && r c b z
  | _ => false
theorem ckIte_ok (hr : Good C G PS k r) (K : CtxOk X c C PS k) {t a b : E} {ex : Expr} (h : ckIte r c t a b ex = true) : Snd X ex (den C G (.ite t a b)) := by
  unfold ckIte at h
  split at h
  · simp only [Bool.and_eq_true, Bool.not_eq_true'] at h
    obtain ⟨⟨⟨h0, h1⟩, h2⟩, h3⟩ := h
    exact ⟨de_ite ((hr c t _ X K h0).t h1) (hr c a _ X K h2).e (hr c b _ X K h3).e, (fun z => nomatch z), fun _ _ _ e => nomatch e⟩
  · cases h
def fnB (c : CC) (f : Nat) (x : Str) : Bool := match c.FN[f]? with | some y => y == x | none => false
theorem fn_of {f : Nat} {x : Str} (h : fnB c f x = true) : c.FN[f]? = some x := by
  unfold fnB at h
  split at h
  · rename_i y hy
    rw [hy, eq_of_beq h]
  · cases h
def ckCall (r : Ck) (c : CC) (f : Nat) (as : List E) : Expr → Bool
  | .Call (.Name x _) (e :: es) [] _ => fnB c f x && glB c x && cks r c as (e :: es)
  | _ => false
theorem ckCall_ok (hr : Good C G PS k r) (K : CtxOk X c C PS k) {f : Nat} {as : List E} {ex : Expr} (h : ckCall r c f as ex = true) : Snd X ex (den C G (.call f as)) := by
  unfold ckCall at h
  split at h
  · simp only [Bool.and_eq_true] at h
    obtain ⟨h1, h2, _⟩ := cks_ok hr K h.2
    exact .plain (de_call K.fns K.gd K.room (fn_of h.1.1) (gl_of K h.1.2) h2 h1) rfl
  · cases h
def ckKws (r : Ck) (c : CC) : List E → List Keyword → Bool
  | [], [] => true
  | a :: as, ⟨some _, e, _⟩ :: ks => r c a e && ckKws r c as ks
  | _, _ => false
theorem ckKws_ok (hr : Good C G PS k r) (K : CtxOk X c C PS k) : ∀ {as : List E} {ks : List Keyword}, ckKws r c as ks = true → DK X ks (dens C G as)
  | [], [], _ => dk_nil
  | a :: as, ⟨some _, e, _⟩ :: ks, h => by
    unfold ckKws at h
    rw [Bool.and_eq_true] at h
    exact dk_cons (hr c a e X K h.1).e (ckKws_ok hr K h.2)
  | [], _ :: _, h => by cases h
  | _ :: _, [], h => by cases h
  | _ :: _, ⟨none, _, _⟩ :: _, h => by cases h
theorem dens_length : ∀ {as : List E} {e : Ev} {S S1 : Sto} {ds : List D}, dens C G as e S = .ok ds S1 → ds.length = as.length
  | [], _, _, _, _, h => by cases h; rfl
  | a :: as, e, S, S1, ds, h => by
    replace h : (((den C G a).v e S).bind fun x S1 => (dens C G as e S1).bind fun xs S2 => .ok (x :: xs) S2) = .ok ds S1 := h
    cases e1 : (den C G a).v e S with
    | bad => rw [e1] at h; cases h
    | exc _ _ => rw [e1] at h; cases h
    | ok x S2 =>
      rw [e1] at h
      simp only [R.bind_ok] at h
      cases e2 : dens C G as e S2 with
      | bad => rw [e2] at h; cases h
      | exc _ _ => rw [e2] at h; cases h
      | ok xs S3 =>
        rw [e2] at h
        cases h
        rw [List.length_cons, List.length_cons, dens_length e2]
def ckCallk (r : Ck) (c : CC) (f : Nat) (as bs : List E) (ord : List Nat) : Expr → Bool
  | .Call (.Name x _) es kws _ => fnB c f x && glB c x && cks r c as es && ckKws r c bs kws && (match kwNames kws with | some ks => decide (⟨f, as.length, ks, ord⟩ ∈ c.KS) && decide (bs.length = ks.length) | none => false)
  | _ => false
theorem ckCallk_ok (hr : Good C G PS k r) (K : CtxOk X c C PS k) {f : Nat} {as bs : List E} {ord : List Nat} {ex : Expr} (h : ckCallk r c f as bs ord ex = true) : Snd X ex (den C G (.callk f as bs ord)) := by
  unfold ckCallk at h
  split at h
  · rename_i x p es kws p2
    simp only [Bool.and_eq_true] at h
    obtain ⟨⟨⟨⟨h1, h2⟩, h3⟩, h4⟩, h5⟩ := h
    cases e : kwNames kws with
    | none => rw [e] at h5; cases h5
    | some ks =>
      rw [e] at h5
      simp only [Bool.and_eq_true, decide_eq_true_eq] at h5
      obtain ⟨a1, a2, a3⟩ := cks_ok hr K h3
      refine .plain (de_callk (q := ⟨f, as.length, ks, ord⟩) K.fns K.gd K.room (fn_of h1) (gl_of K h2) a2 h5.1 e a1 (ckKws_ok hr K h4) (fun _ _ _ _ h => dens_length h) (fun _ _ _ _ h => (dens_length h).trans h5.2) fun z => ?_) rfl
      subst z
      cases as with
      | nil => rfl
      | cons _ _ => cases a3
  · cases h
end
end Pw

set_option Elab.async false
set_option linter.all false
set_option maxRecDepth 100000
set_option maxHeartbeats 1000000
namespace Pw
open PySem PySem.Spec PyProof.Rows L2
section
variable {X : Cx} {c : CC} {C : Nat → List D → Sto → R D} {G : Nat → Option D} {PS : Nat → List Str} {k : Nat} {r : Ck}
/-! ### built-ins -/
def prName : Pr → Option Str
  | .len => some "len" | .tuple => some "tuple" | .list => some "list" | .all => some "all" | .any => some "any" | .sum => some "sum" | .max2 => some "max" | .min2 => some "min"
  | .sorted => some "sorted" | .int => some "int" | .abs => some "abs" | .repr => some "repr" | .dict => some "dict" | _ => none
/-- range(..) as an argument -/
def ckRg (r : Ck) (c : CC) (n : Nat) (as : List E) : Expr → Bool
  | .Call (.Name x _) es [] _ => x == ("range" : Str) && glB c x && cks r c as es && decide (es.length = n) && (n == 1 || n == 2)
  | _ => false
theorem da_one {e : Expr} {a : E} : dens C G [a] = fun en S => ((den C G a).v en S).bind fun x S1 => .ok [x] S1 := by
  funext en S
  show ((den C G a).v en S).bind (fun x S1 => (R.ok [] S1).bind fun xs S2 => .ok (x :: xs) S2) = _
  rfl
theorem da_two {a b : E} : dens C G [a, b] = fun en S => ((den C G a).v en S).bind fun x S1 => ((den C G b).v en S1).bind fun y S2 => .ok [x, y] S2 := by
  funext en S
  show ((den C G a).v en S).bind (fun x S1 => (((den C G b).v en S1).bind fun y S2 => (R.ok [] S2).bind fun xs S3 => .ok (y :: xs) S3).bind fun xs S2 => .ok (x :: xs) S2) = _
  congr 1
  funext x S1
  rw [bind_assoc]
  rfl
theorem ckRg_ok (hr : Good C G PS k r) (K : CtxOk X c C PS k) {n : Nat} {as : List E} {ex : Expr} (h : ckRg r c n as ex = true) : ∃ es, Rg X es (dens C G as) ex n ∧ noStar ex = true := by
  unfold ckRg at h
  split at h
  · rename_i x p es p2
    simp only [Bool.and_eq_true, decide_eq_true_eq, Bool.or_eq_true] at h
    obtain ⟨⟨⟨⟨hx, hg⟩, hs⟩, hl⟩, hn⟩ := h
    have hx := eq_of_beq hx
    subst hx
    have hG := gl_of K hg
    have hM := blt_of K (x := "range") (by decide +kernel)
    match as, es, hs, hl with
    | [a], [e], hs, hl =>
      unfold cks at hs
      simp only [Bool.and_eq_true] at hs
      rw [da_one (e := e)]
      have : n = 1 := by simpa using hl.symm
      subst this
      exact ⟨[e], .one hG hM hs.1.2 (hr c a _ X K hs.1.1).e, rfl⟩
    | [a, b], [e, e2], hs, hl =>
      unfold cks at hs
      simp only [Bool.and_eq_true] at hs
      have hs2 := hs.2
      unfold cks at hs2
      simp only [Bool.and_eq_true] at hs2
      rw [da_two]
      have : n = 2 := by simpa using hl.symm
      subst this
      exact ⟨[e, e2], .two hG hM hs.1.2 hs2.1.2 (hr c a _ X K hs.1.1).e (hr c b _ X K hs2.1.1).e, rfl⟩
    | [], [], _, hl => simp at hl; subst hl; rcases hn with h | h <;> cases h
    | _ :: _ :: _ :: _, [_], hs, _ => unfold cks at hs; simp [cks] at hs
    | _ :: _ :: _ :: _, [_, _], hs, _ => unfold cks at hs; simp [cks] at hs
    | _ :: _, [], hs, _ => cases hs
    | [], _ :: _, hs, _ => cases hs
    | [_, _], [_], hs, _ => unfold cks at hs; simp [cks] at hs
    | [_], _ :: _ :: _, hs, _ => unfold cks at hs; simp [cks] at hs
    | _, _ :: _ :: _ :: _, _, hl => simp at hl; subst hl; rcases hn with h | h <;> simp at h
  · cases h
def ckPr (r : Ck) (c : CC) (p : Pr) (as : List E) (ex : Expr) : Bool :=
  match p with
  | .rangeL n => (match ex with
    | .Call (.Name x _) [e] [] _ => x == ("list" : Str) && glB c x && ckRg r c n as e
    | _ => false)
  | .rangeT n => (match ex with
    | .Call (.Name x _) [e] [] _ => x == ("tuple" : Str) && glB c x && ckRg r c n as e
    | _ => false)
  | .lenSet => (match ex, as with
    | .Call (.Name x _) [.Call (.Name y _) [e] [] _] [] _, [a] => x == ("len" : Str) && y == ("set" : Str) && glB c x && glB c y && noStar e && r c a e
    | _, _ => false)
  | p => match prName p with
    | some y => (match ex with
      | .Call (.Name x _) (e :: es) [] _ => x == y && glB c x && cks r c as (e :: es)
      | _ => false)
    | none => false
theorem ckPr_core (hr : Good C G PS k r) (K : CtxOk X c C PS k) {y : Str} {as : List E} {f : List D → Sto → R D} {ex : Expr} (h : (match ex with
      | .Call (.Name x _) (e :: es) [] _ => x == y && glB c x && cks r c as (e :: es)
      | _ => false) = true) (n1 : y ≠ "__name__") (n2 : (y == ("__debug__" : Str)) = false) (n3 : bltNames.contains y = true)
    (hf : (∃ id rr, bootBuiltins y = some (.builtin id) ∧ CallR X (.builtin id) rr ∧ Tells X f rr) ∨ (∃ T rr, bootBuiltins y = some (.type T) ∧ CallR X (.type T) rr ∧ Tells X f rr)) :
    Snd X ex (ofV fun e S => (dens C G as e S).bind f) := by
  split at h
  · rename_i x p e es p2
    simp only [Bool.and_eq_true] at h
    have hx := eq_of_beq h.1.1
    subst hx
    obtain ⟨h1, h2, _⟩ := cks_ok hr K h.2
    rcases hf with ⟨id, rr, b1, b2, b3⟩ | ⟨T, rr, b1, b2, b3⟩
    · exact .plain (de_callB b2 b3 (gl_of K h.1.2) (blt_of K n3) b1 n1 n2 h2 h1) rfl
    · exact .plain (de_callTy b2 b3 (gl_of K h.1.2) (blt_of K n3) b1 n1 n2 h2 h1) rfl
  · cases h
theorem ckPr_ok (hr : Good C G PS k r) (K : CtxOk X c C PS k) {p : Pr} {bx : Bool} {as : List E} {ex : Expr} (h : ckPr r c p as ex = true) : Snd X ex (den C G (.pr p bx as)) := by
  show Snd X ex (ofV fun e S => (dens C G as e S).bind (prim p bx))
  cases p with
  | rangeL n =>
    unfold ckPr at h
    simp only at h
    split at h
    · rename_i x p e p2
      simp only [Bool.and_eq_true] at h
      have hx := eq_of_beq h.1.1
      subst hx
      obtain ⟨es, hR, hs⟩ := ckRg_ok hr K h.2
      exact .plain (de_listRg K.calm (gl_of K h.1.2) (blt_of K (x := "list") (by decide +kernel)) hs hR) rfl
    · cases h
  | rangeT n =>
    unfold ckPr at h
    simp only at h
    split at h
    · rename_i x p e p2
      simp only [Bool.and_eq_true] at h
      have hx := eq_of_beq h.1.1
      subst hx
      obtain ⟨es, hR, hs⟩ := ckRg_ok hr K h.2
      exact .plain (de_tupRg K.calm (gl_of K h.1.2) (blt_of K (x := "tuple") (by decide +kernel)) hs hR) rfl
    · cases h
  | len => exact ckPr_core hr K (y := "len") h (by decide) (by decide) (by decide +kernel) (.inl ⟨_, _, PySem.boot_len, CallR.or call_len call_lenD, len_tells⟩)
  | tuple => exact ckPr_core hr K (y := "tuple") h (by decide) (by decide) (by decide +kernel) (.inr ⟨_, _, PyProof.Rows.boot_tuple, call_tupleF, tuple_tells⟩)
  | list => exact ckPr_core hr K (y := "list") h (by decide) (by decide) (by decide +kernel) (.inr ⟨_, _, PyProof.Rows.boot_list, call_list_of, list_tells⟩)
  | all => exact ckPr_core hr K (y := "all") h (by decide) (by decide) (by decide +kernel) (.inl ⟨_, _, PyProof.Rows.boot_all, cr_all K.calm, all_tells⟩)
  | any => exact ckPr_core hr K (y := "any") h (by decide) (by decide) (by decide +kernel) (.inl ⟨_, _, PyProof.Rows.boot_any, cr_any K.calm, any_tells⟩)
  | sum => exact ckPr_core hr K (y := "sum") h (by decide) (by decide) (by decide +kernel) (.inl ⟨_, _, PyProof.Rows.boot_sum, cr_sum K.calm, sum_tells⟩)
  | max2 => exact ckPr_core hr K (y := "max") h (by decide) (by decide) (by decide +kernel) (.inl ⟨_, _, PyProof.Rows.boot_max, call_max2 K.calm, max_tells⟩)
  | min2 => exact ckPr_core hr K (y := "min") h (by decide) (by decide) (by decide +kernel) (.inl ⟨_, _, PyProof.Rows.boot_min, call_min2 K.calm, min_tells⟩)
  | sorted => exact ckPr_core hr K (y := "sorted") h (by decide) (by decide) (by decide +kernel) (.inl ⟨_, _, PyProof.Rows.boot_sorted, cr_sortD K.hu, sorted_tells⟩)
  | int => exact ckPr_core hr K (y := "int") h (by decide) (by decide) (by decide +kernel) (.inr ⟨_, _, PyProof.Rows.boot_int, call_int1, int_tells⟩)
  | lenSet =>
    unfold ckPr at h
    simp only at h
    split at h
    · rename_i x p y p2 e q p3 a
      simp only [Bool.and_eq_true] at h
      obtain ⟨⟨⟨⟨⟨hx, hy⟩, h1⟩, h2⟩, h3⟩, h4⟩ := h
      have hx := eq_of_beq hx
      have hy := eq_of_beq hy
      subst hx hy
      rw [da_one (e := e)]
      exact .plain (de_lenSet K.calm (gl_of K h1) (blt_of K (x := "len") (by decide +kernel)) (gl_of K h2) (blt_of K (x := "set") (by decide +kernel)) (hr c a _ X K h4).e h3) rfl
    · cases h
  | repr => exact ckPr_core hr K (y := "repr") h (by decide) (by decide) (by decide +kernel) (.inl ⟨_, _, by decide +kernel, cr_repr K.gd K.hu, repr_tells⟩)
  | dict => exact ckPr_core hr K (y := "dict") h (by decide) (by decide) (by decide +kernel) (.inr ⟨_, _, PyProof.Rows.boot_dict, call_dictD, dict_tells⟩)
  | abs => exact ckPr_core hr K (y := "abs") h (by decide) (by decide) (by decide +kernel) (.inl ⟨_, _, by decide +kernel, call_abs, abs_tells⟩)
  | _ => cases h
def mthName : Pr → Option Str
  | .append => some "append" | .pop => some "pop" | .popAt => some "pop" | .indexOf => some "index" | .count => some "count" | .get => some "get" | .get2 => some "get" | .join => some "join" | .extend => some "extend" | _ => none
def notCall : Expr → Bool
  | .Call _ _ _ _ => false
  | _ => true
theorem base_ok2 {o : Expr} {name : Str} {env : Env} {whole : Sem Value} (h : notCall o = true) : attributeBase o name env whole = whole := by
  cases o <;> first | rfl | cases h
def ckMth (r : Ck) (c : CC) (p : Pr) (o : E) (as : List E) : Expr → Bool
  | .Call (.Attribute x name ap) es [] cp => (mthName p == some name) && notCall x && decide (es.length < 30) && (ap.endLine == cp.line) && r c o x && cks r c as es
  | _ => false
theorem tellsM (K : CtxOk X c C PS k) {p : Pr} {bx : Bool} {name : Str} (h : (mthName p == some name) = true) : TellsM X name p.kindOk (fun d ds => prim p bx (d :: ds)) := by
  have h := eq_of_beq h
  cases p with
  | append => cases h; exact append_tells
  | pop => cases h; exact pop_tells
  | popAt => cases h; exact popAt_tells
  | indexOf => cases h; exact index_tells K.hu2
  | count => cases h; exact count_tells K.hu2
  | get => cases h; exact get_tells K.hu2
  | get2 => cases h; exact get2_tells K.hu2
  | join => cases h; exact join_tells
  | extend => cases h; exact extend_tells
  | _ => cases h
theorem ckMth_ok (hr : Good C G PS k r) (K : CtxOk X c C PS k) {p : Pr} {bx : Bool} {o : E} {as : List E} {ex : Expr} (h : ckMth r c p o as ex = true) : Snd X ex (den C G (.mth p bx o as)) := by
  unfold ckMth at h
  split at h
  · rename_i x name ap es cp
    simp only [Bool.and_eq_true, decide_eq_true_eq] at h
    obtain ⟨⟨⟨⟨⟨h1, h2⟩, h3⟩, h4⟩, h5⟩, h6⟩ := h
    obtain ⟨a1, a2, a3⟩ := cks_ok hr K h6
    have T := tellsM K (bx := bx) h1
    have so := (hr c o _ X K h5).e
    cases es with
    | nil =>
      cases as with
      | nil => exact .plain (de_mth0 T so (base_ok2 h2) h4) rfl
      | cons _ _ => cases a3
    | cons e es => exact .plain (de_mth T so a1 (base_ok2 h2) h3 h4 a2) rfl
  · cases h
def ckIsi (r : Ck) (c : CC) (a : E) (t : Ty) : Expr → Bool
  | .Call (.Name x _) [e, .Name y _] [] _ => x == ("isinstance" : Str) && glB c x && glB c y && y == Str.ofString (tyName t) && noStar e && r c a e
  | _ => false
theorem ckIsi_ok (hr : Good C G PS k r) (K : CtxOk X c C PS k) {a : E} {t : Ty} {ex : Expr} (h : ckIsi r c a t ex = true) : Snd X ex (den C G (.isi a t)) := by
  unfold ckIsi at h
  split at h
  · simp only [Bool.and_eq_true] at h
    obtain ⟨⟨⟨⟨⟨hx, h1⟩, h2⟩, hy⟩, h3⟩, h4⟩ := h
    have hx := eq_of_beq hx
    have hy := eq_of_beq hy
    subst hx hy
    exact .plain (de_isi (hr c a _ X K h4).e h3 (gl_of K h1) (blt_of K (x := "isinstance") (by decide +kernel)) (gl_of K h2) (blt_of K (by cases t <;> decide +kernel)) rfl) rfl
  · cases h
def ckIsi2 (r : Ck) (c : CC) (a : E) (t u : Ty) : Expr → Bool
  | .Call (.Name x _) [e, .Tuple [.Name y _, .Name z _] _ _] [] _ => x == ("isinstance" : Str) && glB c x && glB c y && y == Str.ofString (tyName t) && glB c z && z == Str.ofString (tyName u) && noStar e && r c a e
  | _ => false
theorem ckIsi2_ok (hr : Good C G PS k r) (K : CtxOk X c C PS k) {a : E} {t u : Ty} {ex : Expr} (h : ckIsi2 r c a t u ex = true) : Snd X ex (den C G (.isi2 a t u)) := by
  unfold ckIsi2 at h
  split at h
  · simp only [Bool.and_eq_true] at h
    obtain ⟨⟨⟨⟨⟨⟨⟨hx, h1⟩, h2⟩, hy⟩, h2'⟩, hz⟩, h3⟩, h4⟩ := h
    have hx := eq_of_beq hx
    have hy := eq_of_beq hy
    have hz := eq_of_beq hz
    subst hx hy hz
    exact .plain (de_isi2 (hr c a _ X K h4).e h3 (gl_of K h1) (blt_of K (x := "isinstance") (by decide +kernel)) (gl_of K h2) (blt_of K (by cases t <;> decide +kernel)) rfl (gl_of K h2') (blt_of K (by cases u <;> decide +kernel)) rfl) rfl
  · cases h
/-! ### subscripts -/
def notSlice : Expr → Bool
  | .Slice _ _ _ _ => false
  | _ => true
theorem plainIx_of {e : Expr} (h : notSlice e = true) : PlainIx e := by
  intro o i
  cases e <;> first | rfl | cases h
def ckIx (r : Ck) (c : CC) (a b : E) : Expr → Bool
  | .Subscript x y _ => notSlice y && r c a x && r c b y
  | _ => false
theorem ckIx_ok (hr : Good C G PS k r) (K : CtxOk X c C PS k) {a b : E} {ex : Expr} (h : ckIx r c a b ex = true) : Snd X ex (den C G (.ix a b)) := by
  unfold ckIx at h
  split at h
  · simp only [Bool.and_eq_true] at h
    exact .plain (de_ix K.hu2 (plainIx_of h.1.1) (hr c a _ X K h.1.2).e (hr c b _ X K h.2).e) rfl
  · cases h
def ckO (r : Ck) (c : CC) : Option E → Option Expr → Bool
  | none, none => true
  | some a, some e => r c a e
  | _, _ => false
theorem ckO_ok (hr : Good C G PS k r) (K : CtxOk X c C PS k) : ∀ {o : Option E} {e : Option Expr}, ckO r c o e = true → DO X e (denO C G o)
  | none, none, _ => .inl ⟨rfl, rfl⟩
  | some a, some e, h => .inr ⟨e, _, rfl, (hr c a e X K h).e, rfl⟩
  | none, some _, h => by cases h
  | some _, none, h => by cases h
def ckSl (r : Ck) (c : CC) (a : E) (lo hi : Option E) : Expr → Bool
  | .Subscript x (.Slice l u none _) _ => r c a x && ckO r c lo l && ckO r c hi u
  | _ => false
theorem ckSl_ok (hr : Good C G PS k r) (K : CtxOk X c C PS k) {a : E} {bx : Bool} {lo hi : Option E} {ex : Expr} (h : ckSl r c a lo hi ex = true) : Snd X ex (den C G (.sl bx a lo hi)) := by
  unfold ckSl at h
  split at h
  · simp only [Bool.and_eq_true] at h
    exact .plain (de_sl (hr c a _ X K h.1.1).e (ckO_ok hr K h.1.2) (ckO_ok hr K h.2)) rfl
  · cases h
def ckRev (r : Ck) (c : CC) (a : E) : Expr → Bool
  | .Subscript x (.Slice none none (some (.UnaryOp .USub (.Constant cn _ _) _)) _) _ => decide (cn = .int 1) && r c a x
  | _ => false
theorem ckRev_ok (hr : Good C G PS k r) (K : CtxOk X c C PS k) {a : E} {bx : Bool} {ex : Expr} (h : ckRev r c a ex = true) : Snd X ex (den C G (.rev bx a)) := by
  unfold ckRev at h
  split at h
  · simp only [Bool.and_eq_true, decide_eq_true_eq] at h
    obtain ⟨rfl, h⟩ := h
    exact .plain (de_rev (hr c a _ X K h).e) rfl
  · cases h
def ckTup (r : Ck) (c : CC) (as : List E) : Expr → Bool
  | .Tuple es _ _ => cks r c as es
  | _ => false
theorem ckTup_ok (hr : Good C G PS k r) (K : CtxOk X c C PS k) {as : List E} {ex : Expr} (h : ckTup r c as ex = true) : Snd X ex (den C G (.tup as)) := by
  unfold ckTup at h
  split at h
  · exact .plain (de_tup (cks_ok hr K h).1) rfl
  · cases h
def ckLst (r : Ck) (c : CC) (as : List E) : Expr → Bool
  | .List es _ => cks r c as es
  | _ => false
theorem ckLst_ok (hr : Good C G PS k r) (K : CtxOk X c C PS k) {as : List E} {bx : Bool} {ex : Expr} (h : ckLst r c as ex = true) : Snd X ex (den C G (.lst bx as)) := by
  unfold ckLst at h
  split at h
  · exact .plain (de_lst (cks_ok hr K h).1) rfl
  · cases h
end
end Pw

set_option Elab.async false
set_option linter.all false
set_option maxRecDepth 100000
set_option maxHeartbeats 1000000
namespace Pw
open PySem PySem.Spec PyProof.Rows L2
/-! ### targets, what is walked, comprehensions -/
mutual
def ckT (c : CC) : Tg → Expr → Bool
  | .n i, .Name x _ => nmB c i x && stB c x
  | .tu ts, .Tuple es _ _ => ckTs c ts es
  | _, _ => false
def ckTs (c : CC) : List Tg → List Expr → Bool
  | [], [] => true
  | t :: ts, e :: es => ckT c t e && noStar e && ckTs c ts es
  | _, _ => false
end
def isTu : Tg → Bool
  | .tu _ => true
  | _ => false
section
variable {X : Cx} {c : CC} {C : Nat → List D → Sto → R D} {G : Nat → Option D} {PS : Nat → List Str} {k : Nat} {r : Ck}
theorem ckTs_len : ∀ {ts : List Tg} {es : List Expr}, ckTs c ts es = true → es.length = ts.length ∧ es.all noStar = true
  | [], [], _ => ⟨rfl, rfl⟩
  | t :: ts, e :: es, h => by
    unfold ckTs at h
    simp only [Bool.and_eq_true] at h
    obtain ⟨h1, h2⟩ := ckTs_len h.2
    exact ⟨by rw [List.length_cons, List.length_cons, h1], by rw [List.all_cons, h.1.2, h2]; rfl⟩
  | [], _ :: _, h => by cases h
  | _ :: _, [], h => by cases h
mutual
theorem ckT_ok (K : CtxOk X c C PS k) : ∀ {t : Tg} {e : Expr} {b : Bool}, ckT c t e = true → (b = true → isTu t = true) → PG X e (gT X.K t b)
  | .n i, .Name x p, b, h, hb => by
    unfold ckT at h
    simp only [Bool.and_eq_true] at h
    cases b with
    | true => exact absurd (hb rfl) (by simp [isTu])
    | false =>
      obtain ⟨h1, h2⟩ := st_of K h.2
      exact dg_name (by rw [K.N]; exact K.nd) (nm_of K h.1) h1 h2
  | .tu ts, .Tuple es kk p, b, h, _ => by
    unfold ckT at h
    obtain ⟨h1, h2⟩ := ckTs_len h
    exact dg_tup K.calm (ckTs_ok K h) h1 h2
  | .n _, .BoolOp .., _, h, _ => by cases h
  | .n _, .NamedExpr .., _, h, _ => by cases h
  | .n _, .BinOp .., _, h, _ => by cases h
  | .n _, .UnaryOp .., _, h, _ => by cases h
  | .n _, .Lambda .., _, h, _ => by cases h
  | .n _, .IfExp .., _, h, _ => by cases h
  | .n _, .Dict .., _, h, _ => by cases h
  | .n _, .Set .., _, h, _ => by cases h
  | .n _, .ListComp .., _, h, _ => by cases h
  | .n _, .SetComp .., _, h, _ => by cases h
  | .n _, .DictComp .., _, h, _ => by cases h
  | .n _, .GeneratorExp .., _, h, _ => by cases h
  | .n _, .Await .., _, h, _ => by cases h
  | .n _, .Yield .., _, h, _ => by cases h
  | .n _, .YieldFrom .., _, h, _ => by cases h
  | .n _, .Compare .., _, h, _ => by cases h
  | .n _, .Call .., _, h, _ => by cases h
  | .n _, .FormattedValue .., _, h, _ => by cases h
  | .n _, .JoinedStr .., _, h, _ => by cases h
  | .n _, .Constant .., _, h, _ => by cases h
  | .n _, .Attribute .., _, h, _ => by cases h
  | .n _, .Subscript .., _, h, _ => by cases h
  | .n _, .Starred .., _, h, _ => by cases h
  | .n _, .List .., _, h, _ => by cases h
  | .n _, .Tuple .., _, h, _ => by cases h
  | .n _, .Slice .., _, h, _ => by cases h
  | .tu _, .BoolOp .., _, h, _ => by cases h
  | .tu _, .NamedExpr .., _, h, _ => by cases h
  | .tu _, .BinOp .., _, h, _ => by cases h
  | .tu _, .UnaryOp .., _, h, _ => by cases h
  | .tu _, .Lambda .., _, h, _ => by cases h
  | .tu _, .IfExp .., _, h, _ => by cases h
  | .tu _, .Dict .., _, h, _ => by cases h
  | .tu _, .Set .., _, h, _ => by cases h
  | .tu _, .ListComp .., _, h, _ => by cases h
  | .tu _, .SetComp .., _, h, _ => by cases h
  | .tu _, .DictComp .., _, h, _ => by cases h
  | .tu _, .GeneratorExp .., _, h, _ => by cases h
  | .tu _, .Await .., _, h, _ => by cases h
  | .tu _, .Yield .., _, h, _ => by cases h
  | .tu _, .YieldFrom .., _, h, _ => by cases h
  | .tu _, .Compare .., _, h, _ => by cases h
  | .tu _, .Call .., _, h, _ => by cases h
  | .tu _, .FormattedValue .., _, h, _ => by cases h
  | .tu _, .JoinedStr .., _, h, _ => by cases h
  | .tu _, .Constant .., _, h, _ => by cases h
  | .tu _, .Attribute .., _, h, _ => by cases h
  | .tu _, .Subscript .., _, h, _ => by cases h
  | .tu _, .Starred .., _, h, _ => by cases h
  | .tu _, .Name .., _, h, _ => by cases h
  | .tu _, .List .., _, h, _ => by cases h
  | .tu _, .Slice .., _, h, _ => by cases h
theorem ckTs_ok (K : CtxOk X c C PS k) : ∀ {ts : List Tg} {es : List Expr}, ckTs c ts es = true → PGs X es (gTs X.K ts)
  | [], [], _ => dgs_nil
  | t :: ts, e :: es, h => by
    unfold ckTs at h
    simp only [Bool.and_eq_true] at h
    exact dgs_cons (ckT_ok K h.1.1 (fun z => nomatch z)) (ckTs_ok K h.2) h.1.2
  | [], _ :: _, h => by cases h
  | _ :: _, [], h => by cases h
end
def pairI : I → Bool
  | .enum _ => true
  | .zip _ _ => true
  | .zip3 _ _ _ => true
  | _ => false
def isTupE : Expr → Bool
  | .Tuple _ _ _ => true
  | _ => false
def ckI (r : Ck) (c : CC) (it : I) (ex : Expr) : Bool :=
  match it with
  | .e a => r c a ex && notSet ex
  | .rng as => (match ex with
    | .Call (.Name x _) es [] _ => x == ("range" : Str) && glB c x && cks r c as es && (as.length == 1 || as.length == 2)
    | _ => false)
  | .enum a => (match ex with
    | .Call (.Name x _) [e] [] _ => x == ("enumerate" : Str) && glB c x && noStar e && r c a e
    | _ => false)
  | .zip a b => (match ex with
    | .Call (.Name x _) [e, e2] [] _ => x == ("zip" : Str) && glB c x && noStar e && noStar e2 && r c a e && r c b e2
    | _ => false)
  | .zip3 a b d => (match ex with
    | .Call (.Name x _) [e, e2, e3] [] _ => x == ("zip" : Str) && glB c x && noStar e && noStar e2 && noStar e3 && r c a e && r c b e2 && r c d e3
    | _ => false)
theorem ckI_ok (hr : Good C G PS k r) (K : CtxOk X c C PS k) {it : I} {ex tg : Expr} (h : ckI r c it ex = true) (ht : pairI it = true → isTupE tg = true) : DI X tg ex (pairI it) (denI C G it) ∧ notSet ex = true := by
  cases it with
  | e a =>
    unfold ckI at h
    simp only [Bool.and_eq_true] at h
    exact ⟨di_e (hr c a _ X K h.1).e, h.2⟩
  | rng as =>
    unfold ckI at h
    simp only at h
    split at h
    · rename_i x p es p2
      simp only [Bool.and_eq_true, Bool.or_eq_true] at h
      obtain ⟨⟨⟨hx, hg⟩, hs⟩, hn⟩ := h
      have hx := eq_of_beq hx
      subst hx
      have hG := gl_of K hg
      have hM := blt_of K (x := "range") (by decide +kernel)
      obtain ⟨a1, a2, a3⟩ := cks_ok hr K hs
      refine ⟨?_, rfl⟩
      show DI X tg _ false (fun e S => (dens C G as e S).bind fun xs S1 => R.opt S1 ((rangeOf as.length xs).map fun q => ⟨rangeD q.1 q.2, []⟩))
      rcases hn with hn | hn
      · have hn := eq_of_beq hn
        rw [hn]
        match es, a3 with
        | [e], _ =>
          simp only [List.all_cons, List.all_nil, Bool.and_true] at a2
          exact di_rng1 hG hM a1 a2
        | [], a3 => rw [hn] at a3; cases a3
        | _ :: _ :: _, a3 => rw [hn] at a3; simp at a3
      · have hn := eq_of_beq hn
        rw [hn]
        match es, a3 with
        | [e, e2], _ =>
          simp only [List.all_cons, List.all_nil, Bool.and_true, Bool.and_eq_true] at a2
          exact di_rng2 hG hM a1 a2.1 a2.2
        | [], a3 => rw [hn] at a3; cases a3
        | [_], a3 => rw [hn] at a3; simp at a3
        | _ :: _ :: _ :: _, a3 => rw [hn] at a3; simp at a3
    · cases h
  | enum a =>
    unfold ckI at h
    simp only at h
    split at h
    · simp only [Bool.and_eq_true] at h
      obtain ⟨⟨⟨hx, hg⟩, hs⟩, h1⟩ := h
      have hx := eq_of_beq hx
      subst hx
      have htt := ht rfl
      cases tg with
      | Tuple elts kk tpos => exact ⟨di_enum (gl_of K hg) (blt_of K (x := "enumerate") (by decide +kernel)) (hr c a _ X K h1).e hs, rfl⟩
      | _ => cases htt
    · cases h
  | zip a b =>
    unfold ckI at h
    simp only at h
    split at h
    · simp only [Bool.and_eq_true] at h
      obtain ⟨⟨⟨⟨⟨hx, hg⟩, hs⟩, hs2⟩, h1⟩, h2⟩ := h
      have hx := eq_of_beq hx
      subst hx
      have htt := ht rfl
      cases tg with
      | Tuple elts kk tpos => exact ⟨di_zip2 (gl_of K hg) (blt_of K (x := "zip") (by decide +kernel)) (hr c a _ X K h1).e (hr c b _ X K h2).e hs hs2, rfl⟩
      | _ => cases htt
    · cases h
  | zip3 a b d =>
    unfold ckI at h
    simp only at h
    split at h
    · simp only [Bool.and_eq_true] at h
      obtain ⟨⟨⟨⟨⟨⟨⟨hx, hg⟩, hs⟩, hs2⟩, hs3⟩, h1⟩, h2⟩, h3⟩ := h
      have hx := eq_of_beq hx
      subst hx
      have htt := ht rfl
      cases tg with
      | Tuple elts kk tpos => exact ⟨di_zip3 (gl_of K hg) (blt_of K (x := "zip") (by decide +kernel)) (hr c a _ X K h1).e (hr c b _ X K h2).e (hr c d _ X K h3).e hs hs2 hs3, rfl⟩
      | _ => cases htt
    · cases h
def ownP (c : CC) (own : List Nat) : List (Str × Nat) := own.map fun i => (c.N.getD i ⟨#[]⟩, i)
theorem ownP_snd (c : CC) (own : List Nat) : (ownP c own).map (·.2) = own := by
  unfold ownP
  rw [List.map_map]
  induction own with
  | nil => rfl
  | cons a l ih => rw [List.map_cons, ih]; rfl
def ckIfs (r : Ck) (c : CC) : Option E → List Expr → Bool
  | none, [] => true
  | some a, [e] => r c a e && !isIte e
  | _, _ => false
theorem ckIfs_ok (hr : Good C G PS k r) (K : CtxOk X c C PS k) {o : Option E} {ifs : List Expr} (h : ckIfs r c o ifs = true) {W : WX} (tk : Takes X W) : PTs X ifs (tT X.K X.mg (denT C G o) W) := by
  unfold ckIfs at h
  split at h
  · exact pts_of (.inl ⟨rfl, rfl⟩)
  · simp only [Bool.and_eq_true, Bool.not_eq_true'] at h
    exact pts_of (.inr ⟨_, rfl, ((hr c _ _ X K h.1).t h.2).canon tk⟩)
  · cases h
def isFun (s : Scope) : Bool := match s.kind with | .function => true | _ => false
theorem isFun_of {s : Scope} (h : isFun s = true) : s.kind = .function := by
  unfold isFun at h
  split at h
  · assumption
  · cases h
/-- what a comprehension of the text is -/
def ckComp (r : Ck) (c : CC) (tg : Tg) (it : I) (own : List Nat) (ifs : Option E) (elt : E) : Expr → Bool
  | .ListComp elt' [⟨tg', iter', ifs', asy⟩] scope _ => decide (asy = 0) && isFun scope && blkC c.N c.sc scope (ownP c own) && ckI r c it iter' && (!pairI it || (isTupE tg' && isTu tg)) && tg.slots.all (fun j => own.contains j) &&
      ckT (c.blk scope) tg tg' && ckIfs r (c.blk scope) ifs ifs' && r (c.blk scope) elt elt'
  | _ => false
/-- what the rules of a comprehension want -/
structure CompOk (X : Cx) (C : Nat → List D → Sto → R D) (G : Nat → Option D) (own : List Nat) (tg : Tg) (it : I) (ifs : Option E) (elt : E) (ownS : List (Str × Nat)) (scope : Scope) (tg' iter' : Expr) (ifs' : List Expr) (elt' : Expr) : Prop where
  f_own : ownS.map (·.2) = own
  f_it : DI X tg' iter' (pairI it) (denI C G it)
  f_ns : notSet iter' = true
  f_blk : BlkOk X.N X.env.scope scope ownS
  f_tg : ∀ (s : Shared) (H : Hp) (C : Addr) (cl : List (Str × Addr)) (fp : List Addr), PG (X.blk s H scope (compEnvC scope cl C X.env) fp) tg' (gT X.K tg (pairI it))
  f_ifs : ∀ (s : Shared) (H : Hp) (Ca : Addr) (cl : List (Str × Addr)) (fp : List Addr), PTs (X.blk s H scope (compEnvC scope cl Ca X.env) fp) ifs' (tT X.K X.mg (denT C G ifs) W0)
  f_elt : ∀ (s : Shared) (H : Hp) (Ca : Addr) (cl : List (Str × Addr)) (fp : List Addr), PE (X.blk s H scope (compEnvC scope cl Ca X.env) fp) elt' (tE X.K X.mg (den C G elt).v W0)
  f_sl : ∀ j ∈ tg.slots, j ∈ own
theorem ckComp_ok (hr : Good C G PS k r) (K : CtxOk X c C PS k) {tg : Tg} {it : I} {own : List Nat} {ifs : Option E} {elt : E} {ex : Expr} (h : ckComp r c tg it own ifs elt ex = true) :
    ∃ elt' tg' iter' ifs' scope pos, ex = .ListComp elt' [⟨tg', iter', ifs', 0⟩] scope pos ∧ CompOk X C G own tg it ifs elt (ownP c own) scope tg' iter' ifs' elt' := by
  unfold ckComp at h
  split at h
  · rename_i elt' tg' iter' ifs' asy scope pos
    simp only [Bool.and_eq_true, decide_eq_true_eq] at h
    obtain ⟨⟨⟨⟨⟨⟨⟨⟨rfl, hf⟩, hb⟩, hi⟩, hp⟩, hsl⟩, ht⟩, hif⟩, he⟩ := h
    have hf := isFun_of hf
    have hpp : pairI it = true → isTupE tg' = true ∧ isTu tg = true := fun z => by
      rw [z] at hp
      simpa using hp
    obtain ⟨i1, i2⟩ := ckI_ok hr K hi fun z => (hpp z).1
    refine ⟨elt', tg', iter', ifs', scope, pos, rfl, ownP_snd c own, i1, i2, ?_, fun s H Ca cl fp => ?_, fun s H Ca cl fp => ?_, fun s H Ca cl fp => ?_, fun j hj => ?_⟩
    · rw [K.N, K.sc]; exact blkOk_by hb
    · exact ckT_ok (K.blk hf s H Ca cl fp) ht fun z => (hpp z).2
    · exact ckIfs_ok hr (K.blk hf s H Ca cl fp) hif takes0
    · exact (hr _ _ _ _ (K.blk hf s H Ca cl fp) he).e.canon takes0
    · have := List.all_eq_true.mp hsl j hj
      simpa using this
  · cases h
theorem comp_den {tg : Tg} {it : I} {own : List Nat} {ifs : Option E} {elt : E} {bx : Bool} {elt' tg' iter' : Expr} {ifs' : List Expr} {scope : Scope} {pos : Pos} {ownS : List (Str × Nat)} (K : CtxOk X c C PS k) (h : CompOk X C G own tg it ifs elt ownS scope tg' iter' ifs' elt') :
    Snd X (.ListComp elt' [⟨tg', iter', ifs', 0⟩] scope pos) (den C G (.comp bx tg it own ifs elt)) := by
  have z := de_comp (bx := bx) (pos := pos) K.calm (by rw [K.N]; exact K.nd) h.f_it h.f_blk h.f_tg h.f_ifs h.f_elt (by rw [h.f_own]; exact h.f_sl) h.f_ns
  rw [h.f_own] at z
  exact .plain z rfl
def ckD0 : Expr → Bool
  | .Dict [] [] _ => true
  | _ => false
theorem ckD0_ok {bx : Bool} {ex : Expr} (h : ckD0 ex = true) : Snd X ex (den C G (.dct0 bx)) := by
  unfold ckD0 at h
  split at h
  · refine .plain (fun W tk => ⟨_, pe_dnewK, fun σ H M env S Q re rs h => ?_⟩) rfl
    intro p hp
    exact WPE.mkD (bx := bx) rs h [] p rfl .nil hp
  · cases h
/-- a dict's comprehension -/
def ckDc (r : Ck) (c : CC) (tg : Tg) (it : I) (own : List Nat) (ke ve : E) : Expr → Bool
  | .DictComp k' v' [⟨tg', iter', [], asy⟩] scope _ => decide (asy = 0) && isFun scope && blkC c.N c.sc scope (ownP c own) && ckI r c it iter' && (!pairI it || (isTupE tg' && isTu tg)) && tg.slots.all (fun j => own.contains j) &&
      ckT (c.blk scope) tg tg' && r (c.blk scope) ke k' && r (c.blk scope) ve v'
  | _ => false
theorem ckDc_ok (hr : Good C G PS k r) (K : CtxOk X c C PS k) {tg : Tg} {it : I} {own : List Nat} {ke ve : E} {bx : Bool} {ex : Expr} (h : ckDc r c tg it own ke ve ex = true) : Snd X ex (den C G (.dcomp bx tg it own ke ve)) := by
  unfold ckDc at h
  split at h
  · rename_i k' v' tg' iter' asy scope pos
    simp only [Bool.and_eq_true, decide_eq_true_eq] at h
    obtain ⟨⟨⟨⟨⟨⟨⟨⟨rfl, hf⟩, hb⟩, hi⟩, hp⟩, hsl⟩, ht⟩, hk⟩, he⟩ := h
    have hf := isFun_of hf
    have hpp : pairI it = true → isTupE tg' = true ∧ isTu tg = true := fun z => by
      rw [z] at hp
      simpa using hp
    obtain ⟨i1, i2⟩ := ckI_ok (G := G) hr K hi fun z => (hpp z).1
    have z := de_dcomp (bx := bx) (pos := pos) (own := ownP c own) (tgI := tg) (b := pairI it) (vI := denI C G it) (ke := (den C G ke).v) (ve := (den C G ve).v) K.calm (by rw [K.N]; exact K.nd) i1 (by rw [K.N, K.sc]; exact blkOk_by hb)
      (fun s H Ca cl fp => ckT_ok (K.blk hf s H Ca cl fp) ht fun z => (hpp z).2)
      (fun s H Ca cl fp => (hr _ _ _ _ (K.blk hf s H Ca cl fp) hk).e.canon takes0)
      (fun s H Ca cl fp => (hr _ _ _ _ (K.blk hf s H Ca cl fp) he).e.canon takes0)
      (fun j hj => by rw [ownP_snd]; have := List.all_eq_true.mp hsl j hj; simpa using this) i2
    rw [ownP_snd] at z
    exact .plain z rfl
  · cases h
/-! ### all constructors -/
def single : Expr → Option Expr
  | .BoolOp _ [e] _ => some e
  | _ => none
def ckStep (r : Ck) : Ck := fun c ir ex => match single ex with
  | some e => r c ir e && !isIte e
  | none => match ir with
    | .v i => ckV c i ex
    | .k d => ckK c d ex
    | .g _ => false
    | .bin o _ a b => ckBin r c o a b ex
    | .neg a => ckNeg r c a ex
    | .cmp o a b => ckCmp r c o a b ex
    | .cmp2 o o' a b d => ckCmp2 r c o o' a b d ex
    | .isk ng a d => ckIsk r c ng a d ex
    | .and a b => ckAnd r c a b ex
    | .or a b => ckOr r c a b ex
    | .not a => ckNot r c a ex
    | .ite t a b => ckIte r c t a b ex
    | .call f as => ckCall r c f as ex
    | .callk f as bs ord => ckCallk r c f as bs ord ex
    | .pr p _ as => ckPr r c p as ex
    | .isi a t => ckIsi r c a t ex
    | .isi2 a t u => ckIsi2 r c a t u ex
    | .bad => plainB ex
    | .ix a b => ckIx r c a b ex
    | .sl _ a lo hi => ckSl r c a lo hi ex
    | .rev _ a => ckRev r c a ex
    | .tup as => ckTup r c as ex
    | .lst _ as => ckLst r c as ex
    | .dct0 _ => ckD0 ex
    | .mth p _ o as => ckMth r c p o as ex
    | .comp _ tg it own ifs elt => ckComp r c tg it own ifs elt ex
    | .dcomp _ tg it own ke ve => ckDc r c tg it own ke ve ex
theorem ckStep_ok (hr : Good C G PS k r) : Good C G PS k (ckStep r) := by
  intro c ir ex X K h
  unfold ckStep at h
  split at h
  · rename_i e he
    simp only [Bool.and_eq_true, Bool.not_eq_true'] at h
    have s := hr c ir e X K h.1
    unfold single at he
    split at he
    · rename_i op e' pos
      cases he
      have w : DW X (.BoolOp op [e] pos) (den C G ir).t := by
        cases op
        · exact dw_and1 (s.t h.2)
        · exact dw_or1 (s.t h.2)
      exact ⟨de_one s.e, fun _ => w.dt, fun _ _ _ _ => w⟩
    · cases he
  · cases ir with
    | v i => exact ckV_ok K h
    | k d => exact ckK_ok K h
    | bin o bx a b => exact ckBin_ok hr K h
    | neg a => exact ckNeg_ok hr K h
    | cmp o a b => exact ckCmp_ok hr K h
    | cmp2 o o' a b d => exact ckCmp2_ok hr K h
    | isk ng a d => exact ckIsk_ok hr K h
    | and a b => exact ckAnd_ok hr K h
    | or a b => exact ckOr_ok hr K h
    | not a => exact ckNot_ok hr K h
    | ite t a b => exact ckIte_ok hr K h
    | call f as => exact ckCall_ok hr K h
    | callk f as bs ord => exact ckCallk_ok hr K h
    | pr p bx as => exact ckPr_ok hr K h
    | isi a t => exact ckIsi_ok hr K h
    | isi2 a t u => exact ckIsi2_ok hr K h
    | bad => exact ckBad_ok h
    | ix a b => exact ckIx_ok hr K h
    | sl bx a lo hi => exact ckSl_ok hr K h
    | rev bx a => exact ckRev_ok hr K h
    | tup as => exact ckTup_ok hr K h
    | lst bx as => exact ckLst_ok hr K h
    | mth p bx o as => exact ckMth_ok hr K h
    | comp bx tg it own ifs elt =>
      obtain ⟨elt', tg', iter', ifs', scope, pos, rfl, z⟩ := ckComp_ok hr K h
      exact comp_den K z
    | g _ => cases h
    | dct0 bx => exact ckD0_ok h
    | dcomp bx tg it own ke ve => exact ckDc_ok hr K h
/-- so many levels deep -/
def ckN : Nat → Ck
  | 0 => fun _ _ _ => false
  | n + 1 => ckStep (ckN n)
theorem ckN_ok : ∀ n, Good C G PS k (ckN n)
  | 0 => fun _ _ _ _ _ h => nomatch h
  | n + 1 => ckStep_ok (ckN_ok n)
end
end Pw

set_option Elab.async false
set_option linter.all false
set_option maxRecDepth 100000
set_option maxHeartbeats 1000000
namespace Pw
open PySem PySem.Spec PyProof.Rows L2
/-! ## the check of statements -/
def locName (sc : Scope) (line : Nat) : Expr → Option Str
  | .Name id pos => if sc.names.lookup id == some .local && pos.line == line then some id else none
  | _ => none
theorem locName_eq (env : Env) (line : Nat) : (fun e : Expr => match e with
    | .Name id pos => if (env.kindOf id == some .local && pos.line == line) = true then some id else none
    | _ => none) = locName env.scope line := by
  funext e
  cases e <;> rfl
def lineOf (ts : List Expr) : Nat := (ts.head?.map (·.pos.line)).getD 0
/-- no stores are swapped -/
def swNone (sc : Scope) (ts vs : List Expr) : Bool := (ts.filterMap (locName sc (lineOf ts))).length != ts.length || vs.all (foldedForSure 8)
theorem swNone_of {env : Env} {ts vs : List Expr} {k1 k2 : Nat} {p1 p2 : Pos} (h : swNone env.scope ts vs = true) : swappedStores [.Tuple ts k1 p1] (.Tuple vs k2 p2) env = pure none := by
  unfold swNone at h
  rw [Bool.or_eq_true] at h
  unfold swappedStores
  simp only [locName_eq]
  split
  · rfl
  · split
    · rfl
    · split
      · rfl
      · rename_i h3
        rcases h with h | h
        · exact absurd (by rw [Bool.or_eq_true]; exact .inl h) h3
        · rw [if_pos h]
def swPar (sc : Scope) (x y : Str) (px py : Pos) (a b : Expr) : Bool :=
  (sc.names.lookup x == some .local) && (sc.names.lookup y == some .local) && (px.line == py.line) && !(x == y) && noStar a && noStar b && !([a, b].all (foldedForSure 8)) && !([a, b].all (constantsAlone 8))
theorem swPar_of {env : Env} {x y : Str} {px py p1 p2 : Pos} {k1 k2 : Nat} {a b : Expr} (hk : env.scope.kind = .function) (h : swPar env.scope x y px py a b = true) :
    swappedStores [.Tuple [.Name x px, .Name y py] k1 p1] (.Tuple [a, b] k2 p2) env = pure (some [x, y]) := by
  unfold swPar at h
  simp only [Bool.and_eq_true, Bool.not_eq_true'] at h
  obtain ⟨⟨⟨⟨⟨⟨⟨h1, h2⟩, h3⟩, h4⟩, h5⟩, h6⟩, h7⟩, h8⟩ := h
  have hb : env.blockKind = .function := by unfold Env.blockKind; rw [hk]; rfl
  have hn : ([Expr.Name x px, Expr.Name y py].filterMap (locName env.scope (lineOf [Expr.Name x px, Expr.Name y py]))) = [x, y] := by
    have e1 : lineOf [Expr.Name x px, Expr.Name y py] = px.line := rfl
    rw [e1]
    simp only [List.filterMap_cons, List.filterMap_nil, locName, h1, h2, beq_self_eq_true, Bool.and_self, if_true, Bool.true_and]
    have : (py.line == px.line) = true := by rw [beq_iff_eq] at h3 ⊢; exact h3.symm
    simp [this]
  have hd : [x, y].eraseDups.length = 2 := by
    have hyx : (y == x) = false := by
      cases e : y == x with
      | false => rfl
      | true => rw [eq_of_beq e] at h4; simp at h4
    simp [List.eraseDups, List.eraseDupsBy, List.eraseDupsBy.loop, h4, hyx]
  unfold swappedStores
  have hT : ∀ b : Bool, b = false → ¬ (b = true) := fun b h => by rw [h]; exact Bool.false_ne_true
  refine (if_neg (hT _ (by rw [hb]; rfl))).trans ((if_neg (fun h => ?_)).trans ((if_neg (fun h => ?_)).trans ((if_neg (hT _ h7)).trans ((if_neg (hT _ h8)).trans ?_))))
  · obtain ⟨e, he, hs⟩ := List.any_eq_true.mp h
    simp only [List.mem_cons, List.not_mem_nil, or_false] at he
    rcases he with rfl | rfl
    · cases e <;> first | (cases hs; done) | (cases h5; done)
    · cases e <;> first | (cases hs; done) | (cases h6; done)
  · replace h : ((([Expr.Name x px, Expr.Name y py].filterMap (locName env.scope (lineOf [Expr.Name x px, Expr.Name y py]))).length != 2) || (([Expr.Name x px, Expr.Name y py].filterMap (locName env.scope (lineOf [Expr.Name x px, Expr.Name y py]))).eraseDups.length != ([Expr.Name x px, Expr.Name y py].filterMap (locName env.scope (lineOf [Expr.Name x px, Expr.Name y py]))).length)) = true := h
    rw [hn, hd] at h
    cases h
  · exact congrArg (fun l : List Str => (pure (some l) : Sem (Option (List Str)))) hn
/-- whether the display's list is stored at once -/
def swLc (sc : Scope) (x : Str) (px : Pos) (scope : Scope) (p : Pos) : Bool := (sc.names.lookup x == some .local) && (px.line == p.line) && !(scope.names.any fun (n, k) => n == x && (k == .local || k == .cell))
theorem swLc_of {env : Env} {elt : Expr} {gs : List Comprehension} {scope : Scope} {p py : Pos} {y : Str} {l : Nat} (hk : env.scope.kind = .function) : swapsWith (.ListComp elt gs scope p) (some (.Name y py)) l env = pure (swLc env.scope y py scope p) := by
  have hb : env.blockKind = .function := by unfold Env.blockKind; rw [hk]; rfl
  unfold swapsWith swLc
  simp only [hb, Expr.pos]
  rfl
/-- what is not reached -/
theorem ds_bad {X : Cx} {st : Stmt} : DS X st (fun _ _ => .bad) := fun W tk => ⟨fun pins s σ H D I ⟨M, env, S, re, rs, h⟩ => h.elim⟩
/-! ### one statement -/
def ckAsg (n : Nat) (c : CC) (t : Tg) (a : E) (tg e : Expr) : Bool :=
  match t with
  | .n i => (match tg with
    | .Name x px => nmB c i x && stB c x && (match e with
      | .ListComp elt gs scope p => if swLc c.sc x px scope p then (match a with
          | .comp _ tg it own ifs el => ckComp (ckN n) c tg it own ifs el (.ListComp elt gs scope p)
          | _ => false) else ckN (n + 1) c a (.ListComp elt gs scope p)
      | e => !isComp e && ckN (n + 1) c a e)
    | _ => false)
  | .tu ts => (match tg with
    | .Tuple es _ _ => (match e with
      | .Tuple vs _ _ => if swNone c.sc es vs then ckTs c ts es && ckN (n + 1) c a e else
        (match es, vs, ts, a with
          | [.Name x px, .Name y py], [ea, eb], [.n i, .n j], .tup as => swPar c.sc x y px py ea eb && nmB c i x && nmB c j y && !(i == j) && cks (ckN n) c as [ea, eb]
          | _, _, _, _ => false)
      | e => !isComp e && ckTs c ts es && ckN (n + 1) c a e)
    | _ => false)
def ckSub (n : Nat) (c : CC) (o i a : E) (tg e : Expr) : Bool :=
  match tg with
  | .Subscript o' i' _ => notSlice i' && !isComp e && ckN n c o o' && ckN n c i i' && ckN n c a e
  | _ => false
mutual
def ckS (n : Nat) (c : CC) : SI → Stmt → Bool
  | .expr a, .Expr e _ => !isComp e && ckN n c a e
  | .ret a, .Return (some e) _ => ckN n c a e
  | .ret0, .Return none _ => true
  | .asg (.g t) a, .Assign [tg] e _ => ckAsg n c t a tg e
  | .asg (.sub o i) a, .Assign [tg] e _ => ckSub n c o i a tg e
  | .ite t a b, .If e x y _ => ckN n c t e && !isIte e && ckSs n c a x && ckSs n c b y
  | .for_ tg it b, .For tg' iter body [] _ => ckI (ckN n) c it iter && (!pairI it || (isTupE tg' && isTu tg)) && ckT c tg tg' && ckSs n c b body
  | .while_ t b, .While e body [] _ => ckN n c t e && !isIte e && ckSs n c b body
  | .pass, .Pass _ => true
  | .bad, _ => true
  | .aug i o a, .AugAssign (.Name x _) op e _ => nmB c i x && stB c x && !isComp e && ckN n c a e && ((o == .add && op == .Add) || (o == .sub && op == .Sub))
  | _, _ => false
def ckSs (n : Nat) (c : CC) : List SI → List Stmt → Bool
  | [], [] => true
  | s :: ss, t :: ts => ckS n c s t && ckSs n c ss ts
  | _, _ => false
end
section
variable {X : Cx} {c : CC} {C : Nat → List D → Sto → R D} {G : Nat → Option D} {PS : Nat → List Str} {k : Nat} {n : Nat} {pos : Pos}
theorem fun_kind (K : CtxOk X c C PS k) : X.env.scope.kind = .function := by rw [K.sc]; exact K.kind
theorem nodup_ (K : CtxOk X c C PS k) : X.N.Nodup := by rw [K.N]; exact K.nd
theorem ckAsg_ok (K : CtxOk X c C PS k) {t : Tg} {a : E} {tg e : Expr} (h : ckAsg n c t a tg e = true) : DS X (.Assign [tg] e pos) (denS C G (.asg (.g t) a)) := by
  show DS X _ (fun env S => ((den C G a).v env S).st env fun x S1 => optS (Tg.put t x S1 env) fun e1 => .nx e1 S1)
  have scE : c.sc = X.env.scope := K.sc.symm
  cases t with
  | n i =>
    unfold ckAsg at h
    simp only at h
    split at h
    · rename_i x px
      rw [Bool.and_eq_true, Bool.and_eq_true] at h
      obtain ⟨⟨hn, hst⟩, h⟩ := h
      obtain ⟨l1, l2⟩ := st_of K hst
      split at h
      · rename_i elt gs scope p
        split at h
        · rename_i hsw
          rw [scE] at hsw
          split at h
          · rename_i bx tg it own ifs el
            obtain ⟨elt', tg', iter', ifs', scope', pos', e1, z⟩ := ckComp_ok (ckN_ok n) K h
            cases e1
            have hl : X.env.scope.names.lookup x = some .local := by
              unfold swLc at hsw
              simp only [Bool.and_eq_true] at hsw
              exact eq_of_beq hsw.1.1
            have q := ds_setLc (pos := pos) (bx := bx) K.calm (nodup_ K) (nm_of K hn) hl (by rw [swLc_of (fun_kind K), hsw]) z.f_it z.f_blk z.f_tg z.f_ifs z.f_elt (by rw [z.f_own]; exact z.f_sl) z.f_ns
            rw [z.f_own] at q
            exact q
          · cases h
        · rename_i hsw
          rw [scE] at hsw
          have hsw := Bool.eq_false_iff.mpr hsw
          exact ds_set (nodup_ K) (nm_of K hn) l1 (ckN_ok (n + 1) c a _ X K h).e (by rw [swLc_of (fun_kind K), hsw]) l2
      · rw [Bool.and_eq_true, Bool.not_eq_true'] at h
        exact ds_set (nodup_ K) (nm_of K hn) l1 (ckN_ok (n + 1) c a _ X K h.2).e (sw_nc h.1) l2
    · cases h
  | tu ts =>
    unfold ckAsg at h
    simp only at h
    split at h
    · rename_i es kk p
      split at h
      · rename_i vs k2 p2
        split at h
        · rename_i hsw
          rw [scE] at hsw
          rw [Bool.and_eq_true] at h
          obtain ⟨z1, z2⟩ := ckTs_len h.1
          exact ds_asg (ckN_ok (n + 1) c a _ X K h.2).e (dg_tup K.calm (ckTs_ok K h.1) z1 z2) rfl (swNone_of hsw) rfl
        · split at h
          · rename_i x px y py ea eb i j as _
            simp only [Bool.and_eq_true, Bool.not_eq_true'] at h
            obtain ⟨⟨⟨⟨hp, h1⟩, h2⟩, h3⟩, h4⟩ := h
            rw [scE] at hp
            have hp' := hp
            unfold swPar at hp'
            simp only [Bool.and_eq_true] at hp'
            have hx := eq_of_beq hp'.1.1.1.1.1.1.1
            have hy := eq_of_beq hp'.1.1.1.1.1.1.2
            obtain ⟨a1, a2, _⟩ := cks_ok (ckN_ok n) K h4
            exact ds_par K.calm (nodup_ K) (nm_of K h1) (nm_of K h2) (by simpa using h3) hx hy a1 (swPar_of (fun_kind K) hp)
          · cases h
      · rename_i e' hne
        simp only [Bool.and_eq_true, Bool.not_eq_true'] at h
        obtain ⟨z1, z2⟩ := ckTs_len h.1.2
        refine ds_asg (ckN_ok (n + 1) c a _ X K h.2).e (dg_tup K.calm (ckTs_ok K h.1.2) z1 z2) (show swapsWith e (some (.Tuple es kk p)) pos.line X.env = pure false from sw_nc h.1.1) ?_ rfl
        cases e with
        | Tuple vs k2 p2 => exact absurd rfl (hne vs k2 p2)
        | _ => rfl
    · cases h
theorem ckSub_ok (K : CtxOk X c C PS k) {o i a : E} {tg e : Expr} (h : ckSub n c o i a tg e = true) : DS X (.Assign [tg] e pos) (denS C G (.asg (.sub o i) a)) := by
  unfold ckSub at h
  split at h
  · rename_i o' i' p'
    simp only [Bool.and_eq_true, Bool.not_eq_true'] at h
    obtain ⟨⟨⟨⟨h1, h2⟩, h3⟩, h4⟩, h5⟩ := h
    exact ds_sub K.hu2 (ckN_ok n c a _ X K h5).e (ckN_ok n c o _ X K h3).e (ckN_ok n c i _ X K h4).e h2 (by intro v; cases i' <;> first | rfl | cases h1)
  · cases h
/-- what a statement's rules want besides -/
abbrev HP (X : Cx) : Prop := PassesOwn (model X.prog X.w) X.A X.env X.xe
theorem snd (K : CtxOk X c C PS k) {a : E} {e : Expr} (h : ckN n c a e = true) : Snd X e (den C G a) := ckN_ok n c a e X K h
mutual
theorem ckS_ok (hp : HP X) (K : CtxOk X c C PS k) : ∀ (s : SI) (st : Stmt), ckS n c s st = true → DS X st (denS C G s)
  | s, st, h => by
    unfold ckS at h
    split at h
    · rw [Bool.and_eq_true, Bool.not_eq_true'] at h
      exact ds_expr (snd K h.2).e h.1
    · exact ds_ret (snd K h).e
    · exact ds_ret0
    · exact ckAsg_ok K h
    · exact ckSub_ok K h
    · simp only [Bool.and_eq_true, Bool.not_eq_true'] at h
      exact ds_if ((snd K h.1.1.1).t h.1.1.2) (ckSs_ok hp K _ _ h.1.2) (ckSs_ok hp K _ _ h.2)
    · rename_i tg it b tg' iter body p
      simp only [Bool.and_eq_true] at h
      obtain ⟨⟨⟨h1, h2⟩, h3⟩, h4⟩ := h
      have hpp : pairI it = true → isTupE tg' = true ∧ isTu tg = true := fun z => by
        rw [z] at h2
        simpa using h2
      obtain ⟨i1, i2⟩ := ckI_ok (G := G) (ckN_ok n) K h1 fun z => (hpp z).1
      exact ds_for hp K.calm i1 (ckT_ok K h3 fun z => (hpp z).2) (ckSs_ok hp K _ _ h4) i2
    · simp only [Bool.and_eq_true, Bool.not_eq_true'] at h
      exact ds_while hp ((snd K h.1.1).t h.1.2) (ckSs_ok hp K _ _ h.2)
    · exact ds_pass
    · exact ds_bad
    · rename_i i o a x p1 op e p2
      simp only [Bool.and_eq_true, Bool.or_eq_true] at h
      obtain ⟨⟨⟨⟨h1, h2⟩, h3⟩, h4⟩, h5⟩ := h
      obtain ⟨l1, l2⟩ := st_of K h2
      have z := fun (o : BOp) (ho : o = .add ∨ o = .sub) => ds_aug (pos := p2) (p := p1) (v := (den C G a).v) ho (nodup_ K) (nm_of K h1) l1 (snd K h4).e l2
      rcases h5 with ⟨h5, h6⟩ | ⟨h5, h6⟩
      · rw [eq_of_beq h5, eq_of_beq h6]
        exact z .add (.inl rfl)
      · rw [eq_of_beq h5, eq_of_beq h6]
        exact z .sub (.inr rfl)
    · cases h
theorem ckSs_ok (hp : HP X) (K : CtxOk X c C PS k) : ∀ (ss : List SI) (sts : List Stmt), ckSs n c ss sts = true → DSs X sts (denSs C G ss)
  | [], [], _ => dss_nil
  | s :: ss, t :: ts, h => by
    unfold ckSs at h
    rw [Bool.and_eq_true] at h
    exact dss_cons (ckS_ok hp K s t h.1) (ckSs_ok hp K ss ts h.2)
  | [], _ :: _, h => by cases h
  | _ :: _, [], h => by cases h
end
end
end Pw

set_option Elab.async false
set_option linter.all false
set_option maxRecDepth 100000
set_option maxHeartbeats 1000000
namespace Pw
open PySem PySem.Spec PyProof.Rows L2
/-! ## all defs -/
structure FD where
  x : Str
  qual : Str
  st : Stmt
  N : List Str
  ps : List Str
  F : Fn
def fsOf (L : List FD) (f : Nat) : Option Fn := (L[f]?).map (·.F)
def psOf (L : List FD) (f : Nat) : List Str := match L[f]? with | some d => d.ps | none => []
def fnOfL (L : List FD) : List Str := L.map (·.x)
/-- the scope of a def -/
def scB (N ps : List Str) (sc : Scope) : Bool := isFun sc && !sc.isCoroutine && !sc.isGenerator && decide N.Nodup && decide (N.take ps.length = ps) &&
  ps.all (fun x => match sc.names.lookup x with | some .local => true | some .cell => true | _ => false) && sc.names.all (fun y => match y.2 with | .free => false | _ => true)
theorem scB_of {N ps : List Str} {sc : Scope} (h : scB N ps sc = true) : FnScope N ps sc := by
  unfold scB at h
  simp only [Bool.and_eq_true, Bool.not_eq_true', decide_eq_true_eq] at h
  obtain ⟨⟨⟨⟨⟨⟨h1, h2⟩, h3⟩, h4⟩, h5⟩, h6⟩, h7⟩ := h
  refine ⟨isFun_of h1, h2, h3, h4, h5, fun x hx => ?_, fun y hy e => ?_⟩
  · have q := List.all_eq_true.mp h6 x hx
    split at q
    · exact .inl (by assumption)
    · exact .inr (by assumption)
    · cases q
  · have q := List.all_eq_true.mp h7 y hy
    rw [e] at q
    cases q
def ccOf (L : List FD) (KS : List KSh) (GL : List (Str × D)) (d : FD) : CC := ⟨d.N, defScope d.st, fun _ => true, fnOfL L, KS, GL⟩
/-- one def's term is what its text says -/
def fdB (n : Nat) (L : List FD) (KS : List KSh) (GL : List (Str × D)) (d : FD) : Bool := scB d.N d.ps (defScope d.st) && ckSs n (ccOf L KS GL d) d.F.body (defBody d.st) && d.F.slots == d.N.length && d.F.pars == d.ps.length && !(d.x == ("__debug__" : Str))
section
variable {P : Program} {w : World} {K : PySem.W.Frag} {mg : Str → Option Value} {base : Heap}
abbrev FunP (K : PySem.W.Frag) (d : FD) (fa : Addr) (fd : FuncData) : Prop := FunD K d.x d.qual (defArgs d.st) (defBody d.st) (defScope d.st) [] [] fa fd
theorem gO_vals {ord : List Nat} : ∀ {vs zs : List V} {us ws : List Value}, Vals vs us → Vals zs ws → Vals (gO V.non ord vs zs) (gO Value.none ord us ws) := by
  intro vs zs us ws r q
  have z := r.append q
  have get : ∀ {xs : List V} {ys : List Value}, Vals xs ys → ∀ j, RelV (xs.getD j .non) (ys.getD j .none) := by
    intro xs ys h
    induction h with
    | nil => intro j; exact rfl
    | cons r t ih =>
      intro j
      cases j with
      | zero => exact r
      | succ j => simpa using ih j
  unfold gO
  induction ord with
  | nil => exact .nil
  | cons j l ih => exact .cons (get z j) ih
/-- how a def's parameters bind -/
def Bnd (d : FD) : Prop := ∀ (kV doc pm : Value) (an : Option Addr) (cdv ct : Value) (us : List Value), us.length = d.ps.length → bindArgs (PySem.W.fnOf d.x d.qual (defArgs d.st) (defBody d.st) (defScope d.st) .none kV doc pm an cdv ct) ⟨us, []⟩ = pure (d.ps.zip us)
def BndK (d : FD) (q : KSh) : Prop := ∀ (kV doc pm : Value) (an : Option Addr) (cdv ct : Value) (us ws : List Value), us.length = q.n → ws.length = q.ks.length →
  bindArgs (PySem.W.fnOf d.x d.qual (defArgs d.st) (defBody d.st) (defScope d.st) .none kV doc pm an cdv ct) ⟨us, q.ks.zip ws⟩ = pure (d.ps.zip (gO Value.none q.ord us ws))
theorem bndK_of {K : PySem.W.Frag} {d : FD} {fa : Addr} {fd : FuncData} {q : KSh} (F : FunP K d fa fd) (h : BndK d q) : KBn K fd d.ps q.n q.ks (gO Value.none q.ord) (gO V.non q.ord) := by
  obtain ⟨oc, od, dV, kV, doc, pm, an, cdv, ct, osl, rfl, lk, hcd, hD, hK⟩ := F.ex
  rcases hD with ⟨_, rfl⟩ | ⟨e, _⟩
  · exact ⟨fun s us ws _ l1 l2 => .of_eq (h kV doc pm an cdv ct us ws l1 l2), fun r1 r2 => gO_vals r1 r2⟩
  · exact absurd rfl e
/-- what stands behind the top -/
def ConstM (mg : Str → Option Value) (x : Str) (d : D) : Prop := match d with
  | .int i => ∃ t, mg x = some (.int i t)
  | .str z => ∃ t, mg x = some (.str z t)
  | _ => False
structure Top (K : PySem.W.Frag) (mg : Str → Option Value) (L : List FD) (KS : List KSh) (GL : List (Str × D)) : Prop where
  fns : ∀ (f : Nat) (d : FD), L[f]? = some d → ∃ fa fd, FunP K d fa fd ∧ mg d.x = some (.ref fa) ∧ Binds K fd d.ps [] ∧ ∀ q ∈ KS, q.f = f → KBn K fd d.ps q.n q.ks (gO Value.none q.ord) (gO V.non q.ord)
  blt : ∀ x ∈ bltNames, mg x = none
  gls : ∀ p ∈ GL, ConstM mg p.1 p.2
theorem psOf_get {L : List FD} {f : Nat} {d : FD} (h : L[f]? = some d) : psOf L f = d.ps := by unfold psOf; rw [h]
theorem all_fns {L : List FD} {KS : List KSh} {GL : List (Str × D)} {G : Nat → Option D} {nf : Nat} (T : Top K mg L KS GL) (hC : ∀ d ∈ L, fdB nf L KS GL d = true) : ∀ (n : Nat) (f : Nat) (d : FD), L[f]? = some d → ∀ fa fd, FunP K d fa fd → FnG P w K mg base (L2.CX P w) n fa fd d.ps (spC K mg (callN (fsOf L) G n) f)
  | 0, f, d, hd, fa, fd, hF => ⟨fun vs H Q E ⟨_, _, _, _, _, h⟩ => h.elim, fun A outer s H args us vs Q E _ _ _ _ _ ⟨_, _, _, _, _, h⟩ => h.elim⟩
  | n + 1, f, d, hd, fa, fd, hF => by
    have hc := hC d (List.mem_of_getElem? hd)
    unfold fdB at hc
    simp only [Bool.and_eq_true, beq_iff_eq] at hc
    obtain ⟨⟨⟨⟨c1, c2⟩, c3⟩, c4⟩, c5⟩ := hc
    have hS := scB_of c1
    have unf : ∀ (ds : List D) (S : Sto), callN (fsOf L) G (n + 1) f ds S = if ds.length = d.F.pars then closeR d.F.fz S (denSs (callN (fsOf L) G n) G d.F.body (ds.map some ++ List.replicate (d.F.slots - d.F.pars) none) S) else .bad := by
      intro ds S
      show (match fsOf L f with
        | some F => if ds.length = F.pars then closeR F.fz S (denSs (callN (fsOf L) G n) G F.body (ds.map some ++ List.replicate (F.slots - F.pars) none) S) else .bad
        | none => .bad) = _
      have : fsOf L f = some d.F := by unfold fsOf; rw [hd]; rfl
      rw [this]
    refine fnG_def hF hS (fun vs H Q E ⟨M, S, ds, rd, rs, h⟩ => ?_) fun cdv A outer s H vs Q E hgd hr ⟨M, S, ds, rd, rs, h⟩ => ?_
    · rw [unf] at h
      split at h
      · rename_i hl
        rw [← rd.length, hl, c4]
      · exact h.elim
    · rw [unf] at h
      split at h
      · rename_i hl
        have KO : CtxOk (cxOf (L2.CX P w) P w K mg base d.N d.qual (defScope d.st) fa cdv A outer s H E) (ccOf L KS GL d) (callN (fsOf L) G n) (psOf L) n := by
          refine ⟨rfl, hS.nd, rfl, rfl, rfl, hr, hS.kind, ⟨fun g x hg => ?_⟩, T.blt, hgd, T.gls⟩
          have hg' : (L.map (·.x))[g]? = some x := hg
          rw [List.getElem?_map] at hg'
          obtain ⟨d2, hd2, rfl⟩ := Option.map_eq_some_iff.mp hg'
          have hc2 := hC d2 (List.mem_of_getElem? hd2)
          unfold fdB at hc2
          simp only [Bool.and_eq_true, Bool.not_eq_true'] at hc2
          obtain ⟨fa2, fd2, F2, m2, b2, k2⟩ := T.fns g d2 hd2
          refine ⟨hc2.2, fa2, fd2, m2, F2.kp, ?_, ?_, fun q hq e => ?_⟩
          · rw [psOf_get hd2]; exact b2
          · rw [psOf_get hd2]; exact all_fns T hC n g d2 hd2 fa2 fd2 F2
          · rw [psOf_get hd2]; exact k2 q hq e
        have tk : Takes (cxOf (L2.CX P w) P w K mg base d.N d.qual (defScope d.st) fa cdv A outer s H E) (fun cls dd _ H => E cls dd H) := takes_of rfl rfl rfl rfl
        have hp : HP (cxOf (L2.CX P w) P w K mg base d.N d.qual (defScope d.st) fa cdv A outer s H E) := passes_of rfl
        refine ⟨_, ckSs_ok (G := G) hp KO _ _ c2 _ tk, M, _, S, ?_, rs, close_ok rs h⟩
        have e1 : d.N.length = ds.length + (d.F.slots - d.F.pars) := by
          have : d.ps.length ≤ d.N.length := by
            have := congrArg List.length hS.pre
            rw [List.length_take] at this
            omega
          omega
        exact start_rel rd e1
      · exact h.elim
end
/-! ## the head's facts -/
def fnD (L : List FD) : List He.DefD := L.map fun d => ⟨(d.x, none), d.x, d.qual, defArgs d.st, defBody d.st, defScope d.st, [], []⟩
def glF : Str × D → He.Fa
  | (x, .int i) => .int x i
  | (x, .str z) => .str x z
  | (x, _) => .free x
def faD (L : List FD) (GL : List (Str × D)) : List He.Fa := (L.map fun d => He.Fa.glo d.x) ++ (bltNames.map He.Fa.free ++ GL.map glF)
section
variable {K : PySem.W.Frag} {h : Heap} {mg : Str → Option Value}
theorem top_of {L : List FD} {KS : List KSh} {GL : List (Str × D)} (hGL : ∀ p ∈ GL, (match p.2 with | .int _ => true | .str _ => true | _ => false) = true) (X : K.In h) (G : h.Ns mainGlobals mg) (c : He.SaysD (faD L GL) (fnD L) K) (hB : ∀ d ∈ L, Bnd d) (hK : ∀ q ∈ KS, ∀ d, L[q.f]? = some d → BndK d q) : Top K mg L KS GL := by
  refine ⟨fun f d hd => ?_, fun x hx => ?_, fun p hp => ?_⟩
  · have h1 : (fnD L)[f]? = some ⟨(d.x, none), d.x, d.qual, defArgs d.st, defBody d.st, defScope d.st, [], []⟩ := by
      unfold fnD
      rw [List.getElem?_map, hd]
      rfl
    have h2 : (faD L GL)[f]? = some (.glo d.x) := by
      unfold faD
      have hl : f < L.length := (List.getElem?_eq_some_iff.mp hd).1
      rw [List.getElem?_append_left (by rw [List.length_map]; exact hl), List.getElem?_map, hd]
      rfl
    obtain ⟨fd, F⟩ := c.def_ f h1
    have g := He.glo_ok X G (c.fact f h2)
    refine ⟨_, fd, F, g, FunD.bindsN F (hB d (List.mem_of_getElem? hd)), fun q hq e => bndK_of F (hK q hq d (by rw [e]; exact hd))⟩
  · obtain ⟨i, hi, e⟩ := List.getElem_of_mem hx
    have h2 : (faD L GL)[L.length + i]? = some (.free x) := by
      unfold faD
      rw [List.getElem?_append_right (by rw [List.length_map]; omega), List.length_map, Nat.add_sub_cancel_left, List.getElem?_append_left (by rw [List.length_map]; exact hi), List.getElem?_map, List.getElem?_eq_getElem hi, e]
      rfl
    exact He.free_ok X G (c.fact _ h2)
  · obtain ⟨i, hi, e⟩ := List.getElem_of_mem hp
    have h2 : (faD L GL)[L.length + (bltNames.length + i)]? = some (glF p) := by
      unfold faD
      rw [List.getElem?_append_right (by rw [List.length_map]; omega), List.length_map, Nat.add_sub_cancel_left, List.getElem?_append_right (by rw [List.length_map]; omega), List.length_map, Nat.add_sub_cancel_left, List.getElem?_map, List.getElem?_eq_getElem hi, e]
      rfl
    have z := c.fact _ h2
    have hk := hGL p hp
    obtain ⟨x, d⟩ := p
    cases d with
    | int i => exact He.int_ok X G z
    | str y => exact He.str_ok X G z
    | _ => cases hk
theorem script_rel {H : Hp} {a : Addr} {ns : List Int} (hO : Only H) (hS : SqL K H a (ns.map V.int)) : RelD K H ⟨[], []⟩ (.lst (ns.map .int)) (.ref a) := by
  refine .lstF (vs := ns.map V.int) ?_ ?_
  · rcases hS with (h | h) | h
    · rcases hO a with z | ⟨o, xs, z⟩
      · rw [z] at h; cases h
      · rw [z] at h; cases h
    · exact .inl h
    · exact .inr h
  · induction ns with
    | nil => exact .nil
    | cons n r ih =>
      have all : ∀ l : List Int, RelDs K H ⟨[], []⟩ (l.map D.int) (l.map V.int) := by
        intro l
        induction l with
        | nil => exact .nil
        | cons n r ih => exact .cons (.int n) ih
      exact all (n :: r)
/-- the law's walk: what the evaluator says of it is what is asked -/
theorem walk_pure {P : Program} {w : World} {fa : Addr} {L : List FD} {KS : List KSh} {GL : List (Str × D)} {G : Nat → Option D} {nf n fl m : Nat} {dl : FD} {x : Str} (hl : L[fl]? = some dl) (hps : dl.ps = [x]) (hGL : ∀ p ∈ GL, (match p.2 with | .int _ => true | .str _ => true | _ => false) = true) (X : K.In h) (Gn : h.Ns mainGlobals mg) (hfa : mg dl.x = some (.ref fa)) (c : He.SaysD (faD L GL) (fnD L) K)
    (hC : ∀ d ∈ L, fdB nf L KS GL d = true) (hB : ∀ d ∈ L, Bnd d) (hK : ∀ q ∈ KS, ∀ d, L[q.f]? = some d → BndK d q)
    (hp : ∀ ns : List Int, ns.length ≤ m → ∃ S, callN (fsOf L) G n fl [.lst (ns.map .int)] [] = .ok (.bl true) S) :
    ∃ (K : PySem.W.Frag) (fd : FuncData) (sp : Sp), K.In h ∧ (∀ (s : Shared) (u : Value), BindsTo s fd ⟨[u], []⟩ [(x, u)]) ∧
        (∀ (H : Hp) (a : Addr) (ns : List Int), ns.length ≤ m → Only H → SqL K H a (ns.map V.int) → sp [.ref a] H (fun v _ => v = .bl true) fun _ _ _ => False) ∧
        ∀ base : Heap, K.In base → base.Ns mainGlobals mg → FnG P w K mg base (L2.CX P w) n fa fd [x] sp := by
  have T := top_of (KS := KS) hGL X Gn c hB hK
  obtain ⟨fa2, fd, F, hm, _, _⟩ := T.fns fl dl hl
  have e := hfa.symm.trans hm
  cases e
  refine ⟨K, fd, spC K mg (callN (fsOf L) G n) fl, X, fun s u => ?_, fun H a ns hn hO hS => ?_, fun base _ _ => ?_⟩
  · have b := FunD.bindsA (ps := dl.ps) F (hB dl (List.mem_of_getElem? hl)) s [u] (by rw [hps]; rfl)
    rw [hps] at b
    exact b
  · obtain ⟨S, hS2⟩ := hp ns hn
    refine ⟨⟨[], []⟩, [], [.lst (ns.map .int)], .cons (script_rel hO hS) .nil, ⟨rfl, .nil, fun _ h => (nomatch h), fun l a m h => by cases h⟩, ?_⟩
    rw [hS2]
    intro v H' M' _ _ r
    exact r.bl_
  · have z := all_fns (P := P) (w := w) (base := base) (G := G) T hC n fl dl hl fa fd F
    rw [hps] at z
    exact z
end
theorem walk_ofX {l : PySem.W.OpenLaw} {n k : Nat} {q : Program} {loose : List Str} {XP : (Str → Option Value) → Heap → Prop} {YP : World → Heap → Prop} {d : DefRec} {x : Str}
    (hn : l.most = some n) (hn2 : n ≤ sizeLine) (hdf : d.params.defaults = []) (hr : Room k callerA)
    (F : ∀ (w : World) (mg : Str → Option Value) (fa : Addr) (h : Heap), YP w h → h.Ns mainGlobals mg → mg d.name = some (.ref fa) →
      ∃ (K : PySem.W.Frag) (fd : FuncData) (sp : Sp), K.In h ∧ (∀ (s : Shared) (u : Value), BindsTo s fd ⟨[u], []⟩ [(x, u)]) ∧
        (∀ (H : Hp) (a : Addr) (ns : List Int), ns.length ≤ n → Only H → SqL K H a (ns.map V.int) → sp [.ref a] H (fun v _ => v = .bl true) fun _ _ _ => False) ∧
        ∀ base : Heap, K.In base → base.Ns mainGlobals mg → FnG l.prog w K mg base (L2.CX l.prog w) k fa fd [x] sp) :
    PySem.W.WalkO q loose XP YP l.row.toRowW d [] (fun f vs => PySem.call f vs) := by
  refine Att.attach_call hn hdf fun w s₀ s₁ mg mb fa o pm cd doc a vs ns G Y ho hd hcd hmg hobj hints hlen hg => ?_
  obtain ⟨K, fd, sp, KX, hb, hsp, hF⟩ := F w mg fa _ Y G.T.g hmg
  refine topG (CX := L2.CX l.prog w) KX G.T.g G.T.b G.T.builtins G.T.nolimit hg hobj hints (Nat.le_trans hlen hn2) hr hF hb (fun H hO hS => hsp H a ns hlen hO hS) fun H e s' h => ?_
  obtain ⟨_, _, _, _, _, _, _, _, _, _, _, _, z⟩ := h
  exact z
end Pw

set_option Elab.async false
set_option linter.all false
set_option maxRecDepth 100000
set_option maxHeartbeats 1000000
namespace Pw
open PySem PySem.Spec PyProof.Rows L2
/-! # reasoning about the evaluator -/
section
variable {Fs : Nat → Option Fn} {G : Nat → Option D} {n f : Nat} {F : Fn} {ds : List D} {S S' : Sto}
theorem call_eq (h : Fs f = some F) (hl : ds.length = F.pars) : callN Fs G (n + 1) f ds S = closeR F.fz S (denSs (callN Fs G n) G F.body (ds.map some ++ List.replicate (F.slots - F.pars) none) S) := by
  show (match Fs f with
    | some F => if ds.length = F.pars then closeR F.fz S (denSs (callN Fs G n) G F.body (ds.map some ++ List.replicate (F.slots - F.pars) none) S) else .bad
    | none => .bad) = _
  rw [h]
  exact if_pos hl
theorem close_same (d : D) : close S S d = (d, S) := by
  unfold close
  rw [if_pos (Nat.le_refl _)]
@[simp] theorem closeR_ret (d : D) (fz : Bool) : closeR fz S (.ret d S) = .ok d S := by
  cases fz
  · rfl
  · show R.ok (close S S d).1 (close S S d).2 = _
    rw [close_same]
@[simp] theorem closeR_nx (e : Ev) (fz : Bool) : closeR fz S (.nx e S) = .ok .non S := by
  cases fz
  · rfl
  · show R.ok D.non (close S S .non).2 = _
    rw [close_same]
@[simp] theorem closeR_false (d : D) : closeR false S (.ret d S') = .ok d S' := (rfl)
mutual
def D.pure : D → Bool
  | .ref _ => false
  | .tup xs => D.pures xs
  | .lst xs => D.pures xs
  | .dct _ vs => D.pures vs
  | .non => true
  | .bl _ => true
  | .int _ => true
  | .str _ => true
def D.pures : List D → Bool
  | [] => true
  | x :: xs => D.pure x && D.pures xs
end
mutual
theorem frz1_pure {m : Nat} {F : List D → Option (List D)} : ∀ {d : D}, D.pure d = true → frz1 m S F d = some d
  | .non, _ => rfl
  | .bl _, _ => rfl
  | .int _, _ => rfl
  | .str _, _ => rfl
  | .tup xs, h => by
    have h : D.pures xs = true := h
    show (frz1s m S F xs).map D.tup = _
    rw [frz1s_pure h]; rfl
  | .lst xs, h => by
    have h : D.pures xs = true := h
    show (frz1s m S F xs).map D.lst = _
    rw [frz1s_pure h]; rfl
  | .dct ks xs, h => by
    have h : D.pures xs = true := h
    show (frz1s m S F xs).map (D.dct ks) = _
    rw [frz1s_pure h]; rfl
  | .ref _, h => by cases h
theorem frz1s_pure {m : Nat} {F : List D → Option (List D)} : ∀ {ds : List D}, D.pures ds = true → frz1s m S F ds = some ds
  | [], _ => rfl
  | d :: ds, h => by
    unfold D.pures at h
    rw [Bool.and_eq_true] at h
    unfold frz1s
    rw [frz1_pure h.1, frz1s_pure h.2]
end
theorem pures_map {α : Type} {g : α → D} (h : ∀ a, D.pure (g a) = true) : ∀ l : List α, D.pures (l.map g) = true
  | [] => rfl
  | a :: l => by rw [List.map_cons]; unfold D.pures; rw [h a, pures_map h l]; rfl
theorem pures_append {xs ys : List D} (h : D.pures xs = true) (h2 : D.pures ys = true) : D.pures (xs ++ ys) = true := by
  induction xs with
  | nil => exact h2
  | cons x xs ih =>
    unfold D.pures at h
    rw [Bool.and_eq_true] at h
    rw [List.cons_append]
    unfold D.pures
    rw [h.1, ih h.2]; rfl
/-- a call that gives what has no places: the store's new part goes -/
theorem close_pure {d : D} (hp : D.pure d = true) (hl : S.length ≤ S'.length) (ho : OldOk S S') : close S S' d = (d, S'.take S.length) := by
  unfold close
  split
  · rename_i h
    rw [List.take_of_length_le h]
  · have : frz S.length S' d = some d := frz1_pure hp
    simp only [this, ho, if_true]
theorem closeR_pure {d : D} (hp : D.pure d = true) (hl : S.length ≤ S'.length) (ho : OldOk S S') : closeR true S (.ret d S') = .ok d (S'.take S.length) := by
  show R.ok (close S S' d).1 (close S S' d).2 = _
  rw [close_pure hp hl ho]
/-- nothing old has changed -/
theorem closeR_grown {d : D} {T : Sto} (hp : D.pure d = true) : closeR true S (.ret d (S ++ T)) = .ok d S := by
  rw [closeR_pure hp (by simp) (fun l hl => .inl (List.getElem?_append_left hl)), List.take_left]
end
section
variable {C : Nat → List D → Sto → R D} {G : Nat → Option D} {e : Ev} {S : Sto}
/-! ### the terms' values, by their parts -/
@[simp] theorem v_v (i : Nat) : (den C G (.v i)).v e S = dVar i e S := (rfl)
@[simp] theorem v_k (d : D) : (den C G (.k d)).v e S = .ok d S := (rfl)
@[simp] theorem v_bin (o : BOp) (bx : Bool) (a b : E) : (den C G (.bin o bx a b)).v e S = ((den C G a).v e S).bind fun x S1 => ((den C G b).v e S1).bind fun y S2 => binop o bx x y S2 := (rfl)
@[simp] theorem v_neg (a : E) : (den C G (.neg a)).v e S = ((den C G a).v e S).bind dNeg := (rfl)
@[simp] theorem v_cmp (o : COp) (a b : E) : (den C G (.cmp o a b)).v e S = ((den C G a).v e S).bind fun x S1 => ((den C G b).v e S1).bind fun y S2 => R.opt S2 ((cmpop o x y S2).map .bl) := (rfl)
@[simp] theorem v_cmp2 (o o' : COp) (a b c : E) : (den C G (.cmp2 o o' a b c)).v e S = ((den C G a).v e S).bind fun x S1 => ((den C G b).v e S1).bind fun y S2 => dCmp2 o o' x y S2 fun S => (den C G c).v e S := (rfl)
@[simp] theorem v_isk (ng : Bool) (a : E) (c : D) : (den C G (.isk ng a c)).v e S = ((den C G a).v e S).bind fun x S1 => R.opt S1 ((isop x c).map fun b => .bl (if ng then !b else b)) := (rfl)
@[simp] theorem v_and (a b : E) : (den C G (.and a b)).v e S = ((den C G a).v e S).bind fun x S1 => dAnd x S1 ((den C G b).v e S1) := (rfl)
@[simp] theorem v_or (a b : E) : (den C G (.or a b)).v e S = ((den C G a).v e S).bind fun x S1 => dOr x S1 ((den C G b).v e S1) := (rfl)
@[simp] theorem v_not (a : E) : (den C G (.not a)).v e S = ((den C G a).v e S).bind fun x S1 => R.opt S1 ((truth S1 x).map fun b => .bl (!b)) := (rfl)
@[simp] theorem v_ite (c a b : E) : (den C G (.ite c a b)).v e S = ((den C G c).t e S).bind fun t S1 => if t then (den C G a).v e S1 else (den C G b).v e S1 := (rfl)
@[simp] theorem v_call (f : Nat) (as : List E) : (den C G (.call f as)).v e S = (dens C G as e S).bind fun xs S1 => C f xs S1 := (rfl)
@[simp] theorem v_callk (f : Nat) (as bs : List E) (ord : List Nat) : (den C G (.callk f as bs ord)).v e S = (dens C G as e S).bind fun xs S1 => (dens C G bs e S1).bind fun ys S2 => C f (ord.map fun j => (xs ++ ys).getD j .non) S2 := (rfl)
@[simp] theorem v_pr (p : Pr) (bx : Bool) (as : List E) : (den C G (.pr p bx as)).v e S = (dens C G as e S).bind fun xs S1 => prim p bx xs S1 := (rfl)
@[simp] theorem v_isi (a : E) (t : Ty) : (den C G (.isi a t)).v e S = ((den C G a).v e S).bind fun x S1 => R.opt S1 ((tyIs S1 x t).map .bl) := (rfl)
@[simp] theorem v_ix (a b : E) : (den C G (.ix a b)).v e S = ((den C G a).v e S).bind fun x S1 => ((den C G b).v e S1).bind fun y S2 => R.opt S2 (Pw.index S2 x y) := (rfl)
@[simp] theorem v_sl (bx : Bool) (a : E) (lo hi : Option E) : (den C G (.sl bx a lo hi)).v e S = ((den C G a).v e S).bind fun x S1 => (denO C G lo e S1).bind fun l S2 => (denO C G hi e S2).bind fun h S3 => slice bx x l h S3 := (rfl)
@[simp] theorem v_rev (bx : Bool) (a : E) : (den C G (.rev bx a)).v e S = ((den C G a).v e S).bind fun x S1 => revd bx x S1 := (rfl)
@[simp] theorem v_tup (as : List E) : (den C G (.tup as)).v e S = (dens C G as e S).bind fun xs S1 => if xs.length ≤ sizeLine then .ok (.tup xs) S1 else .bad := (rfl)
@[simp] theorem v_lst (bx : Bool) (as : List E) : (den C G (.lst bx as)).v e S = (dens C G as e S).bind fun xs S1 => mkL bx xs S1 := (rfl)
@[simp] theorem v_mth (p : Pr) (bx : Bool) (o : E) (as : List E) : (den C G (.mth p bx o as)).v e S = ((den C G o).v e S).bind fun x S1 => if p.kindOk (kd S1 x) then (dens C G as e S1).bind fun ys S2 => if kd S1 x = kd S2 x then prim p bx (x :: ys) S2 else .bad else .bad := (rfl)
@[simp] theorem v_comp (bx : Bool) (tg : Tg) (it : I) (own : List Nat) (ifs : Option E) (elt : E) : (den C G (.comp bx tg it own ifs elt)).v e S = (denI C G it e S).bind fun src S1 => (compLoop tg own src e (denT C G ifs) (den C G elt).v src.xs [] S1).bind fun acc S2 => mkL bx acc S2 := (rfl)
@[simp] theorem t_and (a b : E) : (den C G (.and a b)).t e S = ((den C G a).t e S).bind fun x S1 => if x then (den C G b).t e S1 else .ok false S1 := (rfl)
@[simp] theorem t_or (a b : E) : (den C G (.or a b)).t e S = ((den C G a).t e S).bind fun x S1 => if x then .ok true S1 else (den C G b).t e S1 := (rfl)
@[simp] theorem t_not (a : E) : (den C G (.not a)).t e S = ((den C G a).t e S).bind fun b S1 => .ok (!b) S1 := (rfl)
def tOf (r : R D) : R Bool := r.bind fun x S1 => R.opt S1 (truth S1 x)
@[simp] theorem tOf_bl (b : Bool) : tOf (.ok (.bl b) S) = .ok b S := (rfl)
theorem t_of {a : E} {r : R D} (hp : (den C G a).t e S = tOf ((den C G a).v e S)) (h : (den C G a).v e S = r) : (den C G a).t e S = tOf r := by rw [hp, h]
@[simp] theorem t_v (i : Nat) : (den C G (.v i)).t e S = tOf ((den C G (.v i)).v e S) := (rfl)
@[simp] theorem t_cmp (o : COp) (a b : E) : (den C G (.cmp o a b)).t e S = tOf ((den C G (.cmp o a b)).v e S) := (rfl)
@[simp] theorem t_cmp2 (o o' : COp) (a b c : E) : (den C G (.cmp2 o o' a b c)).t e S = tOf ((den C G (.cmp2 o o' a b c)).v e S) := (rfl)
@[simp] theorem t_isk (ng : Bool) (a : E) (c : D) : (den C G (.isk ng a c)).t e S = tOf ((den C G (.isk ng a c)).v e S) := (rfl)
@[simp] theorem t_call (f : Nat) (as : List E) : (den C G (.call f as)).t e S = tOf ((den C G (.call f as)).v e S) := (rfl)
@[simp] theorem t_callk (f : Nat) (as bs : List E) (o : List Nat) : (den C G (.callk f as bs o)).t e S = tOf ((den C G (.callk f as bs o)).v e S) := (rfl)
@[simp] theorem t_pr (p : Pr) (bx : Bool) (as : List E) : (den C G (.pr p bx as)).t e S = tOf ((den C G (.pr p bx as)).v e S) := (rfl)
@[simp] theorem t_isi (a : E) (t : Ty) : (den C G (.isi a t)).t e S = tOf ((den C G (.isi a t)).v e S) := (rfl)
@[simp] theorem t_ix (a b : E) : (den C G (.ix a b)).t e S = tOf ((den C G (.ix a b)).v e S) := (rfl)
@[simp] theorem ds_nil : dens C G [] e S = .ok [] S := (rfl)
@[simp] theorem ds_cons (a : E) (as : List E) : dens C G (a :: as) e S = ((den C G a).v e S).bind fun x S1 => (dens C G as e S1).bind fun xs S2 => .ok (x :: xs) S2 := (rfl)
@[simp] theorem o_none : denO C G none e S = .ok none S := (rfl)
@[simp] theorem o_some (a : E) : denO C G (some a) e S = ((den C G a).v e S).bind fun x S1 => R.opt S1 (asInt x) := (rfl)
theorem tt_none : denT C G none = fun _ S => .ok true S := rfl
theorem tt_some (a : E) : denT C G (some a) = (den C G a).t := rfl
@[simp] theorem i_e (a : E) : denI C G (.e a) e S = ((den C G a).v e S).bind fun x S1 => R.opt S1 (src1 S1 x) := (rfl)
@[simp] theorem i_rng (as : List E) : denI C G (.rng as) e S = (dens C G as e S).bind fun xs S1 => R.opt S1 ((rangeOf as.length xs).map fun q => ⟨rangeD q.1 q.2, []⟩) := (rfl)
@[simp] theorem i_enum (a : E) : denI C G (.enum a) e S = ((den C G a).v e S).bind fun x S1 => R.opt S1 (srcEnum S1 x) := (rfl)
/-! ### statements -/
@[simp] theorem ss_nil : denSs C G [] e S = .nx e S := (rfl)
@[simp] theorem ss_cons (s : SI) (ss : List SI) : denSs C G (s :: ss) e S = (denS C G s e S).then_ fun e1 S1 => denSs C G ss e1 S1 := (rfl)
@[simp] theorem s_expr (a : E) : denS C G (.expr a) e S = ((den C G a).v e S).st e fun _ S1 => .nx e S1 := (rfl)
@[simp] theorem s_ret (a : E) : denS C G (.ret a) e S = ((den C G a).v e S).st e fun x S1 => .ret x S1 := (rfl)
@[simp] theorem s_ret0 : denS C G .ret0 e S = .ret .non S := (rfl)
@[simp] theorem s_asg (t : Tg) (a : E) : denS C G (.asg (.g t) a) e S = ((den C G a).v e S).st e fun x S1 => optS (Tg.put t x S1 e) fun e1 => .nx e1 S1 := (rfl)
@[simp] theorem s_sub (o i a : E) : denS C G (.asg (.sub o i) a) e S = ((den C G a).v e S).st e fun x S1 => ((den C G o).v e S1).st e fun ov S2 => ((den C G i).v e S2).st e fun iv S3 => match setItemD ov iv x S3 with
      | some S4 => .nx e S4
      | none => .bad := (rfl)
@[simp] theorem s_ite (c : E) (a b : List SI) : denS C G (.ite c a b) e S = ((den C G c).t e S).st e fun t S1 => if t then denSs C G a e S1 else denSs C G b e S1 := (rfl)
@[simp] theorem s_for (tg : Tg) (it : I) (b : List SI) : denS C G (.for_ tg it b) e S = (denI C G it e S).st e fun src S1 => forLoop tg src (denSs C G b) src.xs e S1 := (rfl)
@[simp] theorem s_pass : denS C G .pass e S = .nx e S := (rfl)
/-! ### comprehensions of values -/
theorem stays_nil (xs : List D) : Src.stays ⟨xs, []⟩ S := fun _ h => nomatch h
theorem comp_map {α : Type} {tg : Tg} {own : List Nat} {src : Src} {e0 : Ev} {t : Ev → Sto → R Bool} {elt : Ev → Sto → R D} {enc : α → D} {g : α → D} (hs : src.stays S) : ∀ (ys : List α) (acc : List D), acc.length + ys.length ≤ sizeLine →
    (∀ y ∈ ys, ∃ e1, Tg.put tg (enc y) S (wipeE e0 own) = some e1 ∧ t e1 S = .ok true S ∧ elt e1 S = .ok (g y) S) → compLoop tg own src e0 t elt (ys.map enc) acc S = .ok (acc ++ ys.map g) S
  | [], acc, _, _ => by
    unfold compLoop
    simp only [List.map_nil, List.append_nil]
    rw [if_pos hs]
  | y :: ys, acc, hl, h => by
    obtain ⟨e1, h1, h2, h3⟩ := h y (List.mem_cons_self ..)
    rw [List.length_cons] at hl
    rw [List.map_cons]
    unfold compLoop
    rw [if_pos hs, h1]
    simp only
    rw [h2]
    simp only [R.nox_ok, R.bind_ok, if_true]
    rw [h3]
    simp only [R.nox_ok, R.bind_ok]
    rw [if_pos (by omega), comp_map hs ys (acc ++ [g y]) (by rw [List.length_append, List.length_singleton]; omega) fun z hz => h z (List.mem_cons_of_mem _ hz)]
    rw [List.map_cons, List.append_assoc]
    rfl
theorem comp_filter {α : Type} {tg : Tg} {own : List Nat} {src : Src} {e0 : Ev} {t : Ev → Sto → R Bool} {elt : Ev → Sto → R D} {enc : α → D} {g : α → D} {p : α → Bool} (hs : src.stays S) : ∀ (ys : List α) (acc : List D), acc.length + ys.length ≤ sizeLine →
    (∀ y ∈ ys, ∃ e1, Tg.put tg (enc y) S (wipeE e0 own) = some e1 ∧ t e1 S = .ok (p y) S ∧ (p y = true → elt e1 S = .ok (g y) S)) → compLoop tg own src e0 t elt (ys.map enc) acc S = .ok (acc ++ (ys.filter p).map g) S
  | [], acc, _, _ => by
    unfold compLoop
    simp only [List.map_nil, List.filter_nil, List.append_nil]
    rw [if_pos hs]
  | y :: ys, acc, hl, h => by
    obtain ⟨e1, h1, h2, h3⟩ := h y (List.mem_cons_self ..)
    rw [List.length_cons] at hl
    have ih := fun acc hl => comp_filter (e0 := e0) (t := t) (elt := elt) (enc := enc) (g := g) (p := p) hs ys acc hl fun z hz => h z (List.mem_cons_of_mem _ hz)
    rw [List.map_cons]
    unfold compLoop
    rw [if_pos hs, h1]
    simp only
    rw [h2]
    simp only [R.nox_ok, R.bind_ok]
    cases hp : p y with
    | true =>
      simp only [if_true]
      rw [h3 hp]
      simp only [R.nox_ok, R.bind_ok]
      rw [if_pos (by omega), ih _ (by rw [List.length_append, List.length_singleton]; omega), List.filter_cons_of_pos hp, List.map_cons, List.append_assoc]
      rfl
    | false =>
      simp only [Bool.false_eq_true, if_false]
      rw [ih _ (by omega), List.filter_cons_of_neg (by rw [hp]; decide)]
/-- .. that change the store -/
theorem comp_inv {α : Type} {tg : Tg} {own : List Nat} {src : Src} {e0 : Ev} {t : Ev → Sto → R Bool} {elt : Ev → Sto → R D} {enc : α → D} (Inv : Nat → Sto → Prop) (P : D → Prop) (hs : ∀ i S, Inv i S → src.stays S) : ∀ (ys : List α) (i : Nat) (acc : List D) (S : Sto), acc.length + ys.length ≤ sizeLine → Inv i S → (∀ d ∈ acc, P d) →
    (∀ i S, ∀ y ∈ ys, Inv i S → ∃ e1 d S', Tg.put tg (enc y) S (wipeE e0 own) = some e1 ∧ t e1 S = .ok true S ∧ elt e1 S = .ok d S' ∧ P d ∧ Inv (i + 1) S') →
    ∃ xs S', compLoop tg own src e0 t elt (ys.map enc) acc S = .ok xs S' ∧ xs.length = acc.length + ys.length ∧ (∀ d ∈ xs, P d) ∧ Inv (i + ys.length) S'
  | [], i, acc, S, _, hi, hP, _ => by
    refine ⟨acc, S, ?_, rfl, hP, hi⟩
    unfold compLoop
    simp only [List.map_nil]
    rw [if_pos (hs i S hi)]
  | y :: ys, i, acc, S, hl, hi, hP, h => by
    obtain ⟨e1, d, S1, h1, h2, h3, h4, h5⟩ := h i S y (List.mem_cons_self ..) hi
    rw [List.length_cons] at hl
    obtain ⟨xs, S', r1, r2, r3, r4⟩ := comp_inv Inv P hs ys (i + 1) (acc ++ [d]) S1 (by rw [List.length_append, List.length_singleton]; omega) h5 (fun z hz => by
      rcases List.mem_append.mp hz with hz | hz
      · exact hP z hz
      · rw [List.mem_singleton.mp hz]; exact h4) fun i S z hz => h i S z (List.mem_cons_of_mem _ hz)
    refine ⟨xs, S', ?_, by rw [r2, List.length_append, List.length_singleton, List.length_cons]; omega, r3, by rw [List.length_cons]; rw [show i + (ys.length + 1) = i + 1 + ys.length by omega]; exact r4⟩
    rw [List.map_cons]
    unfold compLoop
    rw [if_pos (hs i S hi), h1]
    simp only
    rw [h2]
    simp only [R.nox_ok, R.bind_ok, if_true]
    rw [h3]
    simp only [R.nox_ok, R.bind_ok]
    rw [if_pos (by omega)]
    exact r1
end
end Pw

set_option Elab.async false
set_option linter.all false
set_option maxRecDepth 100000
set_option maxHeartbeats 1000000
namespace Pw
open PySem PySem.Spec PyProof.Rows L2
/-! # equality and order of plain data -/
mutual
/-- no truth values, no dicts, no places -/
def D.nb : D → Bool
  | .non => true
  | .int _ => true
  | .str _ => true
  | .tup xs => D.nbs xs
  | .lst xs => D.nbs xs
  | _ => false
def D.nbs : List D → Bool
  | [] => true
  | x :: xs => D.nb x && D.nbs xs
end
mutual
def D.py : D → PyData
  | .non => .none
  | .bl b => .bool b
  | .int i => .int i
  | .str x => .str x
  | .tup xs => .tuple (D.pys xs)
  | .lst xs => .list (D.pys xs)
  | _ => .none
def D.pys : List D → List PyData
  | [] => []
  | x :: xs => D.py x :: D.pys xs
end
mutual
def D.dep : D → Nat
  | .tup xs => D.deps xs + 1
  | .lst xs => D.deps xs + 1
  | _ => 0
def D.deps : List D → Nat
  | [] => 0
  | x :: xs => max (D.dep x) (D.deps xs)
end
mutual
theorem toPy_nb : ∀ {d : D}, D.nb d = true → d.toPy = some (D.py d)
  | .non, _ => rfl
  | .int _, _ => rfl
  | .str _, _ => rfl
  | .tup xs, h => by
    have h : D.nbs xs = true := h
    show (D.toPys xs).map PyData.tuple = _
    rw [toPys_nb h]; rfl
  | .lst xs, h => by
    have h : D.nbs xs = true := h
    show (D.toPys xs).map PyData.list = _
    rw [toPys_nb h]; rfl
  | .bl _, h => by cases h
  | .dct _ _, h => by cases h
  | .ref _, h => by cases h
theorem toPys_nb : ∀ {ds : List D}, D.nbs ds = true → D.toPys ds = some (D.pys ds)
  | [], _ => rfl
  | d :: ds, h => by
    unfold D.nbs at h
    rw [Bool.and_eq_true] at h
    unfold D.toPys
    rw [toPy_nb h.1, toPys_nb h.2]
    rfl
end
mutual
theorem eqv_nb : ∀ {a b : D}, D.nb a = true → D.nb b = true → (PyData.eqv (D.py a) (D.py b) = true ↔ a = b)
  | .non, b, _, h => by cases b <;> first | (simp [D.py, PyData.eqv]; done) | (simp [D.nb] at h; done)
  | .int i, b, _, h => by cases b <;> first | (simp [D.py, PyData.eqv]; done) | (simp [D.nb] at h; done)
  | .str x, b, _, h => by cases b <;> first | (simp [D.py, PyData.eqv]; done) | (simp [D.nb] at h; done)
  | .tup xs, b, h1, h => by
    cases b with
    | tup ys =>
      have h1 : D.nbs xs = true := h1
      have h : D.nbs ys = true := h
      simp only [D.py, PyData.eqv]
      rw [eqvs_nb h1 h]
      simp
    | _ => first | (simp [D.py, PyData.eqv]; done) | (simp [D.nb] at h; done)
  | .lst xs, b, h1, h => by
    cases b with
    | lst ys =>
      have h1 : D.nbs xs = true := h1
      have h : D.nbs ys = true := h
      simp only [D.py, PyData.eqv]
      rw [eqvs_nb h1 h]
      simp
    | _ => first | (simp [D.py, PyData.eqv]; done) | (simp [D.nb] at h; done)
  | .bl _, _, h, _ => by cases h
  | .dct _ _, _, h, _ => by cases h
  | .ref _, _, h, _ => by cases h
theorem eqvs_nb : ∀ {a b : List D}, D.nbs a = true → D.nbs b = true → (PyData.eqvAll (D.pys a) (D.pys b) = true ↔ a = b)
  | [], [], _, _ => by simp [D.pys, PyData.eqvAll]
  | [], _ :: _, _, _ => by simp [D.pys, PyData.eqvAll]
  | _ :: _, [], _, _ => by simp [D.pys, PyData.eqvAll]
  | x :: xs, y :: ys, h1, h2 => by
    unfold D.nbs at h1 h2
    rw [Bool.and_eq_true] at h1 h2
    simp only [D.pys, PyData.eqvAll, Bool.and_eq_true]
    rw [eqv_nb h1.1 h2.1, eqvs_nb h1.2 h2.2]
    simp
end
mutual
theorem dep_le : ∀ (d : D), (D.py d).depth ≤ D.dep d
  | .tup xs => by
    have := deps_le xs
    simp only [D.py, PyData.depth, D.dep]; omega
  | .lst xs => by
    have := deps_le xs
    simp only [D.py, PyData.depth, D.dep]; omega
  | .non => by simp [D.py, PyData.depth]
  | .bl _ => by simp [D.py, PyData.depth]
  | .int _ => by simp [D.py, PyData.depth]
  | .str _ => by simp [D.py, PyData.depth]
  | .dct _ _ => by simp [D.py, PyData.depth]
  | .ref _ => by simp [D.py, PyData.depth]
theorem deps_le : ∀ (ds : List D), PyData.depthAll (D.pys ds) ≤ D.deps ds
  | [] => by simp [D.pys, PyData.depthAll]
  | d :: ds => by
    have h1 := dep_le d
    have h2 := deps_le ds
    simp only [D.pys, PyData.depthAll, D.deps]
    omega
end
theorem rd_nb {S : Sto} {d : D} (h : D.nb d = true) : rd S d = d := by
  cases d <;> first | rfl | cases h
open Classical in
/-- == of plain data -/
theorem deq_nb {S : Sto} {a b : D} (h1 : D.nb a = true) (h2 : D.nb b = true) (hd : D.dep a ≤ 60) : deq S a b = some (decide (a = b)) := by
  unfold deq pyd
  rw [rd_nb h1, rd_nb h2, toPy_nb h1, toPy_nb h2]
  simp only
  have := dep_le a
  rw [if_pos (Nat.le_trans (Nat.min_le_left _ _) (Nat.le_trans this hd))]
  congr 1
  by_cases h : a = b
  · rw [decide_eq_true h]; exact (eqv_nb h1 h2).mpr h
  · rw [decide_eq_false h]
    cases e : PyData.eqv (D.py a) (D.py b) with
    | false => rfl
    | true => exact absurd ((eqv_nb h1 h2).mp e) h
theorem nbs_map {α : Type} {g : α → D} (h : ∀ a, D.nb (g a) = true) : ∀ l : List α, D.nbs (l.map g) = true
  | [] => rfl
  | a :: l => by rw [List.map_cons]; unfold D.nbs; rw [h a, nbs_map h l]; rfl
theorem deps_map {α : Type} {g : α → D} {k : Nat} (h : ∀ a, D.dep (g a) ≤ k) : ∀ l : List α, D.deps (l.map g) ≤ k
  | [] => Nat.zero_le _
  | a :: l => by
    rw [List.map_cons]
    unfold D.deps
    have := deps_map h l
    have := h a
    omega
theorem nbs_append {xs ys : List D} (h : D.nbs xs = true) (h2 : D.nbs ys = true) : D.nbs (xs ++ ys) = true := by
  induction xs with
  | nil => exact h2
  | cons x xs ih =>
    unfold D.nbs at h
    rw [Bool.and_eq_true] at h
    rw [List.cons_append]
    unfold D.nbs
    rw [h.1, ih h.2]; rfl
/-- sorting ints -/
theorem sortD_ints (ns : List Int) (hl : ns.length ≤ sizeLine) : sortD (ns.map .int) = some ((ns.mergeSort (fun a b => decide (a ≤ b))).map .int) := by
  have hpy : (ns.map D.int).map pyOf = ns.map PyData.int := by
    rw [List.map_map]; rfl
  unfold sortD
  rw [if_pos]
  · congr 1
    exact (List.map_mergeSort (f := D.int) (r := fun a b => decide (a ≤ b)) (s := PySem.W.dataLe false pyOf) (l := ns) (fun a _ b _ => by
      have e : PySem.W.dataLe false pyOf (D.int a) (D.int b) = PySem.W.dataLe false (fun z : Int => PyData.int z) a b := rfl
      rw [e, PySem.W.dataLe_int (fun z : Int => z)])).symm
  · refine ⟨fun x hx => ?_, ?_, ?_, by rw [List.length_map]; exact hl, fun x hx => ?_⟩
    · obtain ⟨i, _, rfl⟩ := List.mem_map.mp hx; rfl
    · rw [hpy]
      exact PySem.W.AllAlike.of (enc := PyData.int) fun _ _ => rfl
    · rw [hpy]
      exact PySem.W.Sortable.others (enc := PyData.int) fun b => ⟨(fun h => nomatch h), fun xs h => nomatch h⟩
    · obtain ⟨i, _, rfl⟩ := List.mem_map.mp hx
      show PyData.depth (.int i) ≤ 60
      simp [PyData.depth]
end Pw

set_option Elab.async false
set_option linter.all false
set_option maxRecDepth 100000
set_option maxHeartbeats 1000000
namespace Pw
open PySem PySem.Spec PyProof.Rows L2
/-! # what holds behind a piece of the text -/
/-- Q holds of the value and the store behind it, X of what is raised -/
inductive Wp {α : Type} : R α → (α → Sto → Prop) → (Xc → Sto → Prop) → Prop
  | ok {a : α} {S : Sto} {Q : α → Sto → Prop} {X : Xc → Sto → Prop} (h : Q a S) : Wp (.ok a S) Q X
  | exc {x : Xc} {S : Sto} {Q : α → Sto → Prop} {X : Xc → Sto → Prop} (h : X x S) : Wp (.exc x S) Q X
inductive WpS : SR → (Ev → Sto → Prop) → (D → Sto → Prop) → (Xc → Sto → Prop) → Prop
  | nx {e : Ev} {S : Sto} {N : Ev → Sto → Prop} {Q : D → Sto → Prop} {X : Xc → Sto → Prop} (h : N e S) : WpS (.nx e S) N Q X
  | ret {d : D} {S : Sto} {N : Ev → Sto → Prop} {Q : D → Sto → Prop} {X : Xc → Sto → Prop} (h : Q d S) : WpS (.ret d S) N Q X
  | exc {x : Xc} {e : Ev} {S : Sto} {N : Ev → Sto → Prop} {Q : D → Sto → Prop} {X : Xc → Sto → Prop} (h : X x S) : WpS (.exc x e S) N Q X
/-- nothing is raised -/
abbrev NoX : Xc → Sto → Prop := fun _ _ => False
section
variable {α β : Type} {Q : α → Sto → Prop} {X : Xc → Sto → Prop} {S : Sto}
@[simp] theorem Wp_ok (a : α) : Wp (.ok a S) Q X = Q a S := propext ⟨fun h => by cases h; assumption, .ok⟩
@[simp] theorem Wp_exc (x : Xc) : Wp (.exc x S : R α) Q X = X x S := propext ⟨fun h => by cases h; assumption, .exc⟩
@[simp] theorem Wp_bad : Wp (.bad : R α) Q X = False := propext ⟨fun h => (by cases h), False.elim⟩
@[simp] theorem Wp_bind (r : R α) (f : α → Sto → R β) (Q : β → Sto → Prop) : Wp (r.bind f) Q X = Wp r (fun a S => Wp (f a S) Q X) X := by
  cases r <;> simp
theorem Wp_opt (o : Option α) : Wp (R.opt S o) Q X = (∃ a, o = some a ∧ Q a S) := by
  cases o with
  | none => simp [R.opt]
  | some a => simp [R.opt]
theorem Wp_o (o : Option β) (f : β → R D) (Q : D → Sto → Prop) : Wp (R.o o f) Q X = (∃ a, o = some a ∧ Wp (f a) Q X) := by
  cases o <;> simp [R.o]
@[simp] theorem Wp_nox (r : R α) : Wp r.nox Q X = Wp r Q NoX := by
  cases r <;> simp [R.nox]
theorem Wp_ite {c : Prop} [Decidable c] (a b : R α) : Wp (if c then a else b) Q X = if c then Wp a Q X else Wp b Q X := by
  split <;> rfl
theorem Wp.mono {r : R α} {Q2 : α → Sto → Prop} {X2 : Xc → Sto → Prop} (h : Wp r Q X) (hq : ∀ a S, Q a S → Q2 a S) (hx : ∀ x S, X x S → X2 x S) : Wp r Q2 X2 := by
  cases h with
  | ok h => exact .ok (hq _ _ h)
  | exc h => exact .exc (hx _ _ h)
theorem Wp.then {r : R α} {Q2 : α → Sto → Prop} (h : Wp r Q NoX) (hq : ∀ a S, Q a S → Q2 a S) : Wp r Q2 X := h.mono hq fun _ _ z => z.elim
theorem Wp.of_eq {r : R α} {a : α} (h : r = .ok a S) (hq : Q a S) : Wp r Q X := by rw [h]; exact .ok hq
theorem Wp.ex {r : R α} (h : Wp r Q NoX) : ∃ a S, r = .ok a S ∧ Q a S := by
  cases h with
  | ok h => exact ⟨_, _, rfl, h⟩
  | exc h => exact False.elim h
variable {N : Ev → Sto → Prop} {T : D → Sto → Prop} {e : Ev}
@[simp] theorem WpS_nx : WpS (.nx e S) N T X = N e S := propext ⟨fun h => by cases h; assumption, .nx⟩
@[simp] theorem WpS_ret (d : D) : WpS (.ret d S) N T X = T d S := propext ⟨fun h => by cases h; assumption, .ret⟩
@[simp] theorem WpS_exc (x : Xc) : WpS (.exc x e S) N T X = X x S := propext ⟨fun h => by cases h; assumption, .exc⟩
@[simp] theorem WpS_bad : WpS .bad N T X = False := propext ⟨fun h => (by cases h), False.elim⟩
@[simp] theorem WpS_then (r : SR) (f : Ev → Sto → SR) : WpS (r.then_ f) N T X = WpS r (fun e S => WpS (f e S) N T X) T X := by
  cases r <;> simp
@[simp] theorem WpS_st (r : R α) (f : α → Sto → SR) : WpS (r.st e f) N T X = Wp r (fun a S => WpS (f a S) N T X) X := by
  cases r <;> simp
theorem WpS_optS (o : Option Ev) (f : Ev → SR) : WpS (optS o f) N T X = (∃ e, o = some e ∧ WpS (f e) N T X) := by
  cases o <;> simp [optS]
theorem WpS_ite {c : Prop} [Decidable c] (a b : SR) : WpS (if c then a else b) N T X = if c then WpS a N T X else WpS b N T X := by
  split <;> rfl
theorem WpS.mono {r : SR} {N2 : Ev → Sto → Prop} {T2 : D → Sto → Prop} {X2 : Xc → Sto → Prop} (h : WpS r N T X) (hn : ∀ a S, N a S → N2 a S) (hq : ∀ a S, T a S → T2 a S) (hx : ∀ x S, X x S → X2 x S) : WpS r N2 T2 X2 := by
  cases h with
  | nx h => exact .nx (hn _ _ h)
  | ret h => exact .ret (hq _ _ h)
  | exc h => exact .exc (hx _ _ h)
end
section
variable {Fs : Nat → Option Fn} {G : Nat → Option D} {n f : Nat} {F : Fn} {ds : List D} {S : Sto} {Q : D → Sto → Prop} {X : Xc → Sto → Prop}
/-- a call's end: what is told of the inside, closed -/
theorem Wp_call (h : Fs f = some F) (hl : ds.length = F.pars) (hw : WpS (denSs (callN Fs G n) G F.body (ds.map some ++ List.replicate (F.slots - F.pars) none) S) (fun e S' => Wp (closeR F.fz S (.nx e S')) Q X) (fun d S' => Wp (closeR F.fz S (.ret d S')) Q X) (fun x S' => Wp (closeR F.fz S (.exc x [] S')) Q X)) : Wp (callN Fs G (n + 1) f ds S) Q X := by
  rw [call_eq h hl]
  generalize denSs (callN Fs G n) G F.body (ds.map some ++ List.replicate (F.slots - F.pars) none) S = r at hw ⊢
  cases hw with
  | nx h => exact h
  | ret h => exact h
  | exc h => exact h
end
section
variable {S : Sto} {X : Xc → Sto → Prop}
/-- a comprehension, by an invariant on index, rows so far and store -/
theorem Wp_comp {α : Type} {tg : Tg} {own : List Nat} {src : Src} {e0 : Ev} {t : Ev → Sto → R Bool} {elt : Ev → Sto → R D} {enc : α → D} {Q : List D → Sto → Prop} (Inv : Nat → List D → Sto → Prop) :
    ∀ (ys : List α) (i : Nat) (acc : List D) (S : Sto), acc.length + ys.length ≤ sizeLine → Inv i acc S →
    (∀ j acc S (hj : j < ys.length), Inv (i + j) acc S → src.stays S ∧ ∃ e1, Tg.put tg (enc ys[j]) S (wipeE e0 own) = some e1 ∧ Wp (t e1 S) (fun b S1 => if b then Wp (elt e1 S1) (fun y S2 => Inv (i + j + 1) (acc ++ [y]) S2) NoX else Inv (i + j + 1) acc S1) NoX) →
    (∀ acc S, Inv (i + ys.length) acc S → src.stays S ∧ Q acc S) → Wp (compLoop tg own src e0 t elt (ys.map enc) acc S) Q X
  | [], i, acc, S, _, hi, _, hq => by
    obtain ⟨h1, h2⟩ := hq acc S hi
    unfold compLoop
    simp only [List.map_nil]
    rw [if_pos h1]
    exact .ok h2
  | y :: ys, i, acc, S, hl, hi, h, hq => by
    rw [List.length_cons] at hl
    obtain ⟨h1, e1, h2, h3⟩ := h 0 acc S (Nat.zero_lt_succ _) hi
    have ih := fun acc S hl hi => Wp_comp (Q := Q) (enc := enc) (tg := tg) (own := own) (src := src) (e0 := e0) (t := t) (elt := elt) Inv ys (i + 1) acc S hl hi (fun j acc S hj hi => by
      have := h (j + 1) acc S (Nat.succ_lt_succ hj)
      rw [show i + 1 + j = i + (j + 1) by omega] at hi ⊢
      exact this hi) (fun acc S hi => hq acc S (by rw [List.length_cons]; rw [show i + (ys.length + 1) = i + 1 + ys.length by omega]; exact hi))
    rw [List.map_cons]
    unfold compLoop
    rw [if_pos h1]
    simp only [List.getElem_cons_zero] at h2
    rw [h2]
    simp only [Wp_bind, Wp_nox]
    refine h3.then fun b S1 hb => ?_
    cases b with
    | false => exact ih acc S1 (by omega) hb
    | true =>
      simp only [if_true] at hb ⊢
      rw [Wp_bind, Wp_nox]
      refine hb.then fun y S2 hy => ?_
      rw [if_pos (by omega)]
      exact ih _ S2 (by rw [List.length_append, List.length_singleton]; omega) hy
/-- a for over rows, by an invariant on index, names and store; what is returned in it goes out -/
theorem WpS_for {α : Type} {tg : Tg} {src : Src} {body : Ev → Sto → SR} {enc : α → D} {N : Ev → Sto → Prop} {T : D → Sto → Prop} (Inv : Nat → Ev → Sto → Prop) :
    ∀ (ys : List α) (i : Nat) (e : Ev) (S : Sto), Inv i e S →
    (∀ j e S (hj : j < ys.length), Inv (i + j) e S → src.stays S ∧ ∃ e1, Tg.put tg (enc ys[j]) S e = some e1 ∧ WpS (body e1 S) (fun e S => Inv (i + j + 1) e S) T X) →
    (∀ e S, Inv (i + ys.length) e S → src.stays S ∧ N e S) → WpS (forLoop tg src body (ys.map enc) e S) N T X
  | [], i, e, S, hi, _, hq => by
    obtain ⟨h1, h2⟩ := hq e S hi
    unfold forLoop
    simp only [List.map_nil]
    rw [if_pos h1]
    exact .nx h2
  | y :: ys, i, e, S, hi, h, hq => by
    obtain ⟨h1, e1, h2, h3⟩ := h 0 e S (Nat.zero_lt_succ _) hi
    have ih := fun e S hi => WpS_for (N := N) (T := T) (enc := enc) (tg := tg) (src := src) (body := body) Inv ys (i + 1) e S hi (fun j e S hj hi => by
      have := h (j + 1) e S (Nat.succ_lt_succ hj)
      rw [show i + 1 + j = i + (j + 1) by omega] at hi ⊢
      exact this hi) (fun e S hi => hq e S (by rw [List.length_cons]; rw [show i + (ys.length + 1) = i + 1 + ys.length by omega]; exact hi))
    rw [List.map_cons]
    unfold forLoop
    rw [if_pos h1]
    simp only [List.getElem_cons_zero] at h2
    rw [h2]
    simp only [optS_some, WpS_then]
    exact h3.mono (fun e S hi => ih e S hi) (fun _ _ z => z) (fun _ _ z => z)
/-- a while, by an invariant with a measure -/
theorem WpS_while {c : Ev → Sto → R Bool} {b : Ev → Sto → SR} {N : Ev → Sto → Prop} {T : D → Sto → Prop} (Inv : Nat → Ev → Sto → Prop)
    (h : ∀ m e S, Inv m e S → Wp (c e S) (fun t S1 => if t then WpS (b e S1) (fun e2 S2 => ∃ m2, m2 < m ∧ Inv m2 e2 S2) T X else N e S1) X) : ∀ (m : Nat) (e : Ev) (S : Sto), Inv m e S → WpS (whileS c b e S) N T X := by
  intro m
  induction m using Nat.strongRecOn with
  | ind m ih =>
    intro e S hi
    have h1 := h m e S hi
    cases hc : c e S with
    | ok t S1 =>
      rw [hc] at h1
      simp only [Wp_ok] at h1
      cases t with
      | false => rw [whileS_end hc]; exact .nx (by simpa using h1)
      | true =>
        simp only [if_true] at h1
        cases hb : b e S1 with
        | nx e2 S2 =>
          rw [hb, WpS_nx] at h1
          obtain ⟨m2, hm, hi2⟩ := h1
          rw [whileS_turn hc hb]
          exact ih m2 hm e2 S2 hi2
        | ret d S2 => rw [hb, WpS_ret] at h1; rw [whileS_ret hc hb]; exact .ret h1
        | exc x e2 S2 => rw [hb, WpS_exc] at h1; rw [whileS_exc hc hb]; exact .exc h1
        | bad => rw [hb, WpS_bad] at h1; exact False.elim h1
    | exc x S1 =>
      rw [hc, Wp_exc] at h1
      have e1 : whileN c b 1 e S = .exc x e S1 := by
        show (c e S).st e _ = _
        rw [hc]; simp
      rw [whileS_of (n := 1) (by rw [e1]; intro z; cases z), e1]
      exact .exc h1
    | bad => rw [hc, Wp_bad] at h1; exact False.elim h1
end
end Pw

set_option Elab.async false
set_option linter.all false
set_option maxRecDepth 100000
set_option maxHeartbeats 1000000
namespace Pw
open PySem PySem.Spec PyProof.Rows L2
/-! # sequences, draws' stores, calls' ends -/
section
variable {S S' : Sto} {α : Type}
/-- it is a sequence of these -/
def Sq (S : Sto) (X : D) (xs : List D) : Prop := rd S X = .tup xs ∨ rd S X = .lst xs
theorem Sq.tup (xs : List D) : Sq S (.tup xs) xs := .inl rfl
theorem Sq.lst (xs : List D) : Sq S (.lst xs) xs := .inr rfl
theorem Sq.ref {l : Nat} {xs : List D} (h : S[l]? = some (.lst xs)) : Sq S (.ref l) xs := .inr (by rw [rd_ref, h]; rfl)
theorem small' {n : Nat} (h : n ≤ 100000) : n ≤ sizeLine := by rw [sizeLine_eq]; omega
theorem Sq.ix {X : D} {xs : List D} (h : Sq S X xs) {k : Nat} (hk : k < xs.length) : Pw.index S X (.int (k : Int)) = some xs[k] := by
  unfold Pw.index
  have : atI xs (k : Int) = some xs[k] := by
    unfold atI
    rw [show ixN xs.length (k : Int) = some k from by unfold ixN; rw [if_pos (by omega), if_pos (by omega), Int.toNat_natCast]]
    exact List.getElem?_eq_getElem hk
  rcases h with h | h <;> rw [h] <;> exact this
theorem Sq.ixm {X : D} {enc : α → D} {xs : List α} (h : Sq S X (xs.map enc)) {k : Nat} (hk : k < xs.length) : Pw.index S X (.int (k : Int)) = some (enc xs[k]) := by
  rw [h.ix (by rw [List.length_map]; exact hk), List.getElem_map]
theorem Sq.len {X : D} {xs : List D} {bx : Bool} (h : Sq S X xs) : prim .len bx [X] S = .ok (.int xs.length) S := by
  show pLen S X = _
  unfold pLen
  rcases h with h | h <;> rw [h]
theorem Sq.tuple {X : D} {xs : List D} {bx : Bool} (h : Sq S X xs) : prim .tuple bx [X] S = .ok (.tup xs) S := by
  show pTuple S X = _
  unfold pTuple
  rcases h with h | h <;> rw [h]
/-- words in a list -/
theorem toPys_strs : ∀ ws : List Str, D.toPys (ws.map .str) = some (ws.map PyData.str)
  | [] => rfl
  | w :: ws => by
    rw [List.map_cons]
    unfold D.toPys
    rw [toPys_strs ws]
    rfl
theorem toPys_ints : ∀ ws : List Int, D.toPys (ws.map .int) = some (ws.map PyData.int)
  | [] => rfl
  | w :: ws => by
    rw [List.map_cons]
    unfold D.toPys
    rw [toPys_ints ws]
    rfl
theorem anyEq_strs (w : Str) (ws : List Str) : anyEq S (.str w) (ws.map .str) = some (decide (w ∈ ws)) := by
  unfold anyEq inSeq
  rw [show pyd S (.str w) = some (.str w) from rfl, toPys_strs]
  simp only
  rw [if_pos (by show min _ (PyData.depth (.str w)) ≤ 60; simp [PyData.depth])]
  congr 1
  rw [Bool.eq_iff_iff, List.any_eq_true, decide_eq_true_iff]
  constructor
  · rintro ⟨x, hx, h⟩
    obtain ⟨y, hy, rfl⟩ := List.mem_map.mp hx
    simp only [PyData.eqv, beq_iff_eq] at h
    exact h ▸ hy
  · intro h
    exact ⟨_, List.mem_map.mpr ⟨w, h, rfl⟩, by simp [PyData.eqv]⟩
theorem Sq.inS {X : D} {w : Str} {ws : List Str} (h : Sq S X (ws.map .str)) : cmpop .isin (.str w) X S = some (decide (w ∈ ws)) := by
  have e := anyEq_strs (S := S) w ws
  rcases h with h | h <;> simp only [cmpop, h, e]
theorem Sq.notinS {X : D} {w : Str} {ws : List Str} (h : Sq S X (ws.map .str)) : cmpop .notin (.str w) X S = some (!decide (w ∈ ws)) := by
  have e := anyEq_strs (S := S) w ws
  rcases h with h | h <;> simp only [cmpop, h, e, Option.map_some]
theorem strs_map : ∀ ws : List Str, strs? (ws.map .str) = some ws
  | [] => rfl
  | w :: ws => by
    show (strs? (ws.map .str)).map (w :: ·) = _
    rw [strs_map ws]; rfl
/-! ### range -/
theorem rng1 {j : Int} (h2 : j < 2 ^ 62) (h1 : -(2 ^ 62) ≤ j := by omega) : (rangeOf 1 [D.int j]).map (fun q => (⟨rangeD q.1 q.2, []⟩ : Src)) = some ⟨(List.range j.toNat).map fun (k : Nat) => D.int (k : Int), []⟩ := by
  simp only [rangeOf, h1, h2, and_self, if_true, Option.map_some]
  congr 2
  unfold rangeD
  apply List.map_congr_left
  intro a _
  rw [Int.zero_add]
/-! ### frames -/
/-- all places but these are as they were -/
def Fr (A : Nat → Prop) (S S2 : Sto) : Prop := S2.length = S.length ∧ ∀ l, ¬ A l → S2[l]? = S[l]?
/-- .. and new ones may have come -/
def FrG (A : Nat → Prop) (S S2 : Sto) : Prop := S.length ≤ S2.length ∧ ∀ l, l < S.length → ¬ A l → S2[l]? = S[l]?
variable {A : Nat → Prop} {S2 S3 : Sto}
theorem Fr.refl : Fr A S S := ⟨rfl, fun _ _ => rfl⟩
theorem Fr.trans (h : Fr A S S2) (h2 : Fr A S2 S3) : Fr A S S3 := ⟨h2.1.trans h.1, fun l hl => (h2.2 l hl).trans (h.2 l hl)⟩
theorem Fr.mono {B : Nat → Prop} (h : Fr A S S2) (hb : ∀ l, A l → B l) : Fr B S S2 := ⟨h.1, fun l hl => h.2 l fun z => hl (hb l z)⟩
theorem Fr.g (h : Fr A S S2) : FrG A S S2 := ⟨Nat.le_of_eq h.1.symm, fun l _ hl => h.2 l hl⟩
theorem FrG.refl : FrG A S S := ⟨Nat.le_refl _, fun _ _ _ => rfl⟩
theorem FrG.trans (h : FrG A S S2) (h2 : FrG A S2 S3) : FrG A S S3 := ⟨Nat.le_trans h.1 h2.1, fun l hl hA => (h2.2 l (Nat.lt_of_lt_of_le hl h.1) hA).trans (h.2 l hl hA)⟩
theorem FrG.mono {B : Nat → Prop} (h : FrG A S S2) (hb : ∀ l, l < S.length → A l → B l) : FrG B S S2 := ⟨h.1, fun l hl hB => h.2 l hl fun z => hB (hb l hl z)⟩
theorem FrG.trans2 {B : Nat → Prop} (h : FrG A S S2) (h2 : FrG B S2 S3) (hb : ∀ l, l < S.length → B l → A l) : FrG A S S3 := ⟨Nat.le_trans h.1 h2.1, fun l hl hA => (h2.2 l (Nat.lt_of_lt_of_le hl h.1) fun z => hA (hb l hl z)).trans (h.2 l hl hA)⟩
theorem FrG.push (m : MO) : FrG A S (S ++ [m]) := ⟨by simp, fun l hl _ => List.getElem?_append_left hl⟩
theorem FrG.set {l : Nat} {m : MO} (h : A l) : FrG A S (S.set l m) := ⟨by simp, fun k hk hA => List.getElem?_set_ne (fun (z : l = k) => hA (z ▸ h))⟩
theorem FrG.setNew {l : Nat} {m : MO} (h : FrG A S S2) (hl : S.length ≤ l) : FrG A S (S2.set l m) := ⟨by simpa using h.1, fun k hk hA => by rw [List.getElem?_set_ne (by omega)]; exact h.2 k hk hA⟩
theorem Fr.set {l : Nat} {m : MO} (h : A l) : Fr A S (S.set l m) := ⟨by simp, fun k hA => List.getElem?_set_ne (fun (z : l = k) => hA (z ▸ h))⟩
/-- a place that holds flat data alone -/
def Low (S2 : Sto) (l : Nat) : Prop := ∃ m, S2[l]? = some m ∧ ∀ n, m.low n = true
theorem lows_pures {n : Nat} : ∀ {xs : List D}, D.pures xs = true → D.lows n xs = true
  | [], _ => rfl
  | x :: xs, h => by
    unfold D.pures at h
    rw [Bool.and_eq_true] at h
    unfold D.lows
    rw [low_pure h.1, lows_pures h.2]; rfl
where low_pure {n : Nat} : ∀ {x : D}, D.pure x = true → D.low n x = true
  | .non, _ => rfl
  | .bl _, _ => rfl
  | .int _, _ => rfl
  | .str _, _ => rfl
  | .tup xs, h => lows_pures (xs := xs) h
  | .lst xs, h => lows_pures (xs := xs) h
  | .dct _ xs, h => lows_pures (xs := xs) h
  | .ref _, h => by cases h
theorem Low.lst {l : Nat} {xs : List D} (h : S2[l]? = some (.lst xs)) (hp : D.pures xs = true) : Low S2 l := ⟨_, h, fun _ => lows_pures hp⟩
/-- a call's end: what is told has no places; what it wrote is flat -/
theorem Wp_close {d : D} {Q : D → Sto → Prop} {X : Xc → Sto → Prop} (hf : FrG A S S2) (hA : ∀ l, l < S.length → A l → Low S2 l) (hp : D.pure d = true)
    (hq : Fr A S (S2.take S.length) → (∀ l, l < S.length → (S2.take S.length)[l]? = S2[l]?) → Q d (S2.take S.length)) : Wp (closeR true S (.ret d S2)) Q X := by
  have hg : ∀ l, l < S.length → (S2.take S.length)[l]? = S2[l]? := fun l hl => List.getElem?_take_of_lt hl
  have hl : (S2.take S.length).length = S.length := by rw [List.length_take]; have := hf.1; omega
  rw [closeR_pure hp hf.1]
  · rw [Wp_ok]
    refine hq ⟨hl, fun l hA => ?_⟩ hg
    by_cases e : l < S.length
    · rw [hg l e]; exact hf.2 l e hA
    · rw [List.getElem?_eq_none (by omega), List.getElem?_eq_none (by omega)]
  · intro l hl
    by_cases e : A l
    · obtain ⟨m, h1, h2⟩ := hA l hl e
      exact .inr ⟨m, h1, h2 _⟩
    · exact .inl (hf.2 l hl e)
end
end Pw

set_option Elab.async false
set_option linter.all false
set_option maxRecDepth 100000
set_option maxHeartbeats 1000000
namespace Pw
open PySem PySem.Spec PyProof.Rows L2
/-! # stepping -/
section
variable {S : Sto} {X : Xc → Sto → Prop} {C : Nat → List D → Sto → R D} {G : Nat → Option D} {N : Ev → Sto → Prop} {T : D → Sto → Prop} {e : Ev}
theorem WpS_cons (s : SI) (ss : List SI) : WpS (denSs C G (s :: ss) e S) N T X = WpS (denS C G s e S) (fun e S => WpS (denSs C G ss e S) N T X) T X := by
  rw [ss_cons, WpS_then]
@[simp] theorem Wp_mkLf (xs : List D) (Q : D → Sto → Prop) : Wp (mkL false xs S) Q X = (xs.length ≤ sizeLine ∧ Q (.lst xs) S) := by
  unfold mkL
  by_cases h : xs.length ≤ sizeLine
  · rw [if_pos h]; simp [h]
  · rw [if_neg h]; simp [h]
@[simp] theorem Wp_mkLt (xs : List D) (Q : D → Sto → Prop) : Wp (mkL true xs S) Q X = (xs.length ≤ sizeLine ∧ Q (.ref S.length) (S ++ [.lst xs])) := by
  unfold mkL
  by_cases h : xs.length ≤ sizeLine
  · rw [if_pos h]; simp [h]
  · rw [if_neg h]; simp [h]
@[simp] theorem Wp_okif {α : Type} {c : Prop} [Decidable c] (a : α) (Q : α → Sto → Prop) : Wp (if c then .ok a S else .bad) Q X = (c ∧ Q a S) := by
  split <;> simp_all
theorem WpS_sub (o : Option Sto) : WpS (match o with
      | some S4 => .nx e S4
      | none => .bad) N T X = (∃ S4, o = some S4 ∧ N e S4) := by
  cases o <;> simp
@[simp] theorem src1_str (x : Str) : src1 S (.str x) = some ⟨chars x, []⟩ := (rfl)
@[simp] theorem src1_tup (x : List D) : src1 S (.tup x) = some ⟨x, []⟩ := (rfl)
@[simp] theorem src1_lst (x : List D) : src1 S (.lst x) = some ⟨x, []⟩ := (rfl)
theorem src1_ref {l : Nat} {x : List D} (h : S[l]? = some (.lst x)) : src1 S (.ref l) = some ⟨x, [(l, x)]⟩ := by
  unfold src1
  rw [rd_ref, h]
  rfl
@[simp] theorem srcEnum_tup (x : List D) : srcEnum S (.tup x) = some ⟨enumD x, []⟩ := (rfl)
@[simp] theorem srcEnum_lst (x : List D) : srcEnum S (.lst x) = some ⟨enumD x, []⟩ := (rfl)
@[simp] theorem stays_nil' (xs : List D) : Src.stays ⟨xs, []⟩ S = True := eq_true (stays_nil xs)
@[simp] theorem seq_tup (x : List D) : seqOf S (.tup x) = some x := (rfl)
@[simp] theorem seq_lst (x : List D) : seqOf S (.lst x) = some x := (rfl)
@[simp] theorem put_n (i : Nat) (d : D) : Tg.put (.n i) d S e = if i < e.length then some (e.set i (some d)) else none := (rfl)
theorem put_tu (ts : List Tg) (d : D) : Tg.put (.tu ts) d S e = match seqOf S d with
    | some xs => if xs.length = ts.length then Tg.puts ts xs S e else none
    | none => none := (rfl)
@[simp] theorem put_tup (ts : List Tg) (xs : List D) : Tg.put (.tu ts) (.tup xs) S e = if xs.length = ts.length then Tg.puts ts xs S e else none := (rfl)
@[simp] theorem put_lst (ts : List Tg) (xs : List D) : Tg.put (.tu ts) (.lst xs) S e = if xs.length = ts.length then Tg.puts ts xs S e else none := (rfl)
@[simp] theorem puts_nil : Tg.puts [] [] S e = some e := (rfl)
@[simp] theorem puts_cons (t : Tg) (ts : List Tg) (d : D) (ds : List D) : Tg.puts (t :: ts) (d :: ds) S e = match Tg.put t d S e with
    | some e' => Tg.puts ts ds S e'
    | none => none := (rfl)
@[simp] theorem wipe_nil : wipeE e [] = e := (rfl)
@[simp] theorem wipe_cons (v : Nat) (vs : List Nat) : wipeE e (v :: vs) = (wipeE e vs).set v none := (rfl)
theorem ix_str {z : Str} {k : Nat} (hk : k < z.cps.toList.length) (hl : z.length ≤ sizeLine) : Pw.index S (.str z) (.int (k : Int)) = some (.str ⟨#[z.cps.toList[k]]⟩) := by
  unfold Pw.index
  simp only [rd_str]
  rw [show strBig z = true from decide_eq_true hl, if_pos rfl]
  have : atI z.cps.toList (k : Int) = some z.cps.toList[k] := by
    unfold atI
    rw [show ixN z.cps.toList.length (k : Int) = some k from by unfold ixN; rw [if_pos (by omega), if_pos (by omega), Int.toNat_natCast]]
    exact List.getElem?_eq_getElem hk
  rw [this]
  rfl
theorem tTup {bx : Bool} (xs : List D) : prim .tuple bx [.tup xs] S = .ok (.tup xs) S := (rfl)
theorem tLst {bx : Bool} (xs : List D) : prim .tuple bx [.lst xs] S = .ok (.tup xs) S := (rfl)
theorem lTup {bx : Bool} (xs : List D) : prim .len bx [.tup xs] S = .ok (.int xs.length) S := (rfl)
theorem lLst {bx : Bool} (xs : List D) : prim .len bx [.lst xs] S = .ok (.int xs.length) S := (rfl)
theorem b_add (i j : Int) (bx : Bool) : binop .add bx (.int i) (.int j) S = .ok (.int (i + j)) S := (rfl)
theorem b_sub (i j : Int) (bx : Bool) : binop .sub bx (.int i) (.int j) S = .ok (.int (i - j)) S := (rfl)
theorem b_adds (x y : Str) (bx : Bool) : binop .add bx (.str x) (.str y) S = if x.length + y.length ≤ sizeLine then .ok (.str (x ++ y)) S else .bad := (rfl)
theorem b_addt (x y : List D) (bx : Bool) : binop .add bx (.tup x) (.tup y) S = if x.length + y.length ≤ sizeLine then .ok (.tup (x ++ y)) S else .bad := (rfl)
theorem b_addl (x y : List D) (bx : Bool) : binop .add bx (.lst x) (.lst y) S = mkL bx (x ++ y) S := (rfl)
theorem b_mod (i j : Int) (bx : Bool) (h : 0 < j) : binop .mod bx (.int i) (.int j) S = .ok (.int (i % j)) S := by
  show R.opt S (((if 0 < j then some (i % j) else none) : Option Int).map D.int) = _
  rw [if_pos h]
  rfl
theorem b_fdiv (i j : Int) (bx : Bool) (h : 0 < j) (h2 : j < 1073741824) : binop .fdiv bx (.int i) (.int j) S = .ok (.int (i / j)) S := by
  show R.opt S (((if 0 < j ∧ j < 1073741824 then some (i / j) else none) : Option Int).map D.int) = _
  rw [if_pos ⟨h, h2⟩]
  rfl
theorem c_eqi (i j : Int) : cmpop .eq (.int i) (.int j) S = some (decide (i = j)) := by
  have e := deq_nb (S := S) (a := .int i) (b := .int j) rfl rfl (by simp [D.dep])
  simp only [cmpop, e]
  simp
theorem c_nei (i j : Int) : cmpop .ne (.int i) (.int j) S = some (!decide (i = j)) := by
  have e := deq_nb (S := S) (a := .int i) (b := .int j) rfl rfl (by simp [D.dep])
  simp only [cmpop, e]
  simp
theorem c_eqs (i j : Str) : cmpop .eq (.str i) (.str j) S = some (decide (i = j)) := by
  have e := deq_nb (S := S) (a := .str i) (b := .str j) rfl rfl (by simp [D.dep])
  simp only [cmpop, e]
  simp
theorem c_nes (i j : Str) : cmpop .ne (.str i) (.str j) S = some (!decide (i = j)) := by
  have e := deq_nb (S := S) (a := .str i) (b := .str j) rfl rfl (by simp [D.dep])
  simp only [cmpop, e]
  simp
theorem c_lt (i j : Int) : cmpop .lt (.int i) (.int j) S = some (decide (i < j)) := (rfl)
theorem c_le (i j : Int) : cmpop .le (.int i) (.int j) S = some (decide (i ≤ j)) := (rfl)
theorem c_gt (i j : Int) : cmpop .gt (.int i) (.int j) S = some (decide (j < i)) := (rfl)
theorem c_ge (i j : Int) : cmpop .ge (.int i) (.int j) S = some (decide (j ≤ i)) := (rfl)
@[simp] theorem tr_bl (b : Bool) : truth S (.bl b) = some b := (rfl)
@[simp] theorem kd_lst (xs : List D) : kd S (.lst xs) = 1 := (rfl)
@[simp] theorem kd_tup (xs : List D) : kd S (.tup xs) = 2 := (rfl)
@[simp] theorem kd_str (xs : Str) : kd S (.str xs) = 4 := (rfl)
theorem kd_refl {l : Nat} {x : List D} (h : S[l]? = some (.lst x)) : kd S (.ref l) = 1 := by
  unfold kd
  rw [rd_ref, h]
  rfl
theorem p_app {bx : Bool} {j : Nat} {xs : List D} {y : D} (h : S[j]? = some (.lst xs)) (hl : xs.length < sizeLine) : prim .append bx [.ref j, y] S = .ok .non (S.set j (.lst (xs ++ [y]))) := by
  show dAppend (.ref j) y S = _
  unfold dAppend
  simp only [h]
  rw [if_pos hl]
theorem Wp_pure {α : Type} {r : R α} {a : α} {Q : α → Sto → Prop} (h : r = .ok a S) : Wp r Q X = Q a S := by rw [h, Wp_ok]
@[simp] theorem Wp_tOf {r : R D} {Q : Bool → Sto → Prop} : Wp (tOf r) Q X = Wp r (fun d S => Wp (R.opt S (truth S d)) Q X) X := by
  unfold tOf
  simp
/-- pieces meet again -/
theorem WpS.join {r : SR} {N2 : Ev → Sto → Prop} (N : Ev → Sto → Prop) (h : WpS r N T X) (hn : ∀ e S, N e S → N2 e S) : WpS r N2 T X := h.mono hn (fun _ _ z => z) (fun _ _ z => z)
theorem nodup_le {α : Type} [DecidableEq α] : ∀ {l ws : List α}, l.Nodup → l ⊆ ws → l.length ≤ ws.length
  | [], _, _, _ => Nat.zero_le _
  | x :: l, ws, hn, hs => by
    have hx : x ∈ ws := hs (List.mem_cons_self ..)
    rw [List.nodup_cons] at hn
    have h1 : l ⊆ ws.erase x := by
      intro y hy
      have hne : y ≠ x := fun z => hn.1 (z ▸ hy)
      exact (List.mem_erase_of_ne hne).mpr (hs (List.mem_cons_of_mem _ hy))
    have h2 := nodup_le hn.2 h1
    rw [List.length_erase_of_mem hx] at h2
    have := List.length_pos_of_mem hx
    rw [List.length_cons]
    omega
end
end Pw

set_option Elab.async false
set_option linter.all false
set_option maxRecDepth 100000
set_option maxHeartbeats 1000000
namespace Pw
open PySem PySem.Spec PyProof.Rows L2
/-! # slices, lists of numbers, pops -/
section
variable {S : Sto} {X : Xc → Sto → Prop}
theorem cut_from (xs : List D) (k : Nat) : cutD xs (some (k : Int)) none = xs.drop k := by
  unfold cutD
  rw [HT.sIx_nat, HT.sIx_none]
  by_cases h : k ≤ xs.length
  · rw [Nat.min_eq_left h, List.take_of_length_le (by rw [List.length_drop]; omega)]
  · rw [Nat.min_eq_right (by omega), List.drop_of_length_le (Nat.le_refl _), List.drop_of_length_le (by omega)]
    simp
theorem cut_to (xs : List D) (k : Nat) : cutD xs none (some (k : Int)) = xs.take k := by
  unfold cutD
  rw [HT.sIx_nat, HT.sIx_none, List.drop_zero, Nat.sub_zero]
  by_cases h : k ≤ xs.length
  · rw [Nat.min_eq_left h]
  · rw [Nat.min_eq_right (by omega), List.take_of_length_le (Nat.le_refl _), List.take_of_length_le (by omega)]
theorem sl_tup {bx : Bool} (xs : List D) (a b : Option Int) : slice bx (.tup xs) a b S = .ok (.tup (cutD xs a b)) S := (rfl)
theorem sl_lst {bx : Bool} (xs : List D) (a b : Option Int) : slice bx (.lst xs) a b S = mkL bx (cutD xs a b) S := (rfl)
theorem rv_tup {bx : Bool} (xs : List D) : revd bx (.tup xs) S = .ok (.tup xs.reverse) S := (rfl)
theorem cut_mem {xs : List D} {a b : Option Int} : ∀ d ∈ cutD xs a b, d ∈ xs := fun d h => List.mem_of_mem_drop (List.mem_of_mem_take h)
theorem cut_len {xs : List D} {a b : Option Int} : (cutD xs a b).length ≤ xs.length := by
  unfold cutD
  rw [List.length_take, List.length_drop]
  omega
@[simp] theorem asInt_int (i : Int) : asInt (.int i) = some (some i) := (rfl)
theorem tList {bx : Bool} (xs : List D) : prim .list bx [.tup xs] S = mkL bx xs S := (rfl)
theorem lList {bx : Bool} (xs : List D) : prim .list bx [.lst xs] S = mkL bx xs S := (rfl)
theorem p_mx {bx : Bool} (i j : Int) : prim .max2 bx [.int i, .int j] S = .ok (.int (if j > i then j else i)) S := (rfl)
theorem p_mn {bx : Bool} (i j : Int) : prim .min2 bx [.int i, .int j] S = .ok (.int (if j < i then j else i)) S := (rfl)
theorem p_rngL {bx : Bool} {j : Int} (h2 : j < 10000000) (h1 : -(2 ^ 62) ≤ j := by omega) : prim (.rangeL 1) bx [.int j] S = mkL bx ((List.range j.toNat).map fun (k : Nat) => D.int (k : Int)) S := by
  show R.o (rangeOf 1 [.int j]) (fun q => if q.2 ≤ sizeLine then mkL bx (rangeD q.1 q.2) S else .bad) = _
  have e : rangeOf 1 [.int j] = some (0, j.toNat) := by
    simp only [rangeOf]
    rw [if_pos ⟨trivial, h1, by omega⟩]
  rw [e]
  simp only [R.o_some]
  rw [if_pos (by rw [sizeLine_eq]; omega)]
  congr 1
  unfold rangeD
  apply List.map_congr_left
  intro a _
  rw [Int.zero_add]
theorem p_popat {bx : Bool} {j : Nat} {xs : List D} {k : Nat} (h : S[j]? = some (.lst xs)) (hk : k < xs.length) (hl : xs.length ≤ 1000000) : prim .popAt bx [.ref j, .int (k : Int)] S = .ok xs[k] (S.set j (.lst (xs.eraseIdx k))) := by
  show dPopAt (.ref j) (.int k) S = _
  unfold dPopAt
  simp only [h]
  rw [show ixN xs.length (k : Int) = some k from by unfold ixN; rw [if_pos (by omega), if_pos (by omega), Int.toNat_natCast]]
  simp only [R.o_some]
  rw [List.getElem?_eq_getElem hk]
  simp only [R.o_some]
  rw [if_pos (by omega)]
theorem perm_erase {α : Type} : ∀ {ls : List α} {k : Nat} (h : k < ls.length), (ls[k] :: ls.eraseIdx k).Perm ls
  | [], _, h => by cases h
  | x :: ls, 0, _ => List.Perm.refl _
  | x :: ls, k + 1, h => (List.Perm.swap ..).trans ((perm_erase (ls := ls) (k := k) (by simpa using h)).cons x)
theorem map_erase' {α : Type} (g : α → D) : ∀ (ls : List α) (k : Nat), (ls.map g).eraseIdx k = (ls.eraseIdx k).map g
  | [], _ => rfl
  | _ :: _, 0 => rfl
  | x :: ls, k + 1 => by
    show g x :: (ls.map g).eraseIdx k = g x :: (ls.eraseIdx k).map g
    rw [map_erase' g ls k]
theorem Sq.ixd {α : Type} {Y : D} {enc : α → D} {xs : List α} (z : α) (h : Sq S Y (xs.map enc)) {k : Nat} (hk : k < xs.length) : Pw.index S Y (.int (k : Int)) = some (enc (xs.getD k z)) := by
  rw [h.ixm hk, List.getD_eq_getElem?_getD, List.getElem?_eq_getElem hk]
  rfl
theorem getD_in {α : Type} (z : α) {xs : List α} {k : Nat} (hk : k < xs.length) : xs.getD k z ∈ xs := by
  rw [List.getD_eq_getElem?_getD, List.getElem?_eq_getElem hk]
  exact List.getElem_mem hk
end
end Pw

set_option Elab.async false
set_option linter.all false
set_option maxRecDepth 100000
set_option maxHeartbeats 1000000
namespace Pw
open PySem PySem.Spec PyProof.Rows L2
/-! # the terms' values, by their parts: what came later -/
section
variable {C : Nat → List D → Sto → R D} {G : Nat → Option D} {e : Ev} {S : Sto} {X : Xc → Sto → Prop}
@[simp] theorem v_dcomp (bx : Bool) (tg : Tg) (it : I) (own : List Nat) (ke ve : E) : (den C G (.dcomp bx tg it own ke ve)).v e S = (denI C G it e S).bind fun src S1 =>
      (dcompLoop tg own src e (den C G ke).v (den C G ve).v src.xs ([], []) S1).bind fun q S2 => mkD bx q.1 q.2 S2 := (rfl)
@[simp] theorem v_isi2 (a : E) (t u : Ty) : (den C G (.isi2 a t u)).v e S = ((den C G a).v e S).bind fun x S1 => R.opt S1 ((tyIs2 S1 x t u).map .bl) := (rfl)
@[simp] theorem t_isi2 (a : E) (t u : Ty) : (den C G (.isi2 a t u)).t e S = tOf ((den C G (.isi2 a t u)).v e S) := (rfl)
@[simp] theorem v_dct0 (bx : Bool) : (den C G (.dct0 bx)).v e S = if bx then .ok (.ref S.length) (S ++ [.dct [] []]) else .ok (.dct [] []) S := (rfl)
@[simp] theorem i_zip (a b : E) : denI C G (.zip a b) e S = ((den C G a).v e S).bind fun x S1 => ((den C G b).v e S1).bind fun y S2 => R.opt S2 (srcZip S2 x y) := (rfl)
@[simp] theorem i_zip3 (a b c : E) : denI C G (.zip3 a b c) e S = ((den C G a).v e S).bind fun x S1 => ((den C G b).v e S1).bind fun y S2 => ((den C G c).v e S2).bind fun z S3 => R.opt S3 (srcZip3 S3 x y z) := (rfl)
@[simp] theorem s_aug (i : Nat) (o : BOp) (a : E) : denS C G (.aug i o a) e S = (dVar i e S).st e fun x S1 => ((den C G a).v e S1).st e fun y S2 => (augop o x y S2).st e fun z S3 => if i < e.length then .nx (e.set i (some z)) S3 else .bad := (rfl)
@[simp] theorem s_while (c : E) (b : List SI) : denS C G (.while_ c b) e S = whileS (den C G c).t (denSs C G b) e S := (rfl)
@[simp] theorem t_ite (c a b : E) : (den C G (.ite c a b)).t e S = ((den C G c).t e S).bind fun t S1 => if t then (den C G a).t e S1 else (den C G b).t e S1 := (rfl)
@[simp] theorem Wp_mkDf (ks vs : List D) (Q : D → Sto → Prop) : Wp (mkD false ks vs S) Q X = Q (.dct ks vs) S := by
  unfold mkD; simp
@[simp] theorem Wp_mkDt (ks vs : List D) (Q : D → Sto → Prop) : Wp (mkD true ks vs S) Q X = Q (.ref S.length) (S ++ [.dct ks vs]) := by
  unfold mkD; simp
theorem dput_new {k v : D} {ks vs : List D} (h : ks.any (fun x => keyEq x k) = false) : dput k v ks vs = (ks ++ [k], vs ++ [v]) := by
  unfold dput
  rw [h]
  rfl
theorem keyEq_str (x y : Str) : keyEq (.str x) (.str y) = decide (x = y) := by
  unfold keyEq dkey
  simp
theorem plainStr {α : Type} (g : α → Str) (l : List α) : isPlainKeys (l.map fun a => D.str (g a)) = true := by
  unfold isPlainKeys
  rw [List.all_eq_true]
  intro d hd
  obtain ⟨a, _, rfl⟩ := List.mem_map.mp hd
  rfl
theorem keyFits_str {α : Type} (w : Str) (g : α → Str) (l : List α) : keyFits (.str w) (l.map fun a => D.str (g a)) = true := by
  unfold keyFits
  rw [plainStr]
  rfl
/-- a dict comprehension with words that differ as keys -/
theorem dcomp_map {α : Type} {tg : Tg} {own : List Nat} {src : Src} {e0 : Ev} {ke ve : Ev → Sto → R D} {enc : α → D} {g : α → Str} {v : α → D} (hs : src.stays S) : ∀ (ys done : List α), ((done ++ ys).map g).Nodup → done.length + ys.length ≤ sizeLine →
    (∀ y ∈ ys, ∃ e1, Tg.put tg (enc y) S (wipeE e0 own) = some e1 ∧ ke e1 S = .ok (.str (g y)) S ∧ ve e1 S = .ok (v y) S) →
    dcompLoop tg own src e0 ke ve (ys.map enc) (done.map fun a => .str (g a), done.map v) S = .ok ((done ++ ys).map fun a => .str (g a), (done ++ ys).map v) S
  | [], done, _, _, _ => by
    unfold dcompLoop
    simp only [List.map_nil, List.append_nil]
    rw [if_pos hs]
  | y :: ys, done, hn, hl, h => by
    obtain ⟨e1, h1, h2, h3⟩ := h y (List.mem_cons_self ..)
    rw [List.length_cons] at hl
    rw [List.map_cons]
    unfold dcompLoop
    rw [if_pos hs, h1]
    simp only
    rw [h2]
    simp only [R.nox_ok, R.bind_ok]
    rw [h3]
    simp only [R.nox_ok, R.bind_ok]
    rw [keyFits_str, Bool.true_and, if_pos (by rw [decide_eq_true_iff, List.length_map]; omega)]
    have hne : (done.map fun a => D.str (g a)).any (fun x => keyEq x (.str (g y))) = false := by
      rw [List.any_eq_false]
      intro x hx
      obtain ⟨a, ha, rfl⟩ := List.mem_map.mp hx
      rw [keyEq_str]
      simp only [decide_eq_true_eq]
      intro z
      rw [List.map_append, List.nodup_append] at hn
      exact hn.2.2 (g a) (List.mem_map_of_mem ha) (g y) (by simp) z
    rw [dput_new hne]
    have ih := dcomp_map (g := g) (v := v) (ke := ke) (ve := ve) (e0 := e0) (enc := enc) hs ys (done ++ [y]) (by rw [List.append_assoc]; exact hn) (by rw [List.length_append, List.length_singleton]; omega) fun z hz => h z (List.mem_cons_of_mem _ hz)
    rw [List.map_append, List.map_append] at ih
    rw [show done ++ y :: ys = done ++ [y] ++ ys by simp]
    exact ih
/-- d[k], by the first that has it -/
theorem dGet_map {α : Type} {g : α → Str} {v : α → D} {w : Str} : ∀ (l : List α), dGet (.str w) (l.map fun a => .str (g a)) (l.map v) = (l.find? fun a => decide (g a = w)).map v
  | [] => rfl
  | a :: l => by
    rw [List.map_cons, List.map_cons]
    unfold dGet
    rw [keyEq_str, List.find?_cons]
    by_cases e : g a = w
    · simp [e]
    · simp [e]
      have := dGet_map (g := g) (v := v) (w := w) l
      simpa using this
end
end Pw

set_option Elab.async false
set_option linter.all false
set_option maxRecDepth 100000
set_option maxHeartbeats 1000000
namespace Pw
open PySem PySem.Spec PyProof.Rows L2
section
variable {S : Sto}
theorem enumD_eq (xs : List D) : enumD xs = (List.range xs.length).map fun (k : Nat) => D.tup [.int (k : Int), xs.getD k .non] := by
  unfold enumD
  apply List.ext_getElem
  · simp
  · intro i h1 h2
    simp at h1
    simp [h1]
theorem enum_map {α : Type} {enc : α → D} (z : α) (xs : List α) : enumD (xs.map enc) = (List.range xs.length).map fun (k : Nat) => D.tup [.int (k : Int), enc (xs.getD k z)] := by
  rw [enumD_eq, List.length_map]
  apply List.map_congr_left
  intro k hk
  have hk := List.mem_range.mp hk
  simp [hk]
theorem nbs_mapm {α : Type} {g : α → D} : ∀ {l : List α}, (∀ a ∈ l, D.nb (g a) = true) → D.nbs (l.map g) = true
  | [], _ => rfl
  | a :: l, h => by
    rw [List.map_cons]
    unfold D.nbs
    rw [h a (List.mem_cons_self ..), nbs_mapm fun b hb => h b (List.mem_cons_of_mem _ hb)]
    rfl
theorem deps_mapm {α : Type} {g : α → D} {k : Nat} : ∀ {l : List α}, (∀ a ∈ l, D.dep (g a) ≤ k) → D.deps (l.map g) ≤ k
  | [], _ => Nat.zero_le _
  | a :: l, h => by
    rw [List.map_cons]
    unfold D.deps
    exact Nat.max_le.mpr ⟨h a (List.mem_cons_self ..), deps_mapm fun b hb => h b (List.mem_cons_of_mem _ hb)⟩
open Classical in
theorem c_eqd {a b : D} (h1 : D.nb a = true) (h2 : D.nb b = true) (hd : D.dep a ≤ 60) : cmpop .eq a b S = some (decide (a = b)) := by
  simp only [cmpop, deq_nb h1 h2 hd]
open Classical in
theorem c_ned {a b : D} (h1 : D.nb a = true) (h2 : D.nb b = true) (hd : D.dep a ≤ 60) : cmpop .ne a b S = some (!decide (a = b)) := by
  simp only [cmpop, deq_nb h1 h2 hd, Option.map_some]
theorem ix_dctr {l : Nat} {ks vs : List D} {k : D} (h : S[l]? = some (.dct ks vs)) (hk : keyFits k ks = true) : Pw.index S (.ref l) k = dGet k ks vs := by
  unfold Pw.index
  rw [rd_ref, h, rdM_dct]
  simp only [hk, if_true]
theorem ix_dct {ks vs : List D} {k : D} (hk : keyFits k ks = true) : Pw.index S (.dct ks vs) k = dGet k ks vs := by
  unfold Pw.index
  rw [rd_dct]
  simp only [hk, if_true]
theorem c_notinr {l : Nat} {ks vs : List D} {k : D} (h : S[l]? = some (.dct ks vs)) (hk : keyFits k ks = true) : cmpop .notin k (.ref l) S = some (!(dGet k ks vs).isSome) := by
  simp only [cmpop, rd_ref, h, rdM_dct, hk, if_true]
theorem p_dict {bx : Bool} {ks vs : List D} (h : isPlainKeys ks = true) : prim .dict bx [.dct ks vs] S = mkD bx ks vs S := by
  show pDict bx S (.dct ks vs) = _
  unfold pDict
  simp only [rd_dct, h, if_true]
end
end Pw

set_option Elab.async false
set_option linter.all false
set_option maxRecDepth 100000
set_option maxHeartbeats 1000000
namespace Pw
open PySem PySem.Spec PyProof.Rows L2
/-! # calls that tell what they have built -/
section
variable {S S2 : Sto} {A : Nat → Prop} {n : Nat}
theorem frz_pure {d : D} (h : D.pure d = true) : frz n S d = some d := frz1_pure h
theorem frzs_pure {k : Nat} : ∀ {ds : List D}, D.pures ds = true → frzs n S k ds = some ds := by
  intro ds h
  cases k with
  | zero => exact frz1s_pure h
  | succ k => exact frz1s_pure h
theorem frz_ref {l : Nat} {xs : List D} (hl : n ≤ l) (h : S[l]? = some (.lst xs)) (hp : D.pures xs = true) : frz n S (.ref l) = some (.lst xs) := by
  unfold frz frz1
  rw [if_neg (by omega), h]
  simp only
  rw [frzs_pure hp]
  rfl
theorem frz_tup2 {a b a' b' : D} (h : frz n S a = some a') (h2 : frz n S b = some b') : frz n S (.tup [a, b]) = some (.tup [a', b']) := by
  unfold frz at h h2 ⊢
  unfold frz1
  simp only [frz1s, h, h2, Option.map_some]
/-- a call's end: what is told is frozen -/
theorem Wp_closeF {d d' : D} {Q : D → Sto → Prop} {X : Xc → Sto → Prop} (hf : FrG A S S2) (hA : ∀ l, l < S.length → A l → Low S2 l) (hlt : S.length < S2.length) (hz : frz S.length S2 d = some d')
    (hq : Fr A S (S2.take S.length) → (∀ l, l < S.length → (S2.take S.length)[l]? = S2[l]?) → Q d' (S2.take S.length)) : Wp (closeR true S (.ret d S2)) Q X := by
  have hg : ∀ l, l < S.length → (S2.take S.length)[l]? = S2[l]? := fun l hl => List.getElem?_take_of_lt hl
  have hl : (S2.take S.length).length = S.length := by rw [List.length_take]; omega
  have ho : OldOk S S2 := by
    intro l hl
    by_cases e : A l
    · obtain ⟨m, h1, h2⟩ := hA l hl e
      exact .inr ⟨m, h1, h2 _⟩
    · exact .inl (hf.2 l hl e)
  show Wp (R.ok (close S S2 d).1 (close S S2 d).2) Q X
  have : close S S2 d = (d', S2.take S.length) := by
    unfold close
    rw [if_neg (by omega)]
    simp only [hz, ho, if_true]
  rw [this, Wp_ok]
  refine hq ⟨hl, fun l hA => ?_⟩ hg
  by_cases e : l < S.length
  · rw [hg l e]; exact hf.2 l e hA
  · rw [List.getElem?_eq_none (by omega), List.getElem?_eq_none (by omega)]
/-- .. nothing old was written -/
theorem take_same (hf : FrG (fun _ => False) S S2) : S2.take S.length = S := by
  apply List.ext_getElem?
  intro l
  by_cases e : l < S.length
  · rw [List.getElem?_take_of_lt e]; exact hf.2 l e (fun h => h)
  · rw [List.getElem?_eq_none (by rw [List.length_take]; omega), List.getElem?_eq_none (by omega)]
theorem Wp_closeN {d d' : D} {Q : D → Sto → Prop} {X : Xc → Sto → Prop} (hf : FrG (fun _ => False) S S2) (hlt : S.length < S2.length) (hz : frz S.length S2 d = some d') (hq : Q d' S) : Wp (closeR true S (.ret d S2)) Q X := by
  refine Wp_closeF hf (fun _ _ h => h.elim) hlt hz fun _ _ => ?_
  rw [take_same hf]
  exact hq
theorem Wp_closeNp {d : D} {Q : D → Sto → Prop} {X : Xc → Sto → Prop} (hf : FrG (fun _ => False) S S2) (hp : D.pure d = true) (hq : Q d S) : Wp (closeR true S (.ret d S2)) Q X := by
  refine Wp_close hf (fun _ _ h => h.elim) hp fun _ _ => ?_
  rw [take_same hf]
  exact hq
theorem aug_lst {l l2 : Nat} {xs ys : List D} (h : S[l]? = some (.lst xs)) (h2 : S[l2]? = some (.lst ys)) (hz : xs.length + ys.length ≤ sizeLine) : augop .add (.ref l) (.ref l2) S = .ok (.ref l) (S.set l (.lst (xs ++ ys))) := by
  simp only [augop, h, h2, if_pos hz]
end
end Pw

set_option Elab.async false
set_option linter.all false
set_option maxRecDepth 100000
set_option maxHeartbeats 1000000
namespace Pw
open PySem PySem.Spec PyProof.Rows L2
/-! # lists of numbers -/
def tab (m : Nat) (f : Nat → Int) : List Int := (List.range m).map f
/-- the j-th number -/
def gt (l : List Int) (j : Nat) : Int := l.getD j 0
def iL (l : List Int) : D := .lst (l.map .int)
def iT (l : List Int) : D := .tup (l.map .int)
@[simp] theorem tab_len (m : Nat) (f : Nat → Int) : (tab m f).length = m := by simp [tab]
theorem tab_getD {m : Nat} {f : Nat → Int} {j : Nat} (h : j < m) : gt (tab m f) j = f j := by simp [gt, tab, h]
theorem tab_eq {l : List Int} {m : Nat} (h : l.length = m) : l = tab m (gt l) := by
  apply List.ext_getElem
  · simp [h]
  · intro i h1 h2
    simp [tab, h1, gt]
theorem tab_congr {m : Nat} {f g : Nat → Int} (h : ∀ j, j < m → f j = g j) : tab m f = tab m g := by
  unfold tab
  exact List.map_congr_left fun j hj => h j (List.mem_range.mp hj)
theorem tab_ext {l l' : List Int} {m : Nat} (h : l.length = m) (h' : l'.length = m) (hj : ∀ j, j < m → gt l j = gt l' j) : l = l' := by
  rw [tab_eq h, tab_eq h']
  exact tab_congr hj
theorem tab_set {m : Nat} {f g : Nat → Int} {i : Nat} (hg : ∀ j, j ≠ i → g j = f j) : (tab m f).set i (g i) = tab m g := by
  apply List.ext_getElem
  · simp
  · intro j h1 h2
    simp at h1
    rw [List.getElem_set]
    split
    · rename_i e; subst e; simp [tab]
    · rename_i e
      simp [tab, hg j (fun z => e z.symm)]
theorem map_getD {α : Type} {e : α → D} (z : α) {xs : List α} {m : Nat} (h : xs.length = m) : xs.map e = (List.range m).map fun j => e (xs.getD j z) := by
  apply List.ext_getElem
  · simp [h]
  · intro i h1 h2
    simp at h1
    simp [h1]
theorem zip_get {α β : Type} {e1 : α → D} {e2 : β → D} (z1 : α) (z2 : β) {xs : List α} {ys : List β} {m : Nat} (h1 : xs.length = m) (h2 : ys.length = m) :
    List.zipWith (fun x y => D.tup [x, y]) (xs.map e1) (ys.map e2) = (List.range m).map fun j => D.tup [e1 (xs.getD j z1), e2 (ys.getD j z2)] := by
  apply List.ext_getElem
  · simp [h1, h2]
  · intro i h3 h4
    simp at h3
    have a1 : i < xs.length := by omega
    have a2 : i < ys.length := by omega
    simp [a1, a2]
theorem zip3_gen : ∀ (xs ys zs : List D), xs.length = ys.length → ys.length = zs.length → zip3D xs ys zs = (List.range xs.length).map fun j => D.tup [xs.getD j .non, ys.getD j .non, zs.getD j .non]
  | [], [], [], _, _ => rfl
  | x :: xs, y :: ys, z :: zs, h1, h2 => by
    have ih := zip3_gen xs ys zs (by simpa using h1) (by simpa using h2)
    unfold zip3D
    rw [ih, List.length_cons, List.range_succ_eq_map, List.map_cons, List.map_map]
    congr 1
theorem zip3_tab {α : Type} {e : α → D} (z1 : α) {xs ys zs : List α} {m : Nat} (h1 : xs.length = m) (h2 : ys.length = m) (h3 : zs.length = m) :
    zip3D (xs.map e) (ys.map e) (zs.map e) = (List.range m).map fun j => D.tup [e (xs.getD j z1), e (ys.getD j z1), e (zs.getD j z1)] := by
  rw [zip3_gen _ _ _ (by simp [h1, h2]) (by simp [h2, h3]), List.length_map, h1]
  apply List.map_congr_left
  intro j hj
  have hj := List.mem_range.mp hj
  simp [h1, h2, h3, hj]
theorem zip3_int {xs ys zs : List Int} {m : Nat} (h1 : xs.length = m) (h2 : ys.length = m) (h3 : zs.length = m) :
    zip3D (xs.map .int) (ys.map .int) (zs.map .int) = (List.range m).map fun j => D.tup [.int (gt xs j), .int (gt ys j), .int (gt zs j)] := zip3_tab (e := D.int) 0 h1 h2 h3
theorem zip_int {α : Type} {e1 : α → D} (z1 : α) {xs : List α} {ys : List Int} {m : Nat} (h1 : xs.length = m) (h2 : ys.length = m) :
    List.zipWith (fun x y => D.tup [x, y]) (xs.map e1) (ys.map .int) = (List.range m).map fun j => D.tup [e1 (xs.getD j z1), .int (gt ys j)] := zip_get (e2 := D.int) z1 0 h1 h2
theorem enum_int {xs : List Int} {m : Nat} (h : xs.length = m) : enumD (xs.map .int) = (List.range m).map fun (k : Nat) => D.tup [.int (k : Int), .int (gt xs k)] := by
  rw [enum_map 0, h]; rfl
section
variable {S : Sto}
theorem ints_map : ∀ ns : List Int, ints? (ns.map .int) = some ns
  | [] => rfl
  | i :: ns => by
    show (ints? (ns.map .int)).map _ = _
    rw [ints_map ns]; rfl
theorem small_i {i : Int} (h1 : -(2 ^ 64) < i) (h2 : i < 2 ^ 64) : small64 i = true := by
  unfold small64
  rw [decide_eq_true h1, decide_eq_true h2]
  rfl
theorem mulOk_r {i j : Int} (h1 : -(2 ^ 64) < j) (h2 : j < 2 ^ 64) : mulOk i j = true := by
  unfold mulOk
  rw [small_i h1 h2, Bool.or_true]; rfl
theorem mulOk_l {i j : Int} (h1 : -(2 ^ 64) < i) (h2 : i < 2 ^ 64) : mulOk i j = true := by
  unfold mulOk
  rw [small_i h1 h2]; rfl
theorem b_mul (i j : Int) (h : mulOk i j = true) : binop .mul false (.int i) (.int j) S = .ok (.int (i * j)) S := by
  show (if mulOk i j then R.ok (D.int (i * j)) S else .bad) = _
  rw [if_pos h]
theorem p_sum {bx : Bool} (l : List Int) : prim .sum bx [.lst (l.map .int)] S = .ok (.int l.sum) S := by
  show R.o ((some (l.map D.int)).bind ints?) _ = _
  simp only [Option.bind_some, ints_map, R.o_some]
theorem p_sum_tab {bx : Bool} (m : Nat) (f : Nat → Int) : prim .sum bx [.lst ((List.range m).map fun j => D.int (f j))] S = .ok (.int (tab m f).sum) S := by
  have := p_sum (S := S) (bx := bx) (tab m f)
  rw [tab, List.map_map] at this
  exact this
theorem ix_iL {l : List Int} {k : Nat} (h : k < l.length) : Pw.index S (iL l) (.int (k : Int)) = some (.int (gt l k)) := Sq.ixd 0 (Sq.lst (l.map .int)) h
theorem ix_iT {l : List Int} {k : Nat} (h : k < l.length) : Pw.index S (iT l) (.int (k : Int)) = some (.int (gt l k)) := Sq.ixd 0 (Sq.tup (l.map .int)) h
theorem ix_iR {l : List Int} {k r : Nat} (hr : S[r]? = some (.lst (l.map .int))) (h : k < l.length) : Pw.index S (.ref r) (.int (k : Int)) = some (.int (gt l k)) := Sq.ixd 0 (Sq.ref hr) h
theorem setItem_i {l : List Int} {k r : Nat} {v : Int} (hr : S[r]? = some (.lst (l.map .int))) (h : k < l.length) : setItemD (.ref r) (.int (k : Int)) (.int v) S = some (S.set r (.lst ((l.set k v).map .int))) := by
  unfold setItemD
  simp only [hr]
  rw [show ixN (l.map D.int).length (k : Int) = some k from by unfold ixN; rw [List.length_map, if_pos (by omega), if_pos (by omega), Int.toNat_natCast]]
  rw [Option.map_some, List.map_set]
theorem nb_iL (l : List Int) : D.nb (iL l) = true := nbs_map (fun _ => rfl) l
theorem dep_iL (l : List Int) : D.dep (iL l) ≤ 1 := by
  have : D.deps (l.map D.int) ≤ 0 := deps_map (g := D.int) (fun _ => Nat.le_refl 0) l
  show D.deps (l.map D.int) + 1 ≤ 1
  omega
theorem nb_iT (l : List Int) : D.nb (iT l) = true := nbs_map (fun _ => rfl) l
theorem dep_iT (l : List Int) : D.dep (iT l) ≤ 1 := by
  have : D.deps (l.map D.int) ≤ 0 := deps_map (g := D.int) (fun _ => Nat.le_refl 0) l
  show D.deps (l.map D.int) + 1 ≤ 1
  omega
theorem pure_iL (l : List Int) : D.pure (iL l) = true := by
  show D.pures _ = true
  exact pures_map (fun _ => rfl) l
theorem pure_iT (l : List Int) : D.pure (iT l) = true := by
  show D.pures _ = true
  exact pures_map (fun _ => rfl) l
theorem iL_inj {a b : List Int} (h : iL a = iL b) : a = b := by
  injection h with h
  exact (List.map_inj_right (fun x y h => by injection h)).mp h
theorem iT_inj {a b : List Int} (h : iT a = iT b) : a = b := by
  injection h with h
  exact (List.map_inj_right (fun x y h => by injection h)).mp h
end
end Pw

set_option Elab.async false
set_option linter.all false
set_option maxRecDepth 100000
set_option maxHeartbeats 1000000
namespace Pw
/-! # boxes of weights, narrowed: plain numbers -/
theorem tab_succ (m : Nat) (f : Nat → Int) : tab (m + 1) f = tab m f ++ [f m] := by
  simp [tab, List.range_succ]
theorem sum_succ (m : Nat) (f : Nat → Int) : (tab (m + 1) f).sum = (tab m f).sum + f m := by
  rw [tab_succ]
  simp
theorem sum_le {f g : Nat → Int} : ∀ {m : Nat}, (∀ j, j < m → f j ≤ g j) → (tab m f).sum ≤ (tab m g).sum
  | 0, _ => Int.le_refl _
  | m + 1, h => by
    rw [sum_succ, sum_succ]
    have := sum_le (m := m) fun j hj => h j (by omega)
    have := h m (by omega)
    omega
theorem sum_gap {f g : Nat → Int} {k : Nat} : ∀ {m : Nat}, (∀ j, j < m → f j ≤ g j) → k < m → g k - f k ≤ (tab m g).sum - (tab m f).sum
  | 0, _, hk => by omega
  | m + 1, h, hk => by
    rw [sum_succ, sum_succ]
    by_cases e : k = m
    · subst e
      have := sum_le (m := k) fun j hj => h j (by omega)
      omega
    · have := sum_gap (m := m) (fun j hj => h j (by omega)) (by omega : k < m)
      have := h m (by omega)
      omega
def dot (m : Nat) (r w : Nat → Int) : Int := (tab m fun j => r j * w j).sum
def mx (i j : Int) : Int := if j > i then j else i
def most (m : Nat) (r a b : Nat → Int) : Int := (tab m fun j => mx (r j * a j) (r j * b j)).sum
def nlo (sp l a b : Int) : Int := if 0 < l then (if b - sp / l > a then b - sp / l else a) else a
def nhi (sp l a b : Int) : Int := if l < 0 then (if a + sp / (-l) < b then a + sp / (-l) else b) else b
theorem mul_mx {l a b w : Int} (h1 : a ≤ w) (h2 : w ≤ b) : l * w ≤ mx (l * a) (l * b) := by
  unfold mx
  rcases Int.lt_or_le l 0 with h | h
  · have e1 := Int.mul_le_mul_of_nonpos_left (Int.le_of_lt h) h1
    split <;> omega
  · have e1 := Int.mul_le_mul_of_nonneg_left h2 h
    split <;> omega
theorem mx_pos {l a b : Int} (h : 0 < l) (hab : a ≤ b) : mx (l * a) (l * b) = l * b := by
  have e := Int.mul_le_mul_of_nonneg_left hab (Int.le_of_lt h)
  unfold mx
  split <;> omega
theorem mx_neg {l a b : Int} (h : l < 0) (hab : a ≤ b) : mx (l * a) (l * b) = l * a := by
  have e := Int.mul_le_mul_of_nonpos_left (Int.le_of_lt h) hab
  unfold mx
  split <;> omega
theorem most_same (m : Nat) (r w : Nat → Int) : most m r w w = dot m r w := by
  unfold most dot
  congr 1
  apply tab_congr
  intro j _
  unfold mx
  split <;> rfl
section
variable {m : Nat} {r a b w : Nat → Int}
theorem dot_le (h : ∀ j, j < m → a j ≤ w j ∧ w j ≤ b j) : dot m r w ≤ most m r a b := sum_le fun j hj => mul_mx (h j hj).1 (h j hj).2
theorem nlo_le (h : ∀ j, j < m → a j ≤ w j ∧ w j ≤ b j) (h1 : 1 ≤ dot m r w) {k : Nat} (hk : k < m) : nlo (most m r a b - 1) (r k) (a k) (b k) ≤ w k := by
  have hkk := h k hk
  unfold nlo
  split
  · rename_i hl
    split
    · have g := sum_gap (f := fun j => r j * w j) (g := fun j => mx (r j * a j) (r j * b j)) (fun j hj => mul_mx (h j hj).1 (h j hj).2) hk
      simp only [mx_pos hl (Int.le_trans hkk.1 hkk.2)] at g
      have g2 : r k * (b k - w k) ≤ most m r a b - 1 := by
        rw [Int.mul_sub]
        unfold most
        unfold dot at h1
        omega
      have : b k - w k ≤ (most m r a b - 1) / r k := by
        rw [Int.le_ediv_iff_mul_le hl, Int.mul_comm]
        exact g2
      omega
    · exact hkk.1
  · exact hkk.1
theorem nhi_ge (h : ∀ j, j < m → a j ≤ w j ∧ w j ≤ b j) (h1 : 1 ≤ dot m r w) {k : Nat} (hk : k < m) : w k ≤ nhi (most m r a b - 1) (r k) (a k) (b k) := by
  have hkk := h k hk
  unfold nhi
  split
  · rename_i hl
    split
    · have g := sum_gap (f := fun j => r j * w j) (g := fun j => mx (r j * a j) (r j * b j)) (fun j hj => mul_mx (h j hj).1 (h j hj).2) hk
      simp only [mx_neg hl (Int.le_trans hkk.1 hkk.2)] at g
      have g2 : (-(r k)) * (w k - a k) ≤ most m r a b - 1 := by
        rw [Int.neg_mul, Int.mul_sub]
        unfold most
        unfold dot at h1
        omega
      have : w k - a k ≤ (most m r a b - 1) / (-(r k)) := by
        rw [Int.le_ediv_iff_mul_le (by omega), Int.mul_comm]
        exact g2
      omega
    · exact hkk.2
  · exact hkk.2
theorem nlo_mono (sp l x y : Int) : x ≤ nlo sp l x y := by
  unfold nlo
  split
  · split <;> omega
  · omega
theorem nhi_mono (sp l x y : Int) : nhi sp l x y ≤ y := by
  unfold nhi
  split
  · split <;> omega
  · omega
theorem nlo_nhi {sp l x y : Int} (hs : 0 ≤ sp) (h : x ≤ y) : nlo sp l x y ≤ nhi sp l x y := by
  unfold nlo nhi
  by_cases h1 : 0 < l
  · have := Int.ediv_nonneg hs (Int.le_of_lt h1)
    rw [if_pos h1, if_neg (show ¬ l < 0 by omega)]
    split <;> omega
  · rw [if_neg h1]
    by_cases h2 : l < 0
    · have := Int.ediv_nonneg hs (by omega : 0 ≤ -l)
      rw [if_pos h2]
      split <;> omega
    · rw [if_neg h2]
      exact h
end
theorem sum_lt {f g : Nat → Int} {m : Nat} (h : ∀ j, j < m → f j ≤ g j) {k : Nat} (hk : k < m) (hlt : f k < g k) : (tab m f).sum < (tab m g).sum := by
  have := sum_gap h hk
  omega
theorem sum_nonneg {f : Nat → Int} : ∀ {m : Nat}, (∀ j, j < m → 0 ≤ f j) → 0 ≤ (tab m f).sum
  | 0, _ => Int.le_refl _
  | m + 1, h => by
    rw [sum_succ]
    have := sum_nonneg (m := m) fun j hj => h j (by omega)
    have := h m (by omega)
    omega
end Pw

set_option Elab.async false
set_option linter.all false
set_option maxRecDepth 100000
set_option maxHeartbeats 1000000
namespace Pw
/-- weights between two rows of bounds by which all rows of losses come to 1 at least -/
structure Sol (m : Nat) (rows : List (List Int)) (a b w : List Int) : Prop where
  len : w.length = m
  btw : ∀ j, j < m → gt a j ≤ gt w j ∧ gt w j ≤ gt b j
  pos : ∀ row ∈ rows, 1 ≤ dot m (gt row) (gt w)
/-- bounds that have come of others -/
structure Bd (m : Nat) (rows : List (List Int)) (lo hi a b : List Int) : Prop where
  la : a.length = m
  lb : b.length = m
  in_ : ∀ j, j < m → gt lo j ≤ gt a j ∧ gt a j ≤ gt b j ∧ gt b j ≤ gt hi j
  sol : ∀ w, Sol m rows lo hi w → Sol m rows a b w
def Drawn (m : Nat) (rows : List (List Int)) (lo hi : List Int) : Option (List Int × List Int) → Prop
  | none => ∀ w, ¬ Sol m rows lo hi w
  | some (a, b) => Bd m rows lo hi a b ∧ ∀ row ∈ rows, 1 ≤ most m (gt row) (gt a) (gt b)
def mu (m : Nat) (a b : List Int) : Nat := (tab m fun j => gt b j - gt a j).sum.toNat
def nlos (m : Nat) (row lo hi : List Int) : List Int := tab m fun j => nlo (most m (gt row) (gt lo) (gt hi) - 1) (gt row j) (gt lo j) (gt hi j)
def nhis (m : Nat) (row lo hi : List Int) : List Int := tab m fun j => nhi (most m (gt row) (gt lo) (gt hi) - 1) (gt row j) (gt lo j) (gt hi j)
section
variable {m : Nat} {rows : List (List Int)} {lo hi a b : List Int}
theorem Bd.refl (h1 : lo.length = m) (h2 : hi.length = m) (h : ∀ j, j < m → gt lo j ≤ gt hi j) : Bd m rows lo hi lo hi :=
  ⟨h1, h2, fun j hj => ⟨Int.le_refl _, h j hj, Int.le_refl _⟩, fun _ z => z⟩
theorem Bd.none (h : Bd m rows lo hi a b) {row : List Int} (hr : row ∈ rows) (hm : most m (gt row) (gt a) (gt b) < 1) : Drawn m rows lo hi none := by
  intro w hw
  have hw := h.sol w hw
  have h1 := hw.pos row hr
  have h2 := dot_le (r := gt row) hw.btw
  omega
theorem Bd.step (h : Bd m rows lo hi a b) {row : List Int} (hr : row ∈ rows) (hm : ¬ most m (gt row) (gt a) (gt b) < 1) : Bd m rows lo hi (nlos m row a b) (nhis m row a b) := by
  refine ⟨by simp [nlos], by simp [nhis], fun j hj => ?_, fun w hw => ?_⟩
  · have hj' := h.in_ j hj
    unfold nlos nhis
    rw [tab_getD hj, tab_getD hj]
    have h1 := nlo_mono (most m (gt row) (gt a) (gt b) - 1) (gt row j) (gt a j) (gt b j)
    have h2 := nhi_mono (most m (gt row) (gt a) (gt b) - 1) (gt row j) (gt a j) (gt b j)
    have h3 := nlo_nhi (sp := most m (gt row) (gt a) (gt b) - 1) (l := gt row j) (by omega) hj'.2.1
    omega
  · have hw := h.sol w hw
    refine ⟨hw.len, fun j hj => ?_, hw.pos⟩
    unfold nlos nhis
    rw [tab_getD hj, tab_getD hj]
    exact ⟨nlo_le hw.btw (hw.pos row hr) hj, nhi_ge hw.btw (hw.pos row hr) hj⟩
theorem step_in (row a b : List Int) {j : Nat} (hj : j < m) : gt a j ≤ gt (nlos m row a b) j ∧ gt (nhis m row a b) j ≤ gt b j := by
  unfold nlos nhis
  rw [tab_getD hj, tab_getD hj]
  exact ⟨nlo_mono _ _ _ _, nhi_mono _ _ _ _⟩
/-- bounds within others: the same or nearer together -/
theorem mu_lt {a' b' : List Int} (h : Bd m rows lo hi a b) (h' : Bd m rows lo hi a' b') (hin : ∀ j, j < m → gt a j ≤ gt a' j ∧ gt b' j ≤ gt b j) (hne : ¬ (a' = a ∧ b' = b)) : mu m a' b' < mu m a b := by
  have hex : ∃ j, j < m ∧ (gt a j < gt a' j ∨ gt b' j < gt b j) := by
    apply Classical.byContradiction
    intro z
    refine hne ⟨tab_ext h'.la h.la fun j hj => ?_, tab_ext h'.lb h.lb fun j hj => ?_⟩
    · have := hin j hj
      have : ¬ gt a j < gt a' j := fun q => z ⟨j, hj, .inl q⟩
      omega
    · have := hin j hj
      have : ¬ gt b' j < gt b j := fun q => z ⟨j, hj, .inr q⟩
      omega
  obtain ⟨k, hk, hlt⟩ := hex
  have hk2 := hin k hk
  have h1 := sum_lt (f := fun j => gt b' j - gt a' j) (g := fun j => gt b j - gt a j) (m := m) (fun j hj => by have := hin j hj; omega) hk (by show gt b' k - gt a' k < gt b k - gt a k; omega)
  have h2 := sum_nonneg (f := fun j => gt b' j - gt a' j) (m := m) fun j hj => by have := h'.in_ j hj; omega
  unfold mu
  omega
/-- no bounds left open: the weights -/
theorem Drawn.closed (h : Drawn m rows lo hi (some (a, b))) (he : a = b) : Sol m rows lo hi a ∧ ∀ w, Sol m rows lo hi w → w = a := by
  obtain ⟨hB, hm⟩ := h
  subst he
  refine ⟨⟨hB.la, fun j hj => ⟨(hB.in_ j hj).1, (hB.in_ j hj).2.2⟩, fun row hr => ?_⟩, fun w hw => ?_⟩
  · have := hm row hr
    rwa [most_same] at this
  · have hw := hB.sol w hw
    refine tab_ext hw.len hB.la fun j hj => ?_
    have := hw.btw j hj
    omega
end
end Pw

set_option Elab.async false
set_option linter.all false
set_option maxRecDepth 100000
set_option maxHeartbeats 1000000
namespace Pw
/-- ahead of: from the first place that differs on -/
def Lx (m : Nat) (w v : List Int) : Prop := ∃ k, k < m ∧ (∀ j, j < k → gt w j = gt v j) ∧ gt w k < gt v k
def IsLeast (m : Nat) (rows : List (List Int)) (a b : List Int) : Option (List Int) → Prop
  | none => ∀ w, ¬ Sol m rows a b w
  | some w => Sol m rows a b w ∧ ∀ v, Sol m rows a b v → w = v ∨ Lx m w v
theorem Lx.irr {m : Nat} {w : List Int} (h : Lx m w w) : False := by
  obtain ⟨k, _, _, h⟩ := h
  omega
theorem Lx.asymm {m : Nat} {w v : List Int} (h : Lx m w v) (h2 : Lx m v w) : False := by
  obtain ⟨k, _, h1, h⟩ := h
  obtain ⟨k2, _, h3, h2⟩ := h2
  rcases Nat.lt_trichotomy k k2 with q | q | q
  · have := h3 k q; omega
  · subst q; omega
  · have := h1 k2 q; omega
theorem IsLeast.uniq {m : Nat} {rows : List (List Int)} {a b : List Int} {r r' : Option (List Int)} (h : IsLeast m rows a b r) (h' : IsLeast m rows a b r') : r = r' := by
  cases r with
  | none => cases r' with
    | none => rfl
    | some w => exact absurd h'.1 (h w)
  | some w => cases r' with
    | none => exact absurd h.1 (h' w)
    | some v =>
      rcases h.2 v h'.1 with e | e
      · rw [e]
      · rcases h'.2 w h.1 with e2 | e2
        · rw [e2]
        · exact (e.asymm e2).elim
def opn (m : Nat) (a b : List Int) : List Nat := (List.range m).filter fun k => decide (gt a k < gt b k)
theorem filter_head {m : Nat} {p : Nat → Bool} {k : Nat} {ks : List Nat} (h : (List.range m).filter p = k :: ks) : p k = true ∧ k < m ∧ ∀ j, j < k → p j = false := by
  have hk : k ∈ (List.range m).filter p := by rw [h]; exact List.mem_cons_self ..
  obtain ⟨h1, h2⟩ := List.mem_filter.mp hk
  have h1 := List.mem_range.mp h1
  refine ⟨h2, h1, fun j hj => ?_⟩
  cases hp : p j with
  | false => rfl
  | true =>
    have hm : j ∈ (List.range m).filter p := List.mem_filter.mpr ⟨List.mem_range.mpr (by omega), hp⟩
    have hs : ((List.range m).filter p).Pairwise (· < ·) := List.Pairwise.sublist List.filter_sublist List.pairwise_lt_range
    rw [h] at hm hs
    rcases List.mem_cons.mp hm with e | e
    · omega
    · have := (List.pairwise_cons.mp hs).1 j e
      omega
theorem gt_set {l : List Int} {k : Nat} {v : Int} (j : Nat) (hk : k < l.length) : gt (l.set k v) j = if j = k then v else gt l j := by
  unfold gt
  rw [List.getD_eq_getElem?_getD, List.getD_eq_getElem?_getD, List.getElem?_set]
  by_cases e : k = j
  · subst e; simp [hk]
  · simp [e, show ¬ j = k from fun z => e z.symm]
section
variable {m : Nat} {rows : List (List Int)} {lo hi a b : List Int}
theorem opn_le (h : Bd m rows lo hi a b) : (opn m a b).length ≤ (opn m lo hi).length := by
  unfold opn
  rw [← List.countP_eq_length_filter, ← List.countP_eq_length_filter]
  apply List.countP_mono_left
  intro k hk
  have := h.in_ k (List.mem_range.mp hk)
  simp only [decide_eq_true_eq]
  omega
theorem opn_set {k : Nat} (ha : a.length = m) (hb : b.length = m) (hk : k < m) (hlt : gt a k < gt b k) (v : Int) : (opn m (a.set k v) (b.set k v)).length + 1 ≤ (opn m a b).length := by
  have e : opn m (a.set k v) (b.set k v) = (opn m a b).filter fun j => !decide (j = k) := by
    unfold opn
    rw [List.filter_filter]
    apply List.filter_congr
    intro j hj
    rw [gt_set j (by omega), gt_set j (by omega)]
    by_cases q : j = k
    · simp [q]
    · simp [q]
  have hm : k ∈ opn m a b := List.mem_filter.mpr ⟨List.mem_range.mpr hk, decide_eq_true hlt⟩
  rw [e]
  have := (List.length_filter_lt_length_iff_exists (p := fun j => !decide (j = k))).mpr ⟨k, hm, by simp⟩
  have h2 : ((opn m a b).filter fun j => !decide (j = k)).length < (opn m a b).length := this
  omega
theorem opn_nil (h : Bd m rows lo hi a b) (he : opn m a b = []) : a = b := by
  refine tab_ext h.la h.lb fun j hj => ?_
  have := h.in_ j hj
  have h2 : j ∉ opn m a b := by rw [he]; simp
  have h3 : ¬ gt a j < gt b j := fun q => h2 (List.mem_filter.mpr ⟨List.mem_range.mpr hj, decide_eq_true q⟩)
  omega
/-- bounds with one weight told -/
theorem Sol.set {w : List Int} {k : Nat} (ha : a.length = m) (hb : b.length = m) (hk : k < m) (h : Sol m rows a b w) : Sol m rows (a.set k (gt w k)) (b.set k (gt w k)) w := by
  refine ⟨h.len, fun j hj => ?_, h.pos⟩
  rw [gt_set j (by omega), gt_set j (by omega)]
  split
  · rename_i e; subst e; omega
  · exact h.btw j hj
theorem Sol.unset {w : List Int} {k : Nat} {v : Int} (ha : a.length = m) (hb : b.length = m) (hk : k < m) (h1 : gt a k ≤ v) (h2 : v ≤ gt b k) (h : Sol m rows (a.set k v) (b.set k v) w) : Sol m rows a b w ∧ gt w k = v := by
  have hw : ∀ j, j < m → (if j = k then v else gt a j) ≤ gt w j ∧ gt w j ≤ (if j = k then v else gt b j) := fun j hj => by
    have := h.btw j hj
    rwa [gt_set j (by omega), gt_set j (by omega)] at this
  have hk2 := hw k hk
  simp only [if_true] at hk2
  refine ⟨⟨h.len, fun j hj => ?_, h.pos⟩, by omega⟩
  have := hw j hj
  by_cases e : j = k
  · subst e; omega
  · simpa [e] using this
theorem Bd.wide (h : Bd m rows lo hi a b) {w : List Int} (hw : Sol m rows a b w) : Sol m rows lo hi w :=
  ⟨hw.len, fun j hj => by have := h.in_ j hj; have := hw.btw j hj; omega, hw.pos⟩
/-- the first weight with a solution behind it -/
theorem IsLeast.first (h : Bd m rows lo hi a b) {k : Nat} {ks : List Nat} (ho : opn m a b = k :: ks) {i : Int} (hi0 : gt a k ≤ i) (hi1 : i ≤ gt b k) (hno : ∀ w, Sol m rows a b w → i ≤ gt w k) {w : List Int}
    (hl : IsLeast m rows (a.set k i) (b.set k i) (some w)) : IsLeast m rows lo hi (some w) := by
  obtain ⟨hp, hk, hbef⟩ := filter_head ho
  obtain ⟨hw, hleast⟩ := hl
  obtain ⟨hw2, hwk⟩ := hw.unset h.la h.lb hk hi0 hi1
  refine ⟨h.wide hw2, fun v hv => ?_⟩
  have hv := h.sol v hv
  have hvi := hno v hv
  by_cases e : gt v k = i
  · have := hv.set (k := k) h.la h.lb hk
    rw [e] at this
    exact hleast v this
  · refine .inr ⟨k, hk, fun j hj => ?_, by omega⟩
    have h1 := hbef j hj
    have h2 := hw2.btw j (by omega)
    have h3 := hv.btw j (by omega)
    simp only [decide_eq_false_iff_not] at h1
    omega
end
end Pw

set_option Elab.async false
set_option linter.all false
set_option maxRecDepth 100000
set_option maxHeartbeats 1000000
namespace Pw
/-- all rows of so many numbers from 0 to 9, ascending -/
def allT : Nat → List (List Int)
  | 0 => [[]]
  | m + 1 => (allT m).flatMap fun r => (List.range 10).map fun (k : Nat) => r ++ [(k : Int)]
theorem allT_len : ∀ {m : Nat} {w : List Int}, w ∈ allT m → w.length = m
  | 0, w, h => by simp [allT] at h; simp [h]
  | m + 1, w, h => by
    unfold allT at h
    obtain ⟨r, hr, h⟩ := List.mem_flatMap.mp h
    obtain ⟨k, hk, rfl⟩ := List.mem_map.mp h
    rw [List.length_append, allT_len hr]
    rfl
theorem allT_size : ∀ m, (allT m).length = 10 ^ m
  | 0 => rfl
  | m + 1 => by
    unfold allT
    rw [List.length_flatMap]
    simp only [List.length_map, List.length_range, List.map_const', List.sum_replicate_nat, allT_size m]
    rw [Nat.pow_succ]
theorem gt_app {r : List Int} {x : Int} (j : Nat) : gt (r ++ [x]) j = if j < r.length then gt r j else if j = r.length then x else 0 := by
  unfold gt
  simp only [List.getD_eq_getElem?_getD, List.getElem?_append]
  split
  · rfl
  · split
    · rename_i h1 h2; subst h2; simp
    · rw [List.getElem?_eq_none (by simp; omega)]; rfl
theorem allT_mem : ∀ {m : Nat} {w : List Int}, w.length = m → (∀ j, j < m → 0 ≤ gt w j ∧ gt w j ≤ 9) → w ∈ allT m
  | 0, w, h, _ => by
    rw [List.length_eq_zero_iff.mp h]; simp [allT]
  | m + 1, w, h, hb => by
    have hne : w ≠ [] := fun z => by rw [z] at h; simp at h
    have e : w = w.dropLast ++ [gt w m] := by
      conv => lhs; rw [← List.dropLast_concat_getLast hne]
      congr 1
      unfold gt
      rw [List.getLast_eq_getElem, List.getD_eq_getElem?_getD, List.getElem?_eq_getElem (by omega)]
      simp [h]
    have hl : w.dropLast.length = m := by simp [h]
    unfold allT
    refine List.mem_flatMap.mpr ⟨w.dropLast, allT_mem hl fun j hj => ?_, List.mem_map.mpr ⟨(gt w m).toNat, ?_, ?_⟩⟩
    · have := hb j (by omega)
      have e2 : gt w j = gt w.dropLast j := by
        conv => lhs; rw [e]
        rw [gt_app, hl, if_pos hj]
      rwa [e2] at this
    · have := hb m (by omega)
      exact List.mem_range.mpr (by omega)
    · have := hb m (by omega)
      conv => rhs; rw [e]
      rw [Int.toNat_of_nonneg this.1]
theorem allT_bd : ∀ {m : Nat} {w : List Int}, w ∈ allT m → ∀ j, j < m → 0 ≤ gt w j ∧ gt w j ≤ 9
  | 0, w, _, j, hj => by omega
  | m + 1, w, h, j, hj => by
    unfold allT at h
    obtain ⟨r, hr, h⟩ := List.mem_flatMap.mp h
    obtain ⟨k, hk, rfl⟩ := List.mem_map.mp h
    have hk := List.mem_range.mp hk
    rw [gt_app, allT_len hr]
    split
    · exact allT_bd hr j ‹_›
    · rw [if_pos (by omega)]
      omega
theorem Lx.app {m : Nat} {r r' : List Int} (hr : r.length = m) (hr' : r'.length = m) (h : Lx m r r') (x y : Int) : Lx (m + 1) (r ++ [x]) (r' ++ [y]) := by
  obtain ⟨k, hk, h1, h2⟩ := h
  refine ⟨k, by omega, fun j hj => ?_, ?_⟩
  · rw [gt_app, gt_app, hr, hr', if_pos (by omega), if_pos (by omega)]
    exact h1 j hj
  · rw [gt_app, gt_app, hr, hr', if_pos hk, if_pos hk]
    exact h2
theorem Lx.last {m : Nat} {r : List Int} (hr : r.length = m) {x y : Int} (h : x < y) : Lx (m + 1) (r ++ [x]) (r ++ [y]) := by
  refine ⟨m, by omega, fun j hj => ?_, ?_⟩
  · rw [gt_app, gt_app, hr, if_pos hj, if_pos hj]
  · rw [gt_app, gt_app, hr, if_neg (by omega), if_pos rfl, if_neg (by omega), if_pos rfl]
    exact h
theorem allT_asc : ∀ m, (allT m).Pairwise (Lx m)
  | 0 => by simp [allT]
  | m + 1 => by
    unfold allT
    have ih := allT_asc m
    have hlen : ∀ r ∈ allT m, r.length = m := fun r hr => allT_len hr
    generalize allT m = l at ih hlen
    induction l with
    | nil => simp
    | cons r l ih2 =>
      rw [List.pairwise_cons] at ih
      rw [List.flatMap_cons, List.pairwise_append]
      refine ⟨?_, ih2 ih.2 fun q hq => hlen q (List.mem_cons_of_mem _ hq), ?_⟩
      · rw [List.pairwise_map]
        exact List.Pairwise.imp (fun h => Lx.last (hlen r (List.mem_cons_self ..)) (by omega)) List.pairwise_lt_range
      · intro w hw v hv
        obtain ⟨k, _, rfl⟩ := List.mem_map.mp hw
        obtain ⟨r', hr', hv⟩ := List.mem_flatMap.mp hv
        obtain ⟨k', _, rfl⟩ := List.mem_map.mp hv
        exact (ih.1 r' hr').app (hlen r (List.mem_cons_self ..)) (hlen r' (List.mem_cons_of_mem _ hr')) _ _
def z09 (m : Nat) (x : Int) : List Int := List.replicate m x
theorem gt_rep {m : Nat} {x : Int} {j : Nat} (h : j < m) : gt (z09 m x) j = x := by
  simp [gt, z09, h]
def good (m : Nat) (rows : List (List Int)) (w : List Int) : Bool := rows.all fun row => decide (1 ≤ dot m (gt row) (gt w))
theorem good_iff {m : Nat} {rows : List (List Int)} {w : List Int} : good m rows w = true ↔ ∀ row ∈ rows, 1 ≤ dot m (gt row) (gt w) := by
  simp [good, List.all_eq_true]
/-- the first of all that will do is the least -/
theorem first_least (m : Nat) (rows : List (List Int)) : IsLeast m rows (z09 m 0) (z09 m 9) ((allT m).find? (good m rows)) := by
  have hS : ∀ w, Sol m rows (z09 m 0) (z09 m 9) w ↔ w ∈ allT m ∧ good m rows w = true := by
    intro w
    constructor
    · intro h
      refine ⟨allT_mem h.len fun j hj => ?_, good_iff.mpr h.pos⟩
      have := h.btw j hj
      rwa [gt_rep hj, gt_rep hj] at this
    · rintro ⟨h1, h2⟩
      refine ⟨allT_len h1, fun j hj => ?_, good_iff.mp h2⟩
      rw [gt_rep hj, gt_rep hj]
      exact allT_bd h1 j hj
  have hasc := allT_asc m
  cases hf : (allT m).find? (good m rows) with
  | none =>
    intro w hw
    obtain ⟨h1, h2⟩ := (hS w).mp hw
    exact List.find?_eq_none.mp hf w h1 h2
  | some w =>
    obtain ⟨h1, as, bs, h2, h3⟩ := List.find?_eq_some_iff_append.mp hf
    refine ⟨(hS w).mpr ⟨by rw [h2]; simp, h1⟩, fun v hv => ?_⟩
    obtain ⟨h4, h5⟩ := (hS v).mp hv
    rw [h2] at h4 hasc
    rcases List.mem_append.mp h4 with h4 | h4
    · have := h3 v h4
      rw [h5] at this
      exact absurd this (by decide)
    · rcases List.mem_cons.mp h4 with h4 | h4
      · exact .inl h4.symm
      · rw [List.pairwise_append] at hasc
        exact .inr ((List.pairwise_cons.mp hasc.2.1).1 v h4)
end Pw

set_option Elab.async false
set_option linter.all false
set_option maxRecDepth 100000
set_option maxHeartbeats 1000000
namespace Pw
open PySem PySem.Spec PyProof.Rows L2
/-! # what is shown -/
mutual
def D.sm : D → Bool
  | .non => true
  | .int i => decide (i.natAbs < 2 ^ 64)
  | .str x => x.cps.toList.all fun c => decide (c < 16 ^ 8)
  | .tup xs => D.sms xs
  | _ => false
def D.sms : List D → Bool
  | [] => true
  | x :: xs => D.sm x && D.sms xs
end
mutual
def D.wt : D → Nat
  | .non => 4
  | .int i => i.natAbs + 2
  | .str x => 10 * x.length + 2
  | .tup xs => 3 + D.wts xs
  | _ => 0
def D.wts : List D → Nat
  | [] => 0
  | x :: xs => D.wt x + 2 + D.wts xs
end
mutual
theorem sm_nb : ∀ {d : D}, D.sm d = true → D.nb d = true
  | .non, _ => rfl
  | .int _, _ => rfl
  | .str _, _ => rfl
  | .tup xs, h => sms_nbs (xs := xs) h
theorem sms_nbs : ∀ {xs : List D}, D.sms xs = true → D.nbs xs = true
  | [], _ => rfl
  | x :: xs, h => by
    unfold D.sms at h
    rw [Bool.and_eq_true] at h
    unfold D.nbs
    rw [sm_nb h.1, sms_nbs h.2]; rfl
end
theorem log2_small {n : Nat} (h : n < 2 ^ 64) : n.log2 < 1920 := by
  by_cases h0 : n = 0
  · subst h0; decide
  · have := (Nat.log2_lt h0).mpr h
    omega
theorem tupleText_len (ts : List Str) : (tupleText ts).length ≤ 3 + piled ts := by
  unfold tupleText
  rw [Str.length_append, Str.length_append]
  have e : ((if ts.length == 1 then ",)" else ")" : String) : Str).length ≤ 2 := by
    split <;> decide +kernel
  have e0 : ("(" : Str).length = 1 := by decide +kernel
  cases ts with
  | nil =>
    have e1 : (Str.join ", " []).length = 0 := by decide +kernel
    omega
  | cons t ts =>
    have := join_length_add (t :: ts) (by simp)
    omega
mutual
theorem shown_ok : ∀ {d : D}, D.sm d = true → (D.py d).showable = true ∧ (D.py d).hasDict = false ∧ (D.py d).shown.length ≤ D.wt d
  | .non, _ => ⟨rfl, rfl, by decide +kernel⟩
  | .int i, h => by
    have h : i.natAbs < 2 ^ 64 := of_decide_eq_true h
    refine ⟨decide_eq_true (log2_small h), rfl, ?_⟩
    have := len_str_of_int i
    show (Str.ofString (toString i)).length ≤ i.natAbs + 2
    omega
  | .str x, h => by
    refine ⟨rfl, rfl, PySem.StrLaws.reprText_len x fun c hc => ?_⟩
    have := List.all_eq_true.mp h c hc
    exact of_decide_eq_true this
  | .tup xs, h => by
    have ih := shownAll_ok (xs := xs) h
    refine ⟨ih.1, ih.2.1, ?_⟩
    exact Nat.le_trans (tupleText_len _) (Nat.add_le_add_left ih.2.2 _)
theorem shownAll_ok : ∀ {xs : List D}, D.sms xs = true → PyData.showableAll (D.pys xs) = true ∧ PyData.hasDictAll (D.pys xs) = false ∧ piled (PyData.shownAll (D.pys xs)) ≤ D.wts xs
  | [], _ => ⟨rfl, rfl, Nat.le_refl _⟩
  | x :: xs, h => by
    unfold D.sms at h
    rw [Bool.and_eq_true] at h
    have h1 := shown_ok h.1
    have h2 := shownAll_ok h.2
    refine ⟨?_, ?_, ?_⟩
    · show (_ && _) = true
      rw [h1.1, h2.1]; rfl
    · show (_ || _) = false
      rw [h1.2.1, h2.2.1]; rfl
    · show piled (PyData.shown (D.py x) :: PyData.shownAll (D.pys xs)) ≤ D.wt x + 2 + D.wts xs
      rw [piled_cons]
      omega
end
theorem sms_map {α : Type} {g : α → D} : ∀ {l : List α}, (∀ a ∈ l, D.sm (g a) = true) → D.sms (l.map g) = true
  | [], _ => rfl
  | a :: l, h => by
    rw [List.map_cons]
    unfold D.sms
    rw [h a (List.mem_cons_self ..), sms_map fun b hb => h b (List.mem_cons_of_mem _ hb)]; rfl
theorem wts_map {α : Type} {g : α → D} {k : Nat} : ∀ {l : List α}, (∀ a ∈ l, D.wt (g a) + 2 ≤ k) → D.wts (l.map g) ≤ l.length * k
  | [], _ => by simp [D.wts]
  | a :: l, h => by
    rw [List.map_cons]
    unfold D.wts
    have := wts_map (l := l) fun b hb => h b (List.mem_cons_of_mem _ hb)
    have := h a (List.mem_cons_self ..)
    rw [List.length_cons, Nat.add_mul, Nat.one_mul]
    omega
section
variable {S : Sto}
theorem c_nebl (a b : Bool) : cmpop .ne (.bl a) (.bl b) S = some (a != b) := by
  simp only [cmpop, deq, pyd, rd_bl, D.toPy]
  cases a <;> cases b <;> simp [PyData.depth, PyData.eqv]
theorem p_repr {bx : Bool} {d : D} (h : D.sm d = true) (hw : D.wt d ≤ 10000000) (hd : D.dep d ≤ 60) : prim .repr bx [d] S = .ok (.str (D.py d).shown) S := by
  show R.o (reprD S d) _ = _
  have h1 := shown_ok h
  have hn := sm_nb h
  unfold reprD pyd
  rw [rd_nb hn, toPy_nb hn]
  simp only [Option.bind_some]
  have hdep := dep_le d
  rw [h1.1, h1.2.1, decide_eq_true (show (D.py d).shown.length + 64 ≤ sizeLine by rw [sizeLine_eq]; omega), decide_eq_true (show (D.py d).depth ≤ 60 by omega)]
  rfl
end
end Pw

set_option Elab.async false
set_option linter.all false
set_option maxRecDepth 100000
set_option maxHeartbeats 1000000
namespace Pw
open PySem PySem.Spec PyProof.Rows L2
theorem lexAt_same {e r : Nat → Bool} {z : Bool} : ∀ (k i : Nat), (∀ j, i ≤ j → j < i + k → e j = true) → Ob.lexAt e r z i k = z
  | 0, _, _ => Ob.lexAt_zero
  | k + 1, i, h => by
    rw [Ob.lexAt_succ, h i (Nat.le_refl _) (by omega), if_pos rfl]
    exact lexAt_same k (i + 1) fun j h1 h2 => h j (by omega) (by omega)
theorem lexAt_at {e r : Nat → Bool} {z : Bool} {p : Nat} (hp : e p = false) : ∀ (k i : Nat), i ≤ p → p < i + k → (∀ j, i ≤ j → j < p → e j = true) → Ob.lexAt e r z i k = r p
  | 0, i, h1, h2, _ => by omega
  | k + 1, i, h1, h2, h => by
    rw [Ob.lexAt_succ]
    by_cases q : i = p
    · subst q
      rw [hp]
      rfl
    · rw [h i (Nat.le_refl _) (by omega), if_pos rfl]
      exact lexAt_at hp k (i + 1) (by omega) (by omega) fun j h3 h4 => h j (by omega) h4
theorem lexLe_ok {m : Nat} {w v : List Int} (hw : w.length = m) (hv : v.length = m) (h : w = v ∨ Lx m w v) : lexLe w v = true := by
  unfold lexLe
  rcases h with rfl | ⟨p, hp, h1, h2⟩
  · rw [lexAt_same]
    · simp
    · intro j _ _; simp
  · rw [lexAt_at (p := p)]
    · have : w.getD p 0 < v.getD p 0 := h2
      exact decide_eq_true (by omega)
    · have : w.getD p 0 < v.getD p 0 := h2
      exact decide_eq_false (by omega)
    · omega
    · omega
    · intro j _ hj
      exact decide_eq_true (h1 j hj)
section
variable {S : Sto}
theorem c_leT {m : Nat} {w v : List Int} (hw : w.length = m) (hv : v.length = m) (h : w = v ∨ Lx m w v) : cmpop .le (iT w) (iT v) S = some true := by
  show (ints? (w.map D.int)).bind (fun ns => (ints? (v.map D.int)).map fun ms => lexLe ns ms) = _
  rw [ints_map, ints_map]
  simp [lexLe_ok hw hv h]
theorem cut_m1 (xs : List D) : cutD xs none (some (-1)) = xs.dropLast := by
  unfold cutD
  rw [HT.sIx_none]
  have e : HT.sIx xs.length xs.length (some (-1)) = xs.length - 1 := by
    unfold HT.sIx
    simp
    omega
  rw [e, List.drop_zero, Nat.sub_zero, List.dropLast_eq_take]
end
theorem sum_sub (m : Nat) (f g : Nat → Int) : (tab m fun j => f j - g j).sum = (tab m f).sum - (tab m g).sum := by
  induction m with
  | zero => rfl
  | succ m ih =>
    rw [sum_succ, sum_succ, sum_succ, ih]
    omega
end Pw

set_option Elab.async false
set_option linter.all false
set_option maxRecDepth 100000
set_option maxHeartbeats 1000000
namespace Pw
/-! # a row of words, of which one leads to the next -/
def dueF (o : List Nat) (j : Nat) : Int := if j ∈ o then (o.length : Int) - 1 - (o.idxOf j : Int) else 0
theorem sum_ind {m a : Nat} {v : Nat → Int} (h : a < m) : (tab m fun j => (if a = j then 1 else 0) * v j).sum = v a := by
  induction m with
  | zero => omega
  | succ m ih =>
    rw [sum_succ]
    by_cases e : a = m
    · subst e
      have : (tab a fun j => (if a = j then 1 else 0) * v j).sum = 0 := by
        have z : (tab a fun j => (if a = j then 1 else 0) * v j) = tab a fun _ => 0 := tab_congr fun j hj => by rw [if_neg (by omega), Int.zero_mul]
        rw [z]
        have : ∀ q, (tab q fun _ => (0 : Int)).sum = 0 := fun q => by
          induction q with
          | zero => rfl
          | succ q ih => rw [sum_succ, ih]; rfl
        exact this a
      rw [this]
      simp
    · rw [ih (by omega), if_neg e]
      simp
/-- each word of the row is heavier than the next -/
def Row (o : List Nat) (v : Nat → Int) : Prop := ∀ k, k + 1 < o.length → v (o.getD (k + 1) 0) + 1 ≤ v (o.getD k 0)
theorem row_low {o : List Nat} {v : Nat → Int} (h : Row o v) (h0 : ∀ j ∈ o, 0 ≤ v j) : ∀ d k, k < o.length → o.length = k + 1 + d → (d : Int) ≤ v (o.getD k 0)
  | 0, k, hk, _ => h0 _ (by rw [List.getD_eq_getElem?_getD, List.getElem?_eq_getElem hk]; exact List.getElem_mem hk)
  | d + 1, k, hk, e => by
    have ih := row_low h h0 d (k + 1) (by omega) (by omega)
    have := h k (by omega)
    omega
theorem due_low {o : List Nat} {v : Nat → Int} (h : Row o v) {m : Nat} (h0 : ∀ j, j < m → 0 ≤ v j) (ho : ∀ j ∈ o, j < m) {j : Nat} (hj : j < m) : dueF o j ≤ v j := by
  unfold dueF
  split
  · rename_i hm
    have hi := List.idxOf_lt_length_of_mem hm
    have e : o.getD (o.idxOf j) 0 = j := by
      rw [List.getD_eq_getElem?_getD, List.getElem?_eq_getElem hi]
      exact List.getElem_idxOf hi
    have := row_low h (fun j hj => h0 j (ho j hj)) (o.length - 1 - o.idxOf j) (o.idxOf j) hi (by omega)
    rw [e] at this
    omega
  · exact h0 j hj
theorem due_row {o : List Nat} (hn : o.Nodup) : Row o (dueF o) := by
  intro k hk
  have h1 : o.getD k 0 = o[k] := by simp [show k < o.length by omega]
  have h2 : o.getD (k + 1) 0 = o[k + 1] := by simp [hk]
  rw [h1, h2]
  unfold dueF
  rw [if_pos (List.getElem_mem _), if_pos (List.getElem_mem _), hn.idxOf_getElem k (by omega), hn.idxOf_getElem (k + 1) hk]
  omega
theorem due_bd (o : List Nat) (j : Nat) : 0 ≤ dueF o j ∧ dueF o j ≤ o.length := by
  unfold dueF
  split
  · rename_i hm
    have hi := List.idxOf_lt_length_of_mem hm
    omega
  · omega
theorem due_least {m : Nat} {o : List Nat} {rows : List (List Int)} (hn : o.Nodup) (ho : ∀ j ∈ o, j < m) (h9 : o.length ≤ 9) (hrows : ∀ v : List Int, (∀ row ∈ rows, 1 ≤ dot m (gt row) (gt v)) ↔ Row o (gt v)) :
    IsLeast m rows (z09 m 0) (z09 m 9) (some (tab m (dueF o))) := by
  have hg : ∀ j, j < m → gt (tab m (dueF o)) j = dueF o j := fun j hj => tab_getD hj
  have hrow : Row o (gt (tab m (dueF o))) := by
    intro k hk
    have hm1 : o.getD k 0 < m := ho _ (by rw [List.getD_eq_getElem?_getD, List.getElem?_eq_getElem (by omega : k < o.length)]; exact List.getElem_mem _)
    have hm2 : o.getD (k + 1) 0 < m := ho _ (by rw [List.getD_eq_getElem?_getD, List.getElem?_eq_getElem hk]; exact List.getElem_mem _)
    rw [hg _ hm1, hg _ hm2]
    exact due_row hn k hk
  refine ⟨⟨by simp, fun j hj => ?_, (hrows _).mpr hrow⟩, fun v hv => ?_⟩
  · rw [gt_rep hj, gt_rep hj, hg j hj]
    have := due_bd o j
    omega
  · have hvr := (hrows v).mp hv.pos
    have hv0 : ∀ j, j < m → 0 ≤ gt v j := fun j hj => by
      have := hv.btw j hj
      rw [gt_rep hj] at this
      exact this.1
    by_cases e : tab m (dueF o) = v
    · exact .inl e
    · refine .inr ?_
      -- the first place that differs
      have hex : ∃ k, k < m ∧ gt (tab m (dueF o)) k ≠ gt v k := by
        apply Classical.byContradiction
        intro z
        refine e (tab_ext (by simp) hv.len fun j hj => ?_)
        apply Classical.byContradiction
        intro q
        exact z ⟨j, hj, q⟩
      have hmin : ∀ d k, k ≤ d → k < m → gt (tab m (dueF o)) k ≠ gt v k → Lx m (tab m (dueF o)) v := by
        intro d
        induction d with
        | zero =>
          intro k hk0 hk hne
          have := due_low hvr hv0 ho hk
          rw [hg k hk] at hne
          exact ⟨k, hk, fun j hj => by omega, by rw [hg k hk]; omega⟩
        | succ d ih =>
          intro k hkd hk hne
          by_cases q : ∃ j, j < k ∧ gt (tab m (dueF o)) j ≠ gt v j
          · obtain ⟨j, hj, hne2⟩ := q
            exact ih j (by omega) (by omega) hne2
          · have := due_low hvr hv0 ho hk
            rw [hg k hk] at hne
            refine ⟨k, hk, fun j hj => ?_, by rw [hg k hk]; omega⟩
            apply Classical.byContradiction
            intro z
            exact q ⟨j, hj, z⟩
      obtain ⟨k, hk, hne⟩ := hex
      exact hmin k k (Nat.le_refl _) hk hne
/-- and none if the row comes back -/
theorem back_none {m : Nat} {o : List Nat} (ho : ∀ j ∈ o, j < m) (h2 : 2 ≤ o.length) {v : Nat → Int} (h : Row o v) (h0 : ∀ j, j < m → 0 ≤ v j) (hb : v (o.getD 0 0) + 1 ≤ v (o.getD (o.length - 1) 0)) : False := by
  -- from the first to the last each is lighter
  have hd : ∀ k, k < o.length → v (o.getD k 0) + k ≤ v (o.getD 0 0) := by
    intro k
    induction k with
    | zero => intro _; omega
    | succ k ih =>
      intro hk
      have := ih (by omega)
      have := h k hk
      omega
  have := hd (o.length - 1) (by omega)
  omega
end Pw

set_option Elab.async false
set_option linter.all false
set_option maxRecDepth 100000
set_option maxHeartbeats 0
namespace Pw.Lw
open PySem PySem.Spec PyProof.Rows L2 Pw
abbrev pw : PySem.Program := PySem.Challenge.pw_wirewebs_k48_whole_least_weights
def st (i : Nat) : Stmt := pw.main.body.getD i (.Pass ⟨0, 0, 0, 0⟩)
def f0 : Fn := ⟨1, 1, true, [
  .ret (.and (.isi (.v 0) .int) (.not (.isi (.v 0) .bool)))]⟩
def d0 : FD := ⟨"is_integer", "is_integer", st 7, ["value"], ["value"], f0⟩
def f1 : Fn := ⟨3, 3, true, [
  .ret (.and (.call 0 [(.v 1)]) (.cmp2 .le .le (.v 0) (.v 1) (.v 2)))]⟩
def d1 : FD := ⟨"is_between", "is_between", st 8, ["least", "value", "most"], ["least", "value", "most"], f1⟩
def f2 : Fn := ⟨2, 2, true, [
  .ret (.and (.isi (.v 1) .tuple) (.cmp .eq (.pr .len false [(.v 1)]) (.v 0)))]⟩
def d2 : FD := ⟨"is_tuple_of", "is_tuple_of", st 9, ["length", "value"], ["length", "value"], f2⟩
def f3 : Fn := ⟨2, 1, true, [
  .ret (.and (.isi (.v 0) .str) (.and (.cmp2 .le .le (.k (.int 1)) (.pr .len false [(.v 0)]) (.k (.int 8))) (.pr .all false [(.comp false (.n 1) (.e (.v 0)) [1] none (.cmp .isin (.v 1) (.k (.str "abcdefghijklmnopqrstuvwxyz"))))])))]⟩
def d3 : FD := ⟨"is_word", "is_word", st 10, ["value", "sign"], ["value"], f3⟩
def f4 : Fn := ⟨2, 1, true, [
  .ret (.and (.isi (.v 0) .tuple) (.and (.cmp .le (.pr .len false [(.v 0)]) (.k (.int 4))) (.pr .all false [(.comp false (.n 1) (.e (.v 0)) [1] none (.call 3 [(.v 1)]))])))]⟩
def d4 : FD := ⟨"are_kinds", "are_kinds", st 14, ["value", "kind"], ["value"], f4⟩
def f5 : Fn := ⟨5, 1, true, [
  .ite (.or (.not (.isi (.v 0) .tuple)) (.not (.cmp2 .le .le (.k (.int 1)) (.pr .len false [(.v 0)]) (.k (.int 12))))) [.ret (.k (.bl false))] [],
  .for_ (.n 1) (.e (.v 0)) [.ite (.or (.not (.call 2 [(.k (.int 3)), (.v 1)])) (.or (.not (.call 3 [(.ix (.v 1) (.k (.int 0)))])) (.or (.not (.call 4 [(.ix (.v 1) (.k (.int 1)))])) (.not (.call 4 [(.ix (.v 1) (.k (.int 2)))]))))) [.ret (.k (.bl false))] []],
  .ret (.cmp .eq (.pr .lenSet false [(.comp false (.tu [(.n 2), (.n 3), (.n 4)]) (.e (.v 0)) [2, 3, 4] none (.v 2))]) (.pr .len false [(.v 0)]))]⟩
def d5 : FD := ⟨"is_stock", "is_stock", st 15, ["value", "one", "word", "ins", "outs"], ["value"], f5⟩
def f6 : Fn := ⟨4, 1, true, [
  .ret (.dcomp false (.tu [(.n 1), (.n 2), (.n 3)]) (.e (.v 0)) [1, 2, 3] (.v 1) (.tup [(.v 2), (.v 3)]))]⟩
def d6 : FD := ⟨"sorts_in", "sorts_in", st 16, ["stock", "word", "ins", "outs"], ["stock"], f6⟩
def f7 : Fn := ⟨3, 2, true, [
  .ret (.and (.isi (.v 1) .tuple) (.pr .all false [(.comp false (.n 2) (.e (.v 1)) [2] none (.call 1 [(.k (.int 0)), (.v 2), (.bin .sub false (.pr .len false [(.v 0)]) (.k (.int 1)))]))]))]⟩
def d7 : FD := ⟨"are_wires", "are_wires", st 17, ["wires", "value", "index"], ["wires", "value"], f7⟩
def f8 : Fn := ⟨3, 2, true, [
  .ret (.pr .tuple false [(.comp false (.n 2) (.e (.v 1)) [2] none (.ix (.v 0) (.v 2)))])]⟩
def d8 : FD := ⟨"kinds_at", "kinds_at", st 18, ["wires", "indexes", "index"], ["wires", "indexes"], f8⟩
def f9 : Fn := ⟨2, 2, true, [
  .ite (.or (.not (.call 2 [(.k (.int 3)), (.v 1)])) (.or (.not (.call 3 [(.ix (.v 1) (.k (.int 0)))])) (.or (.not (.call 7 [(.v 0), (.ix (.v 1) (.k (.int 1)))])) (.not (.call 7 [(.v 0), (.ix (.v 1) (.k (.int 2)))]))))) [.ret (.k (.bl false))] [],
  .ret (.and (.cmp .le (.pr .len false [(.ix (.v 1) (.k (.int 1)))]) (.k (.int 4))) (.cmp .le (.pr .len false [(.ix (.v 1) (.k (.int 2)))]) (.k (.int 4))))]⟩
def d9 : FD := ⟨"has_form", "has_form", st 19, ["wires", "box"], ["wires", "box"], f9⟩
def f10 : Fn := ⟨7, 3, true, [
  .asg (.g (.n 3)) (.ite (.isk false (.v 2) .non) (.dct0 true) (.pr .dict true [(.v 2)])),
  .for_ (.tu [(.n 4), (.n 5)]) (.enum (.v 1)) [.ite (.not (.call 9 [(.v 0), (.v 5)])) [.ret (.v 4)] [], .asg (.g (.n 6)) (.tup [(.call 8 [(.v 0), (.ix (.v 5) (.k (.int 1)))]), (.call 8 [(.v 0), (.ix (.v 5) (.k (.int 2)))])]), .ite (.and (.isk false (.v 2) .non) (.and (.cmp .notin (.ix (.v 5) (.k (.int 0))) (.v 3)) (.cmp .lt (.pr .len false [(.v 3)]) (.k (.int 12))))) [.asg (.sub (.v 3) (.ix (.v 5) (.k (.int 0)))) (.v 6)] [], .ite (.or (.cmp .notin (.ix (.v 5) (.k (.int 0))) (.v 3)) (.cmp .ne (.ix (.v 3) (.ix (.v 5) (.k (.int 0)))) (.v 6))) [.ret (.v 4)] []],
  .ret (.k .non)]⟩
def d10 : FD := ⟨"boxes_fault", "boxes_fault", st 20, ["wires", "boxes", "sorts", "found", "k", "box", "own"], ["wires", "boxes", "sorts"], f10⟩
def f11 : Fn := ⟨4, 1, true, [
  .ite (.not (.isi (.v 0) .tuple)) [.ret (.tup [(.k (.int 0))])] [],
  .asg (.g (.n 3)) (.comp false (.tu [(.n 1), (.n 2)]) (.enum (.v 0)) [1, 2] (some (.not (.call 3 [(.v 2)]))) (.v 1)),
  .ret (.ite (.cmp .ne (.v 3) (.lst false [])) (.tup [(.k (.int 0)), (.ix (.v 3) (.k (.int 0)))]) (.k .non))]⟩
def d11 : FD := ⟨"wires_fault", "wires_fault", st 21, ["wires", "k", "kind", "wrong"], ["wires"], f11⟩
def f12 : Fn := ⟨6, 3, true, [
  .ite (.not (.isi (.v 2) .tuple)) [.ret (.tup [(.v 1)])] [],
  .asg (.g (.n 5)) (.comp false (.tu [(.n 3), (.n 4)]) (.enum (.v 2)) [3, 4] (some (.not (.call 1 [(.k (.int 0)), (.v 4), (.bin .sub false (.pr .len false [(.v 0)]) (.k (.int 1)))]))) (.v 3)),
  .ret (.ite (.cmp .ne (.v 5) (.lst false [])) (.tup [(.v 1), (.ix (.v 5) (.k (.int 0)))]) (.k .non))]⟩
def d12 : FD := ⟨"ends_fault", "ends_fault", st 22, ["wires", "side", "value", "k", "index", "wrong"], ["wires", "side", "value"], f12⟩
def f13 : Fn := ⟨8, 2, true, [
  .ite (.not (.call 2 [(.k (.int 4)), (.v 1)])) [.ret (.tup [])] [],
  .asg (.g (.tu [(.n 2), (.n 3), (.n 4), (.n 5)])) (.v 1),
  .asg (.g (.n 6)) (.call 11 [(.v 2)]),
  .ite (.and (.isk false (.v 6) .non) (.not (.isi (.v 3) .tuple))) [.asg (.g (.n 6)) (.tup [(.k (.int 1))])] [],
  .ite (.isk false (.v 6) .non) [.asg (.g (.n 7)) (.call 10 [(.v 2), (.v 3), (.v 0)]), .asg (.g (.n 6)) (.ite (.isk false (.v 7) .non) (.k .non) (.tup [(.k (.int 1)), (.v 7)]))] [],
  .ite (.isk false (.v 6) .non) [.asg (.g (.n 6)) (.call 12 [(.v 2), (.k (.int 2)), (.v 4)])] [],
  .ret (.ite (.isk false (.v 6) .non) (.call 12 [(.v 2), (.k (.int 3)), (.v 5)]) (.v 6))]⟩
def d13 : FD := ⟨"fault_by", "fault_by", st 23, ["sorts", "value", "wires", "boxes", "left", "right", "place", "wrong"], ["sorts", "value"], f13⟩
def f14 : Fn := ⟨1, 1, true, [
  .ret (.bin .add false (.ix (.v 0) (.k (.int 2))) (.ix (.v 0) (.k (.int 3))))]⟩
def d14 : FD := ⟨"ends_of", "ends_of", st 26, ["web"], ["web"], f14⟩
def f15 : Fn := ⟨5, 1, true, [
  .asg (.g (.n 1)) (.lst true []),
  .for_ (.tu [(.n 2), (.n 3), (.n 4)]) (.e (.ix (.v 0) (.k (.int 1)))) [.aug 1 .add (.bin .add true (.pr .list false [(.v 3)]) (.pr .list false [(.v 4)]))],
  .ret (.v 1)]⟩
def d15 : FD := ⟨"wires_at_boxes", "wires_at_boxes", st 27, ["web", "found", "word", "ins", "outs"], ["web"], f15⟩
def f16 : Fn := ⟨4, 1, true, [
  .asg (.g (.tu [(.n 1), (.n 2)])) (.tup [(.call 14 [(.v 0)]), (.call 15 [(.v 0)])]),
  .ite (.or (.cmp .eq (.ix (.v 0) (.k (.int 1))) (.tup [])) (.cmp .lt (.pr .lenSet false [(.v 1)]) (.pr .len false [(.v 1)]))) [.ret (.k (.bl false))] [],
  .ret (.pr .all false [(.comp false (.n 3) (.rng [(.pr .len false [(.ix (.v 0) (.k (.int 0)))])]) [3] none (.cmp .isin (.v 3) (.v 2)))])]⟩
def d16 : FD := ⟨"can_be_left", "can_be_left", st 28, ["web", "ends", "placed", "wire"], ["web"], f16⟩
def f17 : Fn := ⟨2, 2, true, [
  .ite (.cmp .ne (.call 8 [(.ix (.v 0) (.k (.int 0))), (.ix (.v 0) (.k (.int 2)))]) (.call 8 [(.ix (.v 1) (.k (.int 0))), (.ix (.v 1) (.k (.int 2)))])) [.ret (.k (.bl false))] [],
  .ret (.cmp .eq (.call 8 [(.ix (.v 0) (.k (.int 0))), (.ix (.v 0) (.k (.int 3)))]) (.call 8 [(.ix (.v 1) (.k (.int 0))), (.ix (.v 1) (.k (.int 3)))]))]⟩
def d17 : FD := ⟨"have_kinds_alike", "have_kinds_alike", st 29, ["one", "other"], ["one", "other"], f17⟩
def f18 : Fn := ⟨4, 2, true, [
  .ite (.not (.call 2 [(.k (.int 2)), (.v 1)])) [.ret (.tup [])] [],
  .for_ (.n 2) (.e (.tup [(.k (.int 0)), (.k (.int 1))])) [.asg (.g (.n 3)) (.call 13 [(.v 0), (.ix (.v 1) (.v 2))]), .ite (.isk true (.v 3) .non) [.ret (.bin .add false (.tup [(.v 2)]) (.v 3))] []],
  .ite (.not (.call 17 [(.ix (.v 1) (.k (.int 0))), (.ix (.v 1) (.k (.int 1)))])) [.ret (.tup [(.k (.int 2))])] [],
  .ret (.ite (.call 16 [(.ix (.v 1) (.k (.int 0)))]) (.k .non) (.tup [(.k (.int 3))]))]⟩
def d18 : FD := ⟨"fault_in_rule", "fault_in_rule", st 30, ["sorts", "value", "side", "place"], ["sorts", "value"], f18⟩
def f19 : Fn := ⟨6, 1, true, [
  .ite (.not (.call 2 [(.k (.int 2)), (.v 0)])) [.ret (.tup [])] [],
  .asg (.g (.tu [(.n 1), (.n 2)])) (.v 0),
  .ite (.not (.call 5 [(.v 1)])) [.ret (.tup [(.k (.int 0))])] [],
  .ite (.or (.not (.isi (.v 2) .tuple)) (.not (.cmp2 .le .le (.k (.int 1)) (.pr .len false [(.v 2)]) (.k (.int 8))))) [.ret (.tup [(.k (.int 1))])] [],
  .for_ (.tu [(.n 3), (.n 4)]) (.enum (.v 2)) [.asg (.g (.n 5)) (.call 18 [(.call 6 [(.v 1)]), (.v 4)]), .ite (.isk true (.v 5) .non) [.ret (.bin .add false (.tup [(.k (.int 1)), (.v 3)]) (.v 5))] []],
  .ret (.k .non)]⟩
def d19 : FD := ⟨"book_fault", "book_fault", st 31, ["value", "stock", "rules", "k", "rule", "place"], ["value"], f19⟩
def f20 : Fn := ⟨2, 1, true, [
  .asg (.g (.n 1)) (.call 19 [(.v 0)]),
  .ite (.isk true (.v 1) .non) [.bad] []]⟩
def d20 : FD := ⟨"check_book", "check_book", st 32, ["book", "place"], ["book"], f20⟩
def f21 : Fn := ⟨1, 1, true, [
  .ret (.and (.isi (.v 0) .int) (.and (.not (.isi (.v 0) .bool)) (.cmp .ge (.v 0) (.k (.int 0)))))]⟩
def d21 : FD := ⟨"is_number", "is_number", st 35, ["value"], ["value"], f21⟩
def f22 : Fn := ⟨3, 2, true, [
  .ite (.or (.not (.isi (.v 1) .tuple)) (.or (.cmp .ne (.pr .len false [(.v 1)]) (.pr .len false [(.v 0)])) (.not (.pr .all false [(.comp false (.n 2) (.e (.v 1)) [2] none (.call 21 [(.v 2)]))])))) [.bad] []]⟩
def d22 : FD := ⟨"check_weights", "check_weights", st 36, ["stock", "weights", "one"], ["stock", "weights"], f22⟩
def f23 : Fn := ⟨5, 2, true, [
  .asg (.g (.n 3)) (.comp false (.n 2) (.e (.ix (.v 1) (.k (.int 1)))) [2] none (.ix (.v 2) (.k (.int 0)))),
  .ret (.comp false (.n 4) (.e (.v 0)) [4] none (.mth .count false (.v 3) [(.ix (.v 4) (.k (.int 0)))]))]⟩
def d23 : FD := ⟨"counts_of", "counts_of", st 37, ["stock", "web", "box", "words", "entry"], ["stock", "web"], f23⟩
def f24 : Fn := ⟨5, 3, true, [
  .ret (.pr .sum false [(.comp false (.tu [(.n 3), (.n 4)]) (.zip (.call 23 [(.v 0), (.v 2)]) (.v 1)) [3, 4] none (.bin .mul false (.v 3) (.v 4)))])]⟩
def d24 : FD := ⟨"sum_of", "sum_of", st 38, ["stock", "weights", "web", "many", "weight"], ["stock", "weights", "web"], f24⟩
def f25 : Fn := ⟨3, 3, true, [
  .ret (.cmp .gt (.call 24 [(.v 0), (.v 2), (.ix (.v 1) (.k (.int 0)))]) (.call 24 [(.v 0), (.v 2), (.ix (.v 1) (.k (.int 1)))]))]⟩
def d25 : FD := ⟨"falls_by", "falls_by", st 39, ["stock", "rule", "weights"], ["stock", "rule", "weights"], f25⟩
def f26 : Fn := ⟨3, 2, true, [
  .expr (.call 20 [(.v 0)]),
  .expr (.call 22 [(.ix (.v 0) (.k (.int 0))), (.v 1)]),
  .ret (.pr .all false [(.comp false (.n 2) (.e (.ix (.v 0) (.k (.int 1)))) [2] none (.call 25 [(.ix (.v 0) (.k (.int 0))), (.v 2), (.v 1)]))])]⟩
def d26 : FD := ⟨"all_fall", "all_fall", st 40, ["book", "weights", "rule"], ["book", "weights"], f26⟩
def f27 : Fn := ⟨5, 1, true, [
  .asg (.g (.n 1)) (.lst true []),
  .for_ (.n 2) (.e (.ix (.v 0) (.k (.int 1)))) [.expr (.mth .append false (.v 1) [(.comp false (.tu [(.n 3), (.n 4)]) (.zip (.call 23 [(.ix (.v 0) (.k (.int 0))), (.ix (.v 2) (.k (.int 0)))]) (.call 23 [(.ix (.v 0) (.k (.int 0))), (.ix (.v 2) (.k (.int 1)))])) [3, 4] none (.bin .sub false (.v 3) (.v 4)))])],
  .ret (.v 1)]⟩
def d27 : FD := ⟨"losses_of", "losses_of", st 41, ["book", "rows", "rule", "one", "other"], ["book"], f27⟩
def f28 : Fn := ⟨6, 3, true, [
  .ret (.pr .sum false [(.comp false (.tu [(.n 3), (.n 4), (.n 5)]) (.zip3 (.v 0) (.v 1) (.v 2)) [3, 4, 5] none (.pr .max2 false [(.bin .mul false (.v 3) (.v 4)), (.bin .mul false (.v 3) (.v 5))]))])]⟩
def d28 : FD := ⟨"most_of", "most_of", st 42, ["row", "lows", "highs", "loss", "low", "high"], ["row", "lows", "highs"], f28⟩
def f29 : Fn := ⟨7, 3, true, [
  .asg (.g (.n 3)) (.call 28 [(.v 0), (.v 1), (.v 2)]),
  .ite (.cmp .lt (.v 3) (.k (.int 1))) [.ret (.k .non)] [],
  .asg (.g (.tu [(.n 1), (.n 2)])) (.tup [(.pr .list true [(.v 1)]), (.pr .list true [(.v 2)])]),
  .for_ (.tu [(.n 4), (.n 5)]) (.enum (.v 0)) [.asg (.g (.n 6)) (.bin .sub false (.v 3) (.k (.int 1))), .ite (.cmp .gt (.v 5) (.k (.int 0))) [.asg (.sub (.v 1) (.v 4)) (.pr .max2 false [(.ix (.v 1) (.v 4)), (.bin .sub false (.ix (.v 2) (.v 4)) (.bin .fdiv false (.v 6) (.v 5)))])] [], .ite (.cmp .lt (.v 5) (.k (.int 0))) [.asg (.sub (.v 2) (.v 4)) (.pr .min2 false [(.ix (.v 2) (.v 4)), (.bin .add false (.ix (.v 1) (.v 4)) (.bin .fdiv false (.v 6) (.neg (.v 5))))])] []],
  .ret (.tup [(.v 1), (.v 2)])]⟩
def d29 : FD := ⟨"narrowed", "narrowed", st 43, ["row", "lows", "highs", "most", "k", "loss", "spare"], ["row", "lows", "highs"], f29⟩
def f30 : Fn := ⟨6, 3, true, [
  .asg (.g (.n 3)) (.k .non),
  .while_ (.cmp .ne (.v 3) (.tup [(.v 1), (.v 2)])) [.asg (.g (.n 3)) (.tup [(.pr .list false [(.v 1)]), (.pr .list false [(.v 2)])]), .for_ (.n 4) (.e (.v 0)) [.asg (.g (.n 5)) (.call 29 [(.v 4), (.v 1), (.v 2)]), .ite (.isk false (.v 5) .non) [.ret (.k .non)] [], .asg (.g (.tu [(.n 1), (.n 2)])) (.v 5)]],
  .ret (.tup [(.v 1), (.v 2)])]⟩
def d30 : FD := ⟨"drawn_together", "drawn_together", st 44, ["losses", "lows", "highs", "ahead", "row", "found"], ["losses", "lows", "highs"], f30⟩
def f31 : Fn := ⟨8, 3, true, [
  .asg (.g (.n 3)) (.call 30 [(.v 0), (.v 1), (.v 2)]),
  .ite (.isk false (.v 3) .non) [.ret (.k .non)] [],
  .asg (.g (.tu [(.n 1), (.n 2)])) (.v 3),
  .asg (.g (.n 5)) (.comp false (.n 4) (.rng [(.pr .len false [(.v 1)])]) [4] (some (.cmp .lt (.ix (.v 1) (.v 4)) (.ix (.v 2) (.v 4)))) (.v 4)),
  .ite (.cmp .eq (.v 5) (.lst false [])) [.ret (.pr .tuple false [(.v 1)])] [],
  .asg (.g (.n 4)) (.ix (.v 5) (.k (.int 0))),
  .for_ (.n 6) (.rng [(.ix (.v 1) (.v 4)), (.bin .add false (.ix (.v 2) (.v 4)) (.k (.int 1)))]) [.asg (.g (.n 7)) (.call 31 [(.v 0), (.bin .add false (.bin .add false (.sl false (.v 1) none (some (.v 4))) (.lst false [(.v 6)])) (.sl false (.v 1) (some (.bin .add false (.v 4) (.k (.int 1)))) none)), (.bin .add false (.bin .add false (.sl false (.v 2) none (some (.v 4))) (.lst false [(.v 6)])) (.sl false (.v 2) (some (.bin .add false (.v 4) (.k (.int 1)))) none))]), .ite (.isk true (.v 7) .non) [.ret (.v 7)] []],
  .ret (.k .non)]⟩
def d31 : FD := ⟨"least_weights", "least_weights", st 45, ["losses", "lows", "highs", "found", "k", "open_ones", "weight", "fixed"], ["losses", "lows", "highs"], f31⟩
def f32 : Fn := ⟨2, 1, true, [
  .asg (.g (.n 1)) (.pr .len false [(.ix (.v 0) (.k (.int 0)))]),
  .ret (.call 31 [(.call 27 [(.v 0)]), (.bin .mul false (.lst false [(.k (.int 0))]) (.v 1)), (.bin .mul false (.lst false [(.k (.int 9))]) (.v 1))])]⟩
def d32 : FD := ⟨"weights_of", "weights_of", st 46, ["book", "many"], ["book"], f32⟩
def f33 : Fn := ⟨1, 1, true, [
  .expr (.call 20 [(.v 0)]),
  .ret (.call 32 [(.v 0)])]⟩
def d33 : FD := ⟨"falling", "falling", st 47, ["book"], ["book"], f33⟩
def f34 : Fn := ⟨1, 1, false, [
  .ret (.lst true [(.ite (.cmp .ge (.v 0) (.bin .pow false (.k (.int 10)) (.k (.int 18)))) (.bin .sub false (.v 0) (.bin .pow false (.k (.int 10)) (.k (.int 18)))) (.k (.int 0))), (.bin .add false (.bin .mod false (.pr .int false [(.v 0)]) (.k (.int 1152921504606846883))) (.k (.int 11))), (.k (.int 0))])]⟩
def d34 : FD := ⟨"_law_source", "_law_source", st 49, ["cell"], ["cell"], f34⟩
def f35 : Fn := ⟨5, 2, true, [
  .ite (.and (.cmp .gt (.ix (.v 0) (.k (.int 0))) (.k (.int 0))) (.cmp .gt (.v 1) (.k (.int 1)))) [.asg (.g (.n 2)) (.bin .fdiv false (.ix (.v 0) (.k (.int 0))) (.v 1)), .asg (.g (.n 3)) (.bin .sub false (.ix (.v 0) (.k (.int 0))) (.bin .mul false (.v 2) (.v 1))), .asg (.sub (.v 0) (.k (.int 0))) (.v 2), .ret (.v 3)] [],
  .asg (.sub (.v 0) (.k (.int 2))) (.bin .add false (.ix (.v 0) (.k (.int 2))) (.k (.int 1))),
  .asg (.sub (.v 0) (.k (.int 1))) (.bin .mod false (.pr .int false [(.bin .add false (.bin .add false (.bin .mul false (.ix (.v 0) (.k (.int 1))) (.k (.int 48271))) (.bin .mul false (.ix (.v 0) (.k (.int 2))) (.k (.int 7919)))) (.k (.int 5)))]) (.k (.int 1152921504606846883))),
  .asg (.g (.n 4)) (.bin .fdiv false (.bin .mod false (.pr .int false [(.bin .add false (.bin .mul false (.ix (.v 0) (.k (.int 1))) (.ix (.v 0) (.k (.int 1)))) (.bin .mul false (.k (.int 104729)) (.ix (.v 0) (.k (.int 2)))))]) (.k (.int 2305843009213693921))) (.k (.int 8191))),
  .ret (.bin .mod false (.pr .int false [(.v 4)]) (.v 1))]⟩
def d35 : FD := ⟨"_law_draw", "_law_draw", st 50, ["source", "many", "rest", "found", "mixed"], ["source", "many"], f35⟩
def f36 : Fn := ⟨3, 2, true, [
  .ite (.or (.cmp .ne (.isi (.v 1) .tuple) (.isi (.v 0) .tuple)) (.cmp .ne (.isi (.v 1) .list) (.isi (.v 0) .list))) [.ret (.k (.bl false))] [],
  .ite (.isi2 (.v 1) .tuple .list) [.ret (.and (.cmp .eq (.pr .len false [(.v 0)]) (.pr .len false [(.v 1)])) (.cmp .eq (.comp false (.n 2) (.rng [(.pr .len false [(.v 1)])]) [2] (some (.not (.call 36 [(.ix (.v 0) (.v 2)), (.ix (.v 1) (.v 2))]))) (.v 2)) (.lst false [])))] [],
  .ret (.and (.cmp .eq (.v 0) (.v 1)) (.cmp .eq (.pr .repr false [(.v 0)]) (.pr .repr false [(.v 1)])))]⟩
def d36 : FD := ⟨"_law_same", "_law_same", st 51, ["found", "due", "k"], ["found", "due"], f36⟩
def f37 : Fn := ⟨3, 1, true, [
  .asg (.g (.n 1)) (.ix (.lst false [(.lst true [(.k (.str "f")), (.k (.str "g")), (.k (.str "hold"))]), (.lst true [(.k (.str "f")), (.k (.str "fa")), (.k (.str "fab"))]), (.lst true [(.k (.str "map")), (.k (.str "mul")), (.k (.str "ma"))]), (.lst true [(.k (.str "gx")), (.k (.str "gy")), (.k (.str "xg"))])]) (.call 35 [(.v 0), (.k (.int 4))])),
  .ret (.comp false (.n 2) (.rng [(.k (.int 3))]) [2] none (.mth .popAt false (.v 1) [(.call 35 [(.v 0), (.pr .len false [(.v 1)])])]))]⟩
def d37 : FD := ⟨"_law_words", "_law_words", st 52, ["source", "words", "turn"], ["source"], f37⟩
def f38 : Fn := ⟨8, 1, true, [
  .asg (.g (.tu [(.n 1), (.n 2), (.n 3)])) (.tup [(.ite (.cmp .gt (.call 35 [(.v 0), (.k (.int 3))]) (.k (.int 0))) (.bin .mul false (.lst false [(.k (.str "a"))]) (.k (.int 2))) (.lst false [(.k (.str "a")), (.k (.str "b"))])), (.lst true []), (.call 37 [(.v 0)])]),
  .for_ (.n 4) (.rng [(.bin .add false (.k (.int 2)) (.call 35 [(.v 0), (.k (.int 2))]))]) [.asg (.g (.n 7)) (.comp true (.n 5) (.rng [(.k (.int 2))]) [5] none (.pr .tuple false [(.comp false (.n 6) (.rng [(.call 35 [(.v 0), (.ix (.lst false [(.k (.int 2)), (.k (.int 3)), (.k (.int 3))]) (.call 35 [(.v 0), (.k (.int 3))]))])]) [6] none (.ix (.v 1) (.call 35 [(.v 0), (.k (.int 2))])))])), .asg (.sub (.v 7) (.k (.int 1))) (.ite (.cmp .ne (.bin .add false (.ix (.v 7) (.k (.int 0))) (.ix (.v 7) (.k (.int 1)))) (.tup [])) (.ix (.v 7) (.k (.int 1))) (.tup [(.k (.str "a"))])), .expr (.mth .append false (.v 2) [(.tup [(.ix (.v 3) (.v 4)), (.ix (.v 7) (.k (.int 0))), (.ix (.v 7) (.k (.int 1)))])])],
  .ret (.pr .tuple false [(.v 2)])]⟩
def d38 : FD := ⟨"_law_stock", "_law_stock", st 53, ["source", "kinds", "found", "words", "k", "side", "turn", "sides"], ["source"], f38⟩
def f39 : Fn := ⟨6, 4, true, [
  .asg (.g (.n 5)) (.comp false (.n 4) (.rng [(.pr .len false [(.v 1)])]) [4] (some (.cmp .eq (.ix (.v 1) (.v 4)) (.v 2))) (.v 4)),
  .ite (.or (.cmp .eq (.v 5) (.lst false [])) (.and (.cmp .lt (.pr .len false [(.v 1)]) (.k (.int 9))) (.cmp .lt (.call 35 [(.v 0), (.k (.int 5))]) (.v 3)))) [.expr (.mth .append false (.v 1) [(.v 2)]), .ret (.bin .sub false (.pr .len false [(.v 1)]) (.k (.int 1)))] [],
  .ret (.ix (.v 5) (.call 35 [(.v 0), (.pr .len false [(.v 5)])]))]⟩
def d39 : FD := ⟨"_law_wire", "_law_wire", st 54, ["source", "wires", "kind", "fresh", "k", "some"], ["source", "wires", "kind", "fresh"], f39⟩
def f40 : Fn := ⟨12, 4, true, [
  .asg (.g (.n 4)) (.lst true []),
  .for_ (.n 5) (.rng [(.v 3)]) [.asg (.g (.tu [(.n 6), (.n 7), (.n 8)])) (.ix (.v 1) (.call 35 [(.v 0), (.pr .len false [(.v 1)])])), .asg (.g (.n 11)) (.comp false (.n 9) (.e (.tup [(.v 7), (.v 8)])) [9] none (.pr .tuple false [(.comp false (.n 10) (.e (.v 9)) [10] none (.call 39 [(.v 0), (.v 2), (.v 10), (.k (.int 3))]))])), .expr (.mth .append false (.v 4) [(.tup [(.v 6), (.ix (.v 11) (.k (.int 0))), (.ix (.v 11) (.k (.int 1)))])])],
  .ret (.pr .tuple false [(.v 4)])]⟩
def d40 : FD := ⟨"_law_boxes", "_law_boxes", st 55, ["source", "stock", "wires", "many", "found", "turn", "word", "ins", "outs", "side", "kind", "rows"], ["source", "stock", "wires", "many"], f40⟩
def f41 : Fn := ⟨7, 3, true, [
  .asg (.g (.n 3)) (.lst true []),
  .asg (.g (.n 4)) (.call 40 [(.v 0), (.v 1), (.v 3), (.v 2)]),
  .asg (.g (.n 5)) (.lst false [(.lst true []), (.lst true [])]),
  .for_ (.n 6) (.rng [(.call 35 [(.v 0), (.k (.int 5))])]) [.expr (.mth .append false (.ix (.v 5) (.call 35 [(.v 0), (.k (.int 2))])) [(.call 39 [(.v 0), (.v 3), (.k (.str "a")), (.k (.int 1))])])],
  .ret (.tup [(.pr .tuple false [(.v 3)]), (.v 4), (.pr .tuple false [(.ix (.v 5) (.k (.int 0)))]), (.pr .tuple false [(.ix (.v 5) (.k (.int 1)))])])]⟩
def d41 : FD := ⟨"_law_web", "_law_web", st 56, ["source", "stock", "many", "wires", "boxes", "ends", "turn"], ["source", "stock", "many"], f41⟩
def f42 : Fn := ⟨8, 3, true, [
  .asg (.g (.n 3)) (.lst true []),
  .asg (.g (.n 4)) (.call 40 [(.v 0), (.v 1), (.v 3), (.v 2)]),
  .asg (.g (.tu [(.n 5), (.n 6)])) (.tup [(.pr (.rangeL 1) true [(.pr .len false [(.v 3)])]), (.lst false [(.lst true []), (.lst true [])])]),
  .while_ (.cmp .ne (.v 5) (.lst false [])) [.asg (.g (.n 7)) (.mth .popAt false (.v 5) [(.call 35 [(.v 0), (.pr .len false [(.v 5)])])]), .ite (.and (.cmp .gt (.call 35 [(.v 0), (.k (.int 3))]) (.k (.int 0))) (.cmp .lt (.bin .add false (.pr .len false [(.ix (.v 6) (.k (.int 0)))]) (.pr .len false [(.ix (.v 6) (.k (.int 1)))])) (.k (.int 5)))) [.expr (.mth .append false (.ix (.v 6) (.call 35 [(.v 0), (.k (.int 2))])) [(.v 7)])] []],
  .ret (.tup [(.pr .tuple false [(.v 3)]), (.v 4), (.pr .tuple false [(.ix (.v 6) (.k (.int 0)))]), (.pr .tuple false [(.ix (.v 6) (.k (.int 1)))])])]⟩
def d42 : FD := ⟨"_law_left", "_law_left", st 57, ["source", "stock", "many", "wires", "boxes", "order", "ends", "wire"], ["source", "stock", "many"], f42⟩
def f43 : Fn := ⟨5, 3, true, [
  .ret (.pr .sum false [(.comp false (.n 3) (.e (.ix (.v 2) (.k (.int 1)))) [3] none (.pr .sum false [(.comp false (.n 4) (.rng [(.pr .len false [(.v 0)])]) [4] (some (.cmp .eq (.ix (.ix (.v 0) (.v 4)) (.k (.int 0))) (.ix (.v 3) (.k (.int 0))))) (.ix (.v 1) (.v 4)))]))])]⟩
def d43 : FD := ⟨"_law_weight", "_law_weight", st 58, ["stock", "weights", "web", "box", "k"], ["stock", "weights", "web"], f43⟩
def f44 : Fn := ⟨11, 4, true, [
  .asg (.g (.tu [(.n 4), (.n 5)])) (.tup [(.call 42 [(.v 0), (.v 1), (.bin .add false (.k (.int 1)) (.call 35 [(.v 0), (.v 3)]))]), (.lst true [])]),
  .asg (.g (.n 8)) (.comp false (.n 6) (.e (.sl false (.v 4) (some (.k (.int 2))) none)) [6] none (.pr .tuple false [(.comp false (.n 7) (.e (.v 6)) [7] none (.call 39 [(.v 0), (.v 5), (.ix (.ix (.v 4) (.k (.int 0))) (.v 7)), (.k (.int 3))]))])),
  .asg (.g (.n 9)) (.call 40 [(.v 0), (.v 1), (.v 5), (.call 35 [(.v 0), (.bin .add false (.pr .len false [(.ix (.v 4) (.k (.int 1)))]) (.k (.int 3)))])]),
  .asg (.g (.n 10)) (.tup [(.pr .tuple false [(.v 5)]), (.v 9), (.ix (.v 8) (.k (.int 0))), (.ix (.v 8) (.k (.int 1)))]),
  .while_ (.cmp .ge (.call 43 [(.v 1), (.v 2), (.v 10)]) (.call 43 [(.v 1), (.v 2), (.v 4)])) [.asg (.g (.n 10)) (.tup [(.ix (.v 10) (.k (.int 0))), (.sl false (.ix (.v 10) (.k (.int 1))) (some (.k (.int 1))) none), (.ix (.v 10) (.k (.int 2))), (.ix (.v 10) (.k (.int 3)))])],
  .ret (.tup [(.v 4), (.v 10)])]⟩
def d44 : FD := ⟨"_law_rule", "_law_rule", st 59, ["source", "stock", "weights", "most", "left", "wires", "side", "one", "ends", "boxes", "right"], ["source", "stock", "weights", "most"], f44⟩
def f45 : Fn := ⟨3, 1, true, [
  .asg (.g (.n 2)) (.pr .tuple false [(.comp false (.n 1) (.rng [(.pr .len false [(.v 0)])]) [1] none (.tup [(.ix (.v 0) (.v 1)), (.tup [(.v 1)]), (.tup [(.bin .add false (.v 1) (.k (.int 1)))])]))]),
  .ret (.tup [(.bin .mul false (.tup [(.k (.str "a"))]) (.bin .add false (.pr .len false [(.v 0)]) (.k (.int 1)))), (.v 2), (.tup [(.k (.int 0))]), (.tup [(.pr .len false [(.v 0)])])])]⟩
def d45 : FD := ⟨"_law_chain", "_law_chain", st 60, ["words", "k", "boxes"], ["words"], f45⟩
def f46 : Fn := ⟨7, 4, true, [
  .asg (.g (.n 5)) (.comp false (.n 4) (.rng [(.bin .add false (.k (.int 1)) (.call 35 [(.v 0), (.v 3)]))]) [4] none (.ix (.ix (.v 1) (.call 35 [(.v 0), (.pr .len false [(.v 1)])])) (.k (.int 0)))),
  .asg (.g (.n 6)) (.comp false (.n 4) (.rng [(.call 35 [(.v 0), (.bin .add false (.pr .len false [(.v 5)]) (.k (.int 3)))])]) [4] none (.ix (.ix (.v 1) (.call 35 [(.v 0), (.pr .len false [(.v 1)])])) (.k (.int 0)))),
  .while_ (.cmp .ge (.call 43 [(.v 1), (.v 2), (.call 45 [(.v 6)])]) (.call 43 [(.v 1), (.v 2), (.call 45 [(.v 5)])])) [.asg (.g (.n 6)) (.sl false (.v 6) (some (.k (.int 1))) none)],
  .ret (.tup [(.call 45 [(.v 5)]), (.call 45 [(.v 6)])])]⟩
def d46 : FD := ⟨"_law_chain_rule", "_law_chain_rule", st 61, ["source", "stock", "weights", "most", "turn", "words", "others"], ["source", "stock", "weights", "most"], f46⟩
def f47 : Fn := ⟨10, 3, true, [
  .asg (.g (.tu [(.n 3), (.n 4)])) (.tup [(.call 38 [(.v 0)]), (.cmp .eq (.call 35 [(.v 0), (.k (.int 2))]) (.k (.int 0)))]),
  .ite (.v 4) [.asg (.g (.n 3)) (.pr .tuple false [(.comp false (.n 5) (.e (.sl false (.call 37 [(.v 0)]) none (some (.bin .add false (.k (.int 2)) (.call 35 [(.v 0), (.k (.int 2))]))))) [5] none (.tup [(.v 5), (.tup [(.k (.str "a"))]), (.tup [(.k (.str "a"))])]))])] [],
  .asg (.g (.tu [(.n 7), (.n 8)])) (.tup [(.pr .tuple false [(.comp false (.n 6) (.e (.v 3)) [6] none (.bin .add false (.k (.int 1)) (.call 35 [(.v 0), (.k (.int 3))])))]), (.lst true [])]),
  .for_ (.n 9) (.rng [(.bin .add false (.k (.int 1)) (.call 35 [(.v 0), (.v 1)]))]) [.ite (.v 4) [.expr (.mth .append false (.v 8) [(.call 46 [(.v 0), (.v 3), (.v 7), (.bin .add false (.v 2) (.k (.int 1)))])])] [.expr (.mth .append false (.v 8) [(.call 44 [(.v 0), (.v 3), (.v 7), (.v 2)])])]],
  .ret (.lst false [(.tup [(.v 3), (.pr .tuple false [(.v 8)])]), (.v 7)])]⟩
def d47 : FD := ⟨"_law_book", "_law_book", st 62, ["source", "rules", "most", "stock", "chains", "word", "entry", "weights", "found", "turn"], ["source", "rules", "most"], f47⟩
def f48 : Fn := ⟨7, 3, true, [
  .asg (.g (.tu [(.n 3), (.n 4)])) (.v 2),
  .asg (.g (.n 5)) (.pr .list true [(.ix (.v 4) (.k (.int 0)))]),
  .asg (.g (.n 6)) (.call 40 [(.v 0), (.v 1), (.v 5), (.call 35 [(.v 0), (.k (.int 5))])]),
  .ret (.tup [(.v 3), (.tup [(.pr .tuple false [(.v 5)]), (.bin .add false (.ix (.v 4) (.k (.int 1))) (.v 6)), (.ix (.v 4) (.k (.int 2))), (.ix (.v 4) (.k (.int 3)))])])]⟩
def d48 : FD := ⟨"_law_heavier", "_law_heavier", st 63, ["source", "stock", "rule", "left", "right", "wires", "more"], ["source", "stock", "rule"], f48⟩
def f49 : Fn := ⟨6, 1, true, [
  .asg (.g (.n 1)) (.lst false [(.tup [])]),
  .for_ (.n 2) (.rng [(.v 0)]) [.asg (.g (.n 3)) (.lst true []), .for_ (.n 4) (.e (.v 1)) [.expr (.mth .extend false (.v 3) [(.comp true (.n 5) (.rng [(.k (.int 10))]) [5] none (.bin .add false (.v 4) (.tup [(.v 5)])))])], .asg (.g (.n 1)) (.v 3)],
  .ret (.v 1)]⟩
def d49 : FD := ⟨"_law_all", "_law_all", st 64, ["many", "found", "turn", "more", "row", "weight"], ["many"], f49⟩
def f50 : Fn := ⟨4, 2, true, [
  .ret (.comp false (.n 2) (.e (.v 0)) [2] none (.bin .sub false (.pr .len false [(.comp false (.n 3) (.e (.ix (.ix (.v 1) (.k (.int 0))) (.k (.int 1)))) [3] (some (.cmp .eq (.ix (.v 3) (.k (.int 0))) (.ix (.v 2) (.k (.int 0))))) (.k (.int 1)))]) (.pr .len false [(.comp false (.n 3) (.e (.ix (.ix (.v 1) (.k (.int 1))) (.k (.int 1)))) [3] (some (.cmp .eq (.ix (.v 3) (.k (.int 0))) (.ix (.v 2) (.k (.int 0))))) (.k (.int 1)))])))]⟩
def d50 : FD := ⟨"_law_losses", "_law_losses", st 65, ["stock", "rule", "entry", "box"], ["stock", "rule"], f50⟩
def f51 : Fn := ⟨7, 1, true, [
  .asg (.g (.n 2)) (.comp false (.n 1) (.e (.ix (.v 0) (.k (.int 1)))) [1] none (.call 50 [(.ix (.v 0) (.k (.int 0))), (.v 1)])),
  .for_ (.n 3) (.e (.call 49 [(.pr .len false [(.ix (.v 0) (.k (.int 0)))])])) [.ite (.cmp .eq (.comp false (.n 4) (.e (.v 2)) [4] (some (.cmp .lt (.pr .sum false [(.comp false (.tu [(.n 5), (.n 6)]) (.zip (.v 4) (.v 3)) [5, 6] none (.bin .mul false (.v 5) (.v 6)))]) (.k (.int 1)))) (.v 4)) (.lst false [])) [.ret (.v 3)] []],
  .ret (.k .non)]⟩
def d51 : FD := ⟨"_law_least", "_law_least", st 66, ["book", "rule", "rows", "weights", "row", "loss", "weight"], ["book"], f51⟩
def f52 : Fn := ⟨7, 1, true, [
  .asg (.g (.n 1)) (.ix (.call 47 [(.v 0), (.k (.int 4)), (.k (.int 3))]) (.k (.int 0))),
  .asg (.g (.n 3)) (.pr .tuple false [(.comp false (.n 2) (.e (.ix (.v 1) (.k (.int 1)))) [2] none (.ite (.cmp .gt (.call 35 [(.v 0), (.k (.int 3))]) (.k (.int 0))) (.call 48 [(.v 0), (.ix (.v 1) (.k (.int 0))), (.v 2)]) (.v 2)))]),
  .asg (.g (.n 1)) (.tup [(.ix (.v 1) (.k (.int 0))), (.v 3)]),
  .asg (.g (.tu [(.n 4), (.n 5)])) (.tup [(.call 51 [(.v 1)]), (.pr .repr false [(.v 1)])]),
  .ite (.or (.not (.call 36 [(.lst false [(.call 33 [(.v 1)]), (.callk 33 [] [(.v 1)] [0])]), (.lst false [(.v 4), (.v 4)])])) (.cmp .ne (.pr .repr false [(.v 1)]) (.v 5))) [.ret (.k (.bl false))] [],
  .ite (.and (.isk true (.v 4) .non) (.isk true (.call 26 [(.v 1), (.v 4)]) (.bl true))) [.ret (.k (.bl false))] [],
  .asg (.g (.n 6)) (.ite (.cmp .gt (.pr .len false [(.v 3)]) (.k (.int 1))) (.call 33 [(.tup [(.ix (.v 1) (.k (.int 0))), (.sl false (.v 3) none (some (.neg (.k (.int 1)))))])]) (.v 4)),
  .ret (.or (.isk false (.v 4) .non) (.and (.isk true (.v 6) .non) (.cmp .le (.v 6) (.v 4))))]⟩
def d52 : FD := ⟨"_law_right", "_law_right", st 67, ["source", "book", "rule", "rules", "due", "copy", "less"], ["source"], f52⟩
def f53 : Fn := ⟨12, 1, true, [
  .asg (.g (.tu [(.n 2), (.n 3)])) (.tup [(.comp false (.n 1) (.rng [(.bin .add false (.k (.int 6)) (.call 35 [(.v 0), (.k (.int 7))]))]) [1] none (.bin .add false (.k (.str "w")) (.ix (.k (.str "abcdefghijkl")) (.v 1)))), (.lst true [])]),
  .asg (.g (.tu [(.n 5), (.n 6)])) (.tup [(.pr .tuple false [(.comp false (.n 4) (.e (.v 2)) [4] none (.tup [(.v 4), (.tup [(.k (.str "a"))]), (.tup [(.k (.str "a"))])]))]), (.pr (.rangeL 1) true [(.pr .len false [(.v 2)])])]),
  .for_ (.n 7) (.rng [(.bin .add false (.k (.int 2)) (.call 35 [(.v 0), (.pr .min2 false [(.k (.int 8)), (.bin .sub false (.pr .len false [(.v 2)]) (.k (.int 1)))])]))]) [.expr (.mth .append false (.v 3) [(.mth .popAt false (.v 6) [(.call 35 [(.v 0), (.pr .len false [(.v 6)])])])])],
  .asg (.g (.n 8)) (.comp true (.n 1) (.rng [(.bin .sub false (.pr .len false [(.v 3)]) (.k (.int 1)))]) [1] none (.tup [(.call 45 [(.lst false [(.ix (.v 2) (.ix (.v 3) (.v 1)))])]), (.call 45 [(.lst false [(.ix (.v 2) (.ix (.v 3) (.bin .add false (.v 1) (.k (.int 1)))))])])])),
  .asg (.g (.n 9)) (.pr .tuple false [(.comp false (.n 1) (.rng [(.pr .len false [(.v 2)])]) [1] none (.ite (.cmp .isin (.v 1) (.v 3)) (.bin .sub false (.bin .sub false (.pr .len false [(.v 3)]) (.k (.int 1))) (.mth .indexOf false (.v 3) [(.v 1)])) (.k (.int 0))))]),
  .asg (.g (.n 10)) (.lst true []),
  .while_ (.cmp .ne (.v 8) (.lst false [])) [.expr (.mth .append false (.v 10) [(.mth .popAt false (.v 8) [(.call 35 [(.v 0), (.pr .len false [(.v 8)])])])])],
  .ite (.or (.not (.call 36 [(.call 33 [(.tup [(.v 5), (.pr .tuple false [(.v 10)])])]), (.v 9)])) (.isk true (.call 26 [(.tup [(.v 5), (.pr .tuple false [(.v 10)])]), (.v 9)]) (.bl true))) [.ret (.k (.bl false))] [],
  .asg (.g (.n 11)) (.tup [(.call 45 [(.lst false [(.ix (.v 2) (.ix (.v 3) (.bin .sub false (.pr .len false [(.v 3)]) (.k (.int 1)))))])]), (.call 45 [(.lst false [(.ix (.v 2) (.ix (.v 3) (.k (.int 0))))])])]),
  .ret (.or (.cmp .eq (.pr .len false [(.v 10)]) (.k (.int 8))) (.isk false (.call 33 [(.tup [(.v 5), (.bin .add false (.pr .tuple false [(.v 10)]) (.tup [(.v 11)]))])]) .non))]⟩
def d53 : FD := ⟨"_law_many_right", "_law_many_right", st 68, ["source", "k", "words", "order", "word", "stock", "left", "turn", "rules", "due", "rows", "back"], ["source"], f53⟩
def f54 : Fn := ⟨4, 1, true, [
  .for_ (.n 1) (.e (.bin .add false (.lst false [(.pr .len false [(.v 0)])]) (.sl false (.v 0) none (some (.k (.int 5)))))) [.asg (.g (.n 2)) (.call 34 [(.v 1)]), .for_ (.n 3) (.rng [(.k (.int 2))]) [.ite (.or (.not (.call 52 [(.v 2)])) (.not (.call 53 [(.v 2)]))) [.ret (.k (.bl false))] []]],
  .ret (.k (.bl true))]⟩
def d54 : FD := ⟨"law", "law", st 69, ["script", "cell", "source", "turn"], ["script"], f54⟩
def L : List FD := [d0, d1, d2, d3, d4, d5, d6, d7, d8, d9, d10, d11, d12, d13, d14, d15, d16, d17, d18, d19, d20, d21, d22, d23, d24, d25, d26, d27, d28, d29, d30, d31, d32, d33, d34, d35, d36, d37, d38, d39, d40, d41, d42, d43, d44, d45, d46, d47, d48, d49, d50, d51, d52, d53, d54]
def KS : List KSh := [⟨33, 0, ["book"], [0]⟩]
def GL : List (Str × D) := [("LETTERS", (.str "abcdefghijklmnopqrstuvwxyz")), ("MOST_LETTERS", (.int 8)), ("MOST_PLACES", (.int 4)), ("MOST_RULES", (.int 8)), ("MOST_SORTS", (.int 12)), ("MOST_WEIGHT", (.int 9))]
theorem b0 : Bnd d0 := fun _ _ _ _ _ _ us hl => match us, hl with | [_], _ => rfl
theorem b1 : Bnd d1 := fun _ _ _ _ _ _ us hl => match us, hl with | [_, _, _], _ => rfl
theorem b2 : Bnd d2 := fun _ _ _ _ _ _ us hl => match us, hl with | [_, _], _ => rfl
theorem b3 : Bnd d3 := fun _ _ _ _ _ _ us hl => match us, hl with | [_], _ => rfl
theorem b4 : Bnd d4 := fun _ _ _ _ _ _ us hl => match us, hl with | [_], _ => rfl
theorem b5 : Bnd d5 := fun _ _ _ _ _ _ us hl => match us, hl with | [_], _ => rfl
theorem b6 : Bnd d6 := fun _ _ _ _ _ _ us hl => match us, hl with | [_], _ => rfl
theorem b7 : Bnd d7 := fun _ _ _ _ _ _ us hl => match us, hl with | [_, _], _ => rfl
theorem b8 : Bnd d8 := fun _ _ _ _ _ _ us hl => match us, hl with | [_, _], _ => rfl
theorem b9 : Bnd d9 := fun _ _ _ _ _ _ us hl => match us, hl with | [_, _], _ => rfl
theorem b10 : Bnd d10 := fun _ _ _ _ _ _ us hl => match us, hl with | [_, _, _], _ => rfl
theorem b11 : Bnd d11 := fun _ _ _ _ _ _ us hl => match us, hl with | [_], _ => rfl
theorem b12 : Bnd d12 := fun _ _ _ _ _ _ us hl => match us, hl with | [_, _, _], _ => rfl
theorem b13 : Bnd d13 := fun _ _ _ _ _ _ us hl => match us, hl with | [_, _], _ => rfl
theorem b14 : Bnd d14 := fun _ _ _ _ _ _ us hl => match us, hl with | [_], _ => rfl
theorem b15 : Bnd d15 := fun _ _ _ _ _ _ us hl => match us, hl with | [_], _ => rfl
theorem b16 : Bnd d16 := fun _ _ _ _ _ _ us hl => match us, hl with | [_], _ => rfl
theorem b17 : Bnd d17 := fun _ _ _ _ _ _ us hl => match us, hl with | [_, _], _ => rfl
theorem b18 : Bnd d18 := fun _ _ _ _ _ _ us hl => match us, hl with | [_, _], _ => rfl
theorem b19 : Bnd d19 := fun _ _ _ _ _ _ us hl => match us, hl with | [_], _ => rfl
theorem b20 : Bnd d20 := fun _ _ _ _ _ _ us hl => match us, hl with | [_], _ => rfl
theorem b21 : Bnd d21 := fun _ _ _ _ _ _ us hl => match us, hl with | [_], _ => rfl
theorem b22 : Bnd d22 := fun _ _ _ _ _ _ us hl => match us, hl with | [_, _], _ => rfl
theorem b23 : Bnd d23 := fun _ _ _ _ _ _ us hl => match us, hl with | [_, _], _ => rfl
theorem b24 : Bnd d24 := fun _ _ _ _ _ _ us hl => match us, hl with | [_, _, _], _ => rfl
theorem b25 : Bnd d25 := fun _ _ _ _ _ _ us hl => match us, hl with | [_, _, _], _ => rfl
theorem b26 : Bnd d26 := fun _ _ _ _ _ _ us hl => match us, hl with | [_, _], _ => rfl
theorem b27 : Bnd d27 := fun _ _ _ _ _ _ us hl => match us, hl with | [_], _ => rfl
theorem b28 : Bnd d28 := fun _ _ _ _ _ _ us hl => match us, hl with | [_, _, _], _ => rfl
theorem b29 : Bnd d29 := fun _ _ _ _ _ _ us hl => match us, hl with | [_, _, _], _ => rfl
theorem b30 : Bnd d30 := fun _ _ _ _ _ _ us hl => match us, hl with | [_, _, _], _ => rfl
theorem b31 : Bnd d31 := fun _ _ _ _ _ _ us hl => match us, hl with | [_, _, _], _ => rfl
theorem b32 : Bnd d32 := fun _ _ _ _ _ _ us hl => match us, hl with | [_], _ => rfl
theorem b33 : Bnd d33 := fun _ _ _ _ _ _ us hl => match us, hl with | [_], _ => rfl
theorem b34 : Bnd d34 := fun _ _ _ _ _ _ us hl => match us, hl with | [_], _ => rfl
theorem b35 : Bnd d35 := fun _ _ _ _ _ _ us hl => match us, hl with | [_, _], _ => rfl
theorem b36 : Bnd d36 := fun _ _ _ _ _ _ us hl => match us, hl with | [_, _], _ => rfl
theorem b37 : Bnd d37 := fun _ _ _ _ _ _ us hl => match us, hl with | [_], _ => rfl
theorem b38 : Bnd d38 := fun _ _ _ _ _ _ us hl => match us, hl with | [_], _ => rfl
theorem b39 : Bnd d39 := fun _ _ _ _ _ _ us hl => match us, hl with | [_, _, _, _], _ => rfl
theorem b40 : Bnd d40 := fun _ _ _ _ _ _ us hl => match us, hl with | [_, _, _, _], _ => rfl
theorem b41 : Bnd d41 := fun _ _ _ _ _ _ us hl => match us, hl with | [_, _, _], _ => rfl
theorem b42 : Bnd d42 := fun _ _ _ _ _ _ us hl => match us, hl with | [_, _, _], _ => rfl
theorem b43 : Bnd d43 := fun _ _ _ _ _ _ us hl => match us, hl with | [_, _, _], _ => rfl
theorem b44 : Bnd d44 := fun _ _ _ _ _ _ us hl => match us, hl with | [_, _, _, _], _ => rfl
theorem b45 : Bnd d45 := fun _ _ _ _ _ _ us hl => match us, hl with | [_], _ => rfl
theorem b46 : Bnd d46 := fun _ _ _ _ _ _ us hl => match us, hl with | [_, _, _, _], _ => rfl
theorem b47 : Bnd d47 := fun _ _ _ _ _ _ us hl => match us, hl with | [_, _, _], _ => rfl
theorem b48 : Bnd d48 := fun _ _ _ _ _ _ us hl => match us, hl with | [_, _, _], _ => rfl
theorem b49 : Bnd d49 := fun _ _ _ _ _ _ us hl => match us, hl with | [_], _ => rfl
theorem b50 : Bnd d50 := fun _ _ _ _ _ _ us hl => match us, hl with | [_, _], _ => rfl
theorem b51 : Bnd d51 := fun _ _ _ _ _ _ us hl => match us, hl with | [_], _ => rfl
theorem b52 : Bnd d52 := fun _ _ _ _ _ _ us hl => match us, hl with | [_], _ => rfl
theorem b53 : Bnd d53 := fun _ _ _ _ _ _ us hl => match us, hl with | [_], _ => rfl
theorem b54 : Bnd d54 := fun _ _ _ _ _ _ us hl => match us, hl with | [_], _ => rfl
theorem bAll : ∀ d ∈ L, Bnd d := by
  intro d hd
  simp only [L, List.mem_cons, List.not_mem_nil, or_false] at hd
  rcases hd with rfl | rfl | rfl | rfl | rfl | rfl | rfl | rfl | rfl | rfl | rfl | rfl | rfl | rfl | rfl | rfl | rfl | rfl | rfl | rfl | rfl | rfl | rfl | rfl | rfl | rfl | rfl | rfl | rfl | rfl | rfl | rfl | rfl | rfl | rfl | rfl | rfl | rfl | rfl | rfl | rfl | rfl | rfl | rfl | rfl | rfl | rfl | rfl | rfl | rfl | rfl | rfl | rfl | rfl | rfl
  · exact b0
  · exact b1
  · exact b2
  · exact b3
  · exact b4
  · exact b5
  · exact b6
  · exact b7
  · exact b8
  · exact b9
  · exact b10
  · exact b11
  · exact b12
  · exact b13
  · exact b14
  · exact b15
  · exact b16
  · exact b17
  · exact b18
  · exact b19
  · exact b20
  · exact b21
  · exact b22
  · exact b23
  · exact b24
  · exact b25
  · exact b26
  · exact b27
  · exact b28
  · exact b29
  · exact b30
  · exact b31
  · exact b32
  · exact b33
  · exact b34
  · exact b35
  · exact b36
  · exact b37
  · exact b38
  · exact b39
  · exact b40
  · exact b41
  · exact b42
  · exact b43
  · exact b44
  · exact b45
  · exact b46
  · exact b47
  · exact b48
  · exact b49
  · exact b50
  · exact b51
  · exact b52
  · exact b53
  · exact b54
theorem kAll : ∀ q ∈ KS, ∀ d, L[q.f]? = some d → BndK d q := by
  intro q hq d hd
  simp only [KS, List.mem_cons, List.not_mem_nil, or_false] at hq
  rcases hq with rfl
  · cases (show some d33 = some d from hd); exact fun _ _ _ _ _ _ us ws h1 h2 => match us, ws, h1, h2 with | [], [_], _, _ => rfl
theorem c0 : fdB 40 L KS GL d0 = true := by decide +kernel
theorem c1 : fdB 40 L KS GL d1 = true := by decide +kernel
theorem c2 : fdB 40 L KS GL d2 = true := by decide +kernel
theorem c3 : fdB 40 L KS GL d3 = true := by decide +kernel
theorem c4 : fdB 40 L KS GL d4 = true := by decide +kernel
theorem c5 : fdB 40 L KS GL d5 = true := by decide +kernel
theorem c6 : fdB 40 L KS GL d6 = true := by decide +kernel
theorem c7 : fdB 40 L KS GL d7 = true := by decide +kernel
theorem c8 : fdB 40 L KS GL d8 = true := by decide +kernel
theorem c9 : fdB 40 L KS GL d9 = true := by decide +kernel
theorem c10 : fdB 40 L KS GL d10 = true := by decide +kernel
theorem c11 : fdB 40 L KS GL d11 = true := by decide +kernel
theorem c12 : fdB 40 L KS GL d12 = true := by decide +kernel
theorem c13 : fdB 40 L KS GL d13 = true := by decide +kernel
theorem c14 : fdB 40 L KS GL d14 = true := by decide +kernel
theorem c15 : fdB 40 L KS GL d15 = true := by decide +kernel
theorem c16 : fdB 40 L KS GL d16 = true := by decide +kernel
theorem c17 : fdB 40 L KS GL d17 = true := by decide +kernel
theorem c18 : fdB 40 L KS GL d18 = true := by decide +kernel
theorem c19 : fdB 40 L KS GL d19 = true := by decide +kernel
theorem c20 : fdB 40 L KS GL d20 = true := by decide +kernel
theorem c21 : fdB 40 L KS GL d21 = true := by decide +kernel
theorem c22 : fdB 40 L KS GL d22 = true := by decide +kernel
theorem c23 : fdB 40 L KS GL d23 = true := by decide +kernel
theorem c24 : fdB 40 L KS GL d24 = true := by decide +kernel
theorem c25 : fdB 40 L KS GL d25 = true := by decide +kernel
theorem c26 : fdB 40 L KS GL d26 = true := by decide +kernel
theorem c27 : fdB 40 L KS GL d27 = true := by decide +kernel
theorem c28 : fdB 40 L KS GL d28 = true := by decide +kernel
theorem c29 : fdB 40 L KS GL d29 = true := by decide +kernel
theorem c30 : fdB 40 L KS GL d30 = true := by decide +kernel
theorem c31 : fdB 40 L KS GL d31 = true := by decide +kernel
theorem c32 : fdB 40 L KS GL d32 = true := by decide +kernel
theorem c33 : fdB 40 L KS GL d33 = true := by decide +kernel
theorem c34 : fdB 40 L KS GL d34 = true := by decide +kernel
theorem c35 : fdB 40 L KS GL d35 = true := by decide +kernel
theorem c36 : fdB 40 L KS GL d36 = true := by decide +kernel
theorem c37 : fdB 40 L KS GL d37 = true := by decide +kernel
theorem c38 : fdB 40 L KS GL d38 = true := by decide +kernel
theorem c39 : fdB 40 L KS GL d39 = true := by decide +kernel
theorem c40 : fdB 40 L KS GL d40 = true := by decide +kernel
theorem c41 : fdB 40 L KS GL d41 = true := by decide +kernel
theorem c42 : fdB 40 L KS GL d42 = true := by decide +kernel
theorem c43 : fdB 40 L KS GL d43 = true := by decide +kernel
theorem c44 : fdB 40 L KS GL d44 = true := by decide +kernel
theorem c45 : fdB 40 L KS GL d45 = true := by decide +kernel
theorem c46 : fdB 40 L KS GL d46 = true := by decide +kernel
theorem c47 : fdB 40 L KS GL d47 = true := by decide +kernel
theorem c48 : fdB 40 L KS GL d48 = true := by decide +kernel
theorem c49 : fdB 40 L KS GL d49 = true := by decide +kernel
theorem c50 : fdB 40 L KS GL d50 = true := by decide +kernel
theorem c51 : fdB 40 L KS GL d51 = true := by decide +kernel
theorem c52 : fdB 40 L KS GL d52 = true := by decide +kernel
theorem c53 : fdB 40 L KS GL d53 = true := by decide +kernel
theorem c54 : fdB 40 L KS GL d54 = true := by decide +kernel
end Pw.Lw

set_option Elab.async false
set_option linter.all false
set_option maxRecDepth 100000
set_option maxHeartbeats 1000000
namespace Pw.Lw
open PySem PySem.Spec PyProof.Rows L2 Pw
/-! # books that are right: the program's first page -/
abbrev Fs := fsOf L
abbrev Gn : Nat → Option D := fun _ => none
noncomputable abbrev cl (n f : Nat) (ds : List D) (S : Sto) : R D := callN Fs Gn n f ds S
abbrev nD (k : Nat) : D := .int (k : Int)
def sT (l : List Str) : D := .tup (l.map .str)
def nT (l : List Nat) : D := .tup (l.map nD)
structure So where
  w : Str
  i : List Str
  o : List Str
structure Bx where
  w : Str
  i : List Nat
  o : List Nat
structure Wb where
  ks : List Str
  bs : List Bx
  l : List Nat
  r : List Nat
structure Ru where
  a : Wb
  b : Wb
def encSo (s : So) : D := .tup [.str s.w, sT s.i, sT s.o]
def encB (s : Bx) : D := .tup [.str s.w, nT s.i, nT s.o]
def encW (w : Wb) : D := .tup [sT w.ks, .tup (w.bs.map encB), nT w.l, nT w.r]
def encR (r : Ru) : D := .tup [encW r.a, encW r.b]
def encSt (st : List So) : D := .tup (st.map encSo)
def encBk (st : List So) (rs : List Ru) : D := .tup [encSt st, .tup (rs.map encR)]
def abc : Str := "abcdefghijklmnopqrstuvwxyz"
def wordB (w : Str) : Bool := decide (1 ≤ w.length) && (decide (w.length ≤ 8) && w.cps.toList.all fun c => !(Builtin.Str.occurrences abc ⟨#[c]⟩ 0 abc.length 1).isEmpty)
def kindsB (l : List Str) : Bool := decide (l.length ≤ 4) && l.all wordB
section
variable {n : Nat} {S : Sto}
theorem eqn {r : R D} {d : D} {S : Sto} (h : Wp r (fun d' S' => d' = d ∧ S' = S) NoX) : r = .ok d S := by
  obtain ⟨a, S', h1, h2, h3⟩ := Wp.ex h
  rw [h1, h2, h3]
theorem bools_bl {α : Type} (p : α → Bool) : ∀ xs : List α, bools? (xs.map fun x => D.bl (p x)) = some (xs.map p)
  | [] => rfl
  | x :: xs => by
    show (bools? (xs.map fun x => D.bl (p x))).map (p x :: ·) = _
    rw [bools_bl p xs]; rfl
theorem prim_all {bx : Bool} {α : Type} (p : α → Bool) (xs : List α) : prim .all bx [.lst (xs.map fun x => D.bl (p x))] S = .ok (.bl (xs.all p)) S := by
  show R.o ((some (xs.map fun x => D.bl (p x))).bind bools?) (fun bs => .ok (.bl (bs.all id)) S) = _
  show R.o (bools? (xs.map fun x => D.bl (p x))) _ = _
  rw [bools_bl]
  simp only [R.o_some, List.all_map]
  rfl
theorem small {n : Nat} (h : n ≤ 100000) : n ≤ sizeLine := by rw [sizeLine_eq]; omega
theorem s_int (i : Int) : cl (n + 1) 0 [.int i] S = .ok (.bl true) S := by
  show callN Fs Gn (n + 1) 0 _ S = _
  rw [call_eq (F := f0) rfl rfl]
  simp [f0, dVar, tyIs, dAnd, truth]
theorem s_btw (a b i : Int) : cl (n + 2) 1 [.int a, .int i, .int b] S = .ok (.bl (decide (a ≤ i) && decide (i ≤ b))) S := by
  show callN Fs Gn (n + 2) 1 _ S = _
  rw [call_eq (F := f1) rfl rfl]
  have e := s_int (n := n) (S := S) i
  simp only [cl] at e
  simp [f1, dVar, e]
  by_cases h : a ≤ i <;> simp [dAnd, truth, dCmp2, cmpop, h]
theorem s_tupof (k : Int) (xs : List D) : cl (n + 1) 2 [.int k, .tup xs] S = .ok (.bl (decide ((xs.length : Int) = k))) S := by
  show callN Fs Gn (n + 1) 2 _ S = _
  rw [call_eq (F := f2) rfl rfl]
  simp [f2, dVar, tyIs, dAnd, truth, lTup, c_eqi]
theorem s_word (w : Str) (hw : w.length ≤ 1000) : cl (n + 1) 3 [.str w] S = .ok (.bl (wordB w)) S := by
  have hb : strBig w = true := decide_eq_true (small (by omega))
  refine eqn (Wp_call (F := f3) rfl rfl ?_)
  unfold f3
  rw [WpS_cons]
  have hl : prim .len false [.str w] S = .ok (.int w.length) S := by
    show pLen S (.str w) = _
    unfold pLen
    simp [hb]
  simp [-ss_cons, dVar, tyIs, dAnd, truth, hl, dCmp2, c_le, wordB]
  by_cases h1 : (1 : Int) ≤ w.length
  · by_cases h2 : (w.length : Int) ≤ 8
    · have h1' : 1 ≤ w.length := by omega
      have h2' : w.length ≤ 8 := by omega
      simp [h1, h2, h1', h2', dAnd, truth]
      refine Wp.of_eq (comp_map (enc := fun c => D.str ⟨#[c]⟩) (g := fun c => D.bl (!(Builtin.Str.occurrences abc ⟨#[c]⟩ 0 abc.length 1).isEmpty)) (stays_nil _) w.cps.toList [] (small (by show 0 + w.length ≤ _; omega)) fun c hc => ⟨_, rfl, rfl, by simp [dVar, cmpop, abc]⟩) ?_
      rw [List.nil_append]
      refine ⟨small (by rw [List.length_map]; show w.length ≤ _; omega), ?_⟩
      rw [prim_all]
      simp
    · have h1' : 1 ≤ w.length := by omega
      have h2' : ¬ w.length ≤ 8 := by omega
      simp [h1, h2, h1', h2', dAnd, truth]
  · have h1' : ¬ 1 ≤ w.length := by omega
    have h1'' : w.length = 0 := by omega
    simp [h1, h1', h1'', dAnd, truth]
end
end Pw.Lw

set_option Elab.async false
set_option linter.all false
set_option maxRecDepth 100000
set_option maxHeartbeats 1000000
namespace Pw.Lw
open PySem PySem.Spec PyProof.Rows L2 Pw
section
variable {n : Nat} {S : Sto}
/-- words of a size that can be read -/
def Sz (l : List Str) : Prop := ∀ w ∈ l, w.length ≤ 1000
theorem s_kinds (l : List Str) (hl : l.length ≤ 1000) (hz : Sz l) : cl (n + 2) 4 [sT l] S = .ok (.bl (kindsB l)) S := by
  refine eqn (Wp_call (F := f4) rfl rfl ?_)
  unfold f4
  rw [WpS_cons]
  simp [-ss_cons, dVar, sT, tyIs, dAnd, truth, lTup, c_le, kindsB]
  by_cases h1 : (l.length : Int) ≤ 4
  · have h1' : l.length ≤ 4 := by omega
    simp [h1, h1']
    refine Wp.of_eq (comp_map (enc := D.str) (g := fun w => D.bl (wordB w)) (stays_nil _) l [] (small (by simp; omega)) fun c hc => ⟨_, rfl, rfl, by have e := s_word (n := n) (S := S) c (hz c hc); simp only [cl] at e; simp [dVar, e]⟩) ?_
    rw [List.nil_append]
    refine ⟨small (by rw [List.length_map]; omega), ?_⟩
    rw [prim_all]
    simp
  · have h1' : ¬ l.length ≤ 4 := by omega
    simp [h1, h1']
def soB (s : So) : Bool := wordB s.w && (kindsB s.i && kindsB s.o)
def So.Sz (s : So) : Prop := s.w.length ≤ 1000 ∧ s.i.length ≤ 1000 ∧ s.o.length ≤ 1000 ∧ Lw.Sz s.i ∧ Lw.Sz s.o
theorem prim_lenSet {bx : Bool} (ws : List Str) (h : ws.length ≤ 1000) : prim .lenSet bx [.lst (ws.map .str)] S = .ok (.int ws.eraseDups.length) S := by
  show pLenSet S (.lst (ws.map .str)) = _
  unfold pLenSet
  simp only [seq_lst, Option.bind_some, strs_map]
  rw [if_pos h]
theorem eraseDups_nodup {α : Type} [BEq α] [LawfulBEq α] : ∀ {l : List α}, l.Nodup → l.eraseDups = l
  | [], _ => by simp
  | x :: l, h => by
    rw [List.nodup_cons] at h
    rw [List.eraseDups_cons]
    have e : l.filter (fun b => !b == x) = l := List.filter_eq_self.mpr fun y hy => by
      have : y ≠ x := fun z => h.1 (z ▸ hy)
      simp [this]
    rw [e, eraseDups_nodup h.2]
theorem s_stock (st : List So) (h1 : 1 ≤ st.length) (h2 : st.length ≤ 12) (hz : ∀ s ∈ st, s.Sz) (hb : ∀ s ∈ st, soB s = true) (hn : (st.map (·.w)).Nodup) : cl (n + 3) 5 [encSt st] S = .ok (.bl true) S := by
  refine eqn (Wp_call (F := f5) rfl rfl ?_)
  unfold f5
  rw [WpS_cons]
  have a1 : (1 : Int) ≤ st.length := by omega
  have a2 : (st.length : Int) ≤ 12 := by omega
  simp [-ss_cons, dVar, encSt, tyIs, truth, lTup, dCmp2, c_le, a1, a2]
  rw [WpS_cons]
  simp [-ss_cons, dVar]
  refine WpS_for (fun i e S' => S' = S ∧ ∃ x y z w, e = [some (encSt st), x, y, z, w]) st 0 _ _ ⟨rfl, none, none, none, none, rfl⟩ ?_ ?_
  · rintro j e S' hj ⟨rfl, x, y, z, w, rfl⟩
    refine ⟨stays_nil _, _, rfl, ?_⟩
    have hm := List.getElem_mem hj
    generalize st[j] = s at hm
    have hsz := hz s hm
    have hsb := hb s hm
    simp only [soB, Bool.and_eq_true] at hsb
    have e1 := s_tupof (n := n + 1) (S := S') 3 [.str s.w, sT s.i, sT s.o]
    have e2 := s_word (n := n + 1) (S := S') s.w hsz.1
    have e3 := s_kinds (n := n) (S := S') s.i hsz.2.1 hsz.2.2.2.1
    have e4 := s_kinds (n := n) (S := S') s.o hsz.2.2.1 hsz.2.2.2.2
    simp only [cl] at e1 e2 e3 e4
    have i0 : Pw.index S' (encSo s) (.int 0) = some (.str s.w) := rfl
    have i1 : Pw.index S' (encSo s) (.int 1) = some (sT s.i) := rfl
    have i2 : Pw.index S' (encSo s) (.int 2) = some (sT s.o) := rfl
    have e1' : callN Fs Gn (n + 2) 2 [.int 3, encSo s] S' = _ := e1
    rw [WpS_cons]
    simp [-ss_cons, dVar, e1', i0, i1, i2, e2, e3, e4, truth, hsb]
  · rintro e S' ⟨rfl, x, y, z, w, rfl⟩
    refine ⟨stays_nil _, ?_⟩
    rw [WpS_cons]
    simp [-ss_cons, dVar, encSt]
    refine Wp.of_eq (comp_map (enc := encSo) (g := fun s => D.str s.w) (stays_nil _) st [] (small (by simp; omega)) fun c hc => ⟨[some (encSt st), x, some (.str c.w), some (sT c.i), some (sT c.o)], rfl, rfl, rfl⟩) ?_
    rw [List.nil_append]
    refine ⟨small (by rw [List.length_map]; omega), ?_⟩
    have e := prim_lenSet (S := S') (bx := false) (st.map (·.w)) (by rw [List.length_map]; omega)
    rw [List.map_map] at e
    have e' : prim .lenSet false [.lst (st.map fun s => D.str s.w)] S' = _ := e
    rw [e', eraseDups_nodup hn]
    simp [lTup, c_eqi]
def dPairs (st : List So) : D := .dct (st.map fun s => .str s.w) (st.map fun s => .tup [sT s.i, sT s.o])
end
end Pw.Lw

set_option Elab.async false
set_option linter.all false
set_option maxRecDepth 100000
set_option maxHeartbeats 1000000
namespace Pw.Lw
open PySem PySem.Spec PyProof.Rows L2 Pw
def atK (ks : List Str) (k : Nat) : Str := ks.getD k ⟨#[]⟩
def kindsAt (ks : List Str) (is : List Nat) : List Str := is.map (atK ks)
def In (ks : List Str) (is : List Nat) : Prop := ∀ i ∈ is, i < ks.length
section
variable {n : Nat} {S : Sto}
theorem s_sorts (st : List So) (h2 : st.length ≤ 100) (hn : (st.map (·.w)).Nodup) : cl (n + 1) 6 [encSt st] S = .ok (dPairs st) S := by
  refine eqn (Wp_call (F := f6) rfl rfl ?_)
  unfold f6
  rw [WpS_cons]
  simp [-ss_cons, dVar, encSt]
  refine Wp.of_eq (dcomp_map (enc := encSo) (g := fun s => s.w) (v := fun s => .tup [sT s.i, sT s.o]) (stays_nil _) st [] hn (small (by simp; omega)) fun c hc => ⟨[some (encSt st), some (.str c.w), some (sT c.i), some (sT c.o)], rfl, rfl, rfl⟩) ?_
  simp [dPairs]
theorem s_arewires (ks : List Str) (is : List Nat) (hl : is.length ≤ 1000) (h : In ks is) : cl (n + 3) 7 [sT ks, nT is] S = .ok (.bl true) S := by
  refine eqn (Wp_call (F := f7) rfl rfl ?_)
  unfold f7
  rw [WpS_cons]
  simp [-ss_cons, dVar, sT, nT, tyIs, dAnd, truth]
  refine Wp.of_eq (comp_map (enc := nD) (g := fun _ => D.bl true) (stays_nil _) is [] (small (by simp; omega)) fun c hc => ⟨[some (sT ks), some (nT is), some (nD c)], rfl, rfl, ?_⟩) ?_
  · have e := s_btw (n := n) (S := S) 0 (ks.length - 1) (c : Int)
    have hc := h c hc
    rw [show (decide ((0 : Int) ≤ c) && decide ((c : Int) ≤ ks.length - 1)) = true by simp; omega] at e
    simp only [cl] at e
    simp [dVar, sT, lTup, b_sub, nD, e]
  rw [List.nil_append]
  refine ⟨small (by rw [List.length_map]; omega), ?_⟩
  rw [prim_all]
  simp
theorem s_kindsat (ks : List Str) (is : List Nat) (hl : is.length ≤ 1000) (h : In ks is) : cl (n + 1) 8 [sT ks, nT is] S = .ok (sT (kindsAt ks is)) S := by
  refine eqn (Wp_call (F := f8) rfl rfl ?_)
  unfold f8
  rw [WpS_cons]
  simp [-ss_cons, dVar, nT]
  refine Wp.of_eq (comp_map (enc := nD) (g := fun k => D.str (atK ks k)) (stays_nil _) is [] (small (by simp; omega)) fun c hc => ⟨[some (sT ks), some (nT is), some (nD c)], rfl, rfl, ?_⟩) ?_
  · have e := Sq.ixd (S := S) (Y := sT ks) (enc := D.str) ⟨#[]⟩ (Sq.tup _) (h c hc)
    simp [dVar, nD, e, atK]
  rw [List.nil_append]
  refine ⟨small (by rw [List.length_map]; omega), ?_⟩
  simp [tLst, sT, kindsAt]
structure BxOk (st : List So) (ks : List Str) (b : Bx) : Prop where
  i4 : b.i.length ≤ 4
  o4 : b.o.length ≤ 4
  ii : In ks b.i
  io : In ks b.o
  so : ∃ s ∈ st, s.w = b.w ∧ s.i = kindsAt ks b.i ∧ s.o = kindsAt ks b.o
theorem s_form (ks : List Str) (b : Bx) (hi : b.i.length ≤ 4) (ho : b.o.length ≤ 4) (ii : In ks b.i) (io : In ks b.o) (hw : wordB b.w = true) : cl (n + 4) 9 [sT ks, encB b] S = .ok (.bl true) S := by
  have hw8 : b.w.length ≤ 8 := by
    unfold wordB at hw
    simp only [Bool.and_eq_true, decide_eq_true_eq] at hw
    exact hw.2.1
  have e1 := s_tupof (n := n + 2) (S := S) 3 [.str b.w, nT b.i, nT b.o]
  have e2 := s_word (n := n + 2) (S := S) b.w (by omega)
  have e3 := s_arewires (n := n) (S := S) ks b.i (by omega) ii
  have e4 := s_arewires (n := n) (S := S) ks b.o (by omega) io
  simp only [cl] at e1 e2 e3 e4
  have i0 : Pw.index S (encB b) (.int 0) = some (.str b.w) := rfl
  have i1 : Pw.index S (encB b) (.int 1) = some (nT b.i) := rfl
  have i2 : Pw.index S (encB b) (.int 2) = some (nT b.o) := rfl
  have e1' : callN Fs Gn (n + 3) 2 [.int 3, encB b] S = _ := e1
  have h1 : (b.i.length : Int) ≤ 4 := by omega
  have h2 : (b.o.length : Int) ≤ 4 := by omega
  refine eqn (Wp_call (F := f9) rfl rfl ?_)
  unfold f9
  rw [WpS_cons]
  simp [-ss_cons, dVar, e1', i0, i1, i2, e2, e3, e4, truth, hw]
  rw [WpS_cons]
  simp [-ss_cons, dVar, i1, i2, nT, lTup, c_le, h1, h2, dAnd, truth]
theorem find_so {st : List So} (hn : (st.map (·.w)).Nodup) {s : So} (hs : s ∈ st) : st.find? (fun a => decide (a.w = s.w)) = some s := by
  induction st with
  | nil => cases hs
  | cons a st ih =>
    rw [List.map_cons, List.nodup_cons] at hn
    rw [List.find?_cons]
    rcases List.mem_cons.mp hs with e | e
    · subst e; simp
    · have : a.w ≠ s.w := fun z => hn.1 (z ▸ List.mem_map_of_mem e)
      simp [this]
      simpa using ih hn.2 e
end
end Pw.Lw

set_option Elab.async false
set_option linter.all false
set_option maxRecDepth 100000
set_option maxHeartbeats 1000000
namespace Pw.Lw
open PySem PySem.Spec PyProof.Rows L2 Pw
section
variable {n : Nat} {S : Sto}
structure StOk (st : List So) : Prop where
  l1 : 1 ≤ st.length
  l12 : st.length ≤ 12
  b : ∀ s ∈ st, soB s = true
  nd : (st.map (·.w)).Nodup
theorem wordB_len {w : Str} (h : wordB w = true) : w.length ≤ 8 := by
  unfold wordB at h
  simp only [Bool.and_eq_true, decide_eq_true_eq] at h
  exact h.2.1
theorem kindsB_ok {l : List Str} (h : kindsB l = true) : l.length ≤ 4 ∧ Sz l := by
  unfold kindsB at h
  simp only [Bool.and_eq_true, decide_eq_true_eq, List.all_eq_true] at h
  exact ⟨h.1, fun w hw => Nat.le_trans (wordB_len (h.2 w hw)) (by decide)⟩
theorem StOk.sz {st : List So} (h : StOk st) : ∀ s ∈ st, s.Sz := by
  intro s hs
  have := h.b s hs
  simp only [soB, Bool.and_eq_true] at this
  have h1 := kindsB_ok this.2.1
  have h2 := kindsB_ok this.2.2
  exact ⟨Nat.le_trans (wordB_len this.1) (by decide), by omega, by omega, h1.2, h2.2⟩
structure WbOk (st : List So) (w : Wb) : Prop where
  kl : w.ks.length ≤ 1000
  bl : w.bs.length ≤ 1000
  ll : w.l.length ≤ 1000
  rl : w.r.length ≤ 1000
  ks : ∀ k ∈ w.ks, wordB k = true
  bs : ∀ b ∈ w.bs, BxOk st w.ks b
  il : In w.ks w.l
  ir : In w.ks w.r
theorem nb_sT (l : List Str) : D.nb (sT l) = true := nbs_map (fun _ => rfl) l
theorem dep_sT (l : List Str) : D.dep (sT l) ≤ 1 := by
  have : D.deps (l.map D.str) ≤ 0 := deps_map (g := D.str) (fun _ => Nat.le_refl 0) l
  show D.deps (l.map D.str) + 1 ≤ 1
  omega
theorem nb_nT (l : List Nat) : D.nb (nT l) = true := nbs_map (fun _ => rfl) l
theorem pure_sT (l : List Str) : D.pure (sT l) = true := by
  show D.pures _ = true
  exact pures_map (fun _ => rfl) l
theorem pure_nT (l : List Nat) : D.pure (nT l) = true := by
  show D.pures _ = true
  exact pures_map (fun _ => rfl) l
theorem s_boxes (st : List So) (hst : StOk st) (ks : List Str) (bs : List Bx) (hl : bs.length ≤ 1000) (h : ∀ b ∈ bs, BxOk st ks b) : cl (n + 5) 10 [sT ks, .tup (bs.map encB), dPairs st] S = .ok .non S := by
  refine eqn (Wp_call (F := f10) rfl rfl ?_)
  unfold f10
  rw [WpS_cons]
  have hp : isPlainKeys (st.map fun s => D.str s.w) = true := plainStr (fun s : So => s.w) st
  simp [-ss_cons, dVar, isop, dPairs, p_dict hp]
  rw [WpS_cons]
  simp [-ss_cons, dVar]
  rw [enum_map (enc := encB) ⟨⟨#[]⟩, [], []⟩]
  have e0 : (S ++ [MO.dct (st.map fun s => .str s.w) (st.map fun s => .tup [sT s.i, sT s.o])])[S.length]? = some (.dct (st.map fun s => .str s.w) (st.map fun s => .tup [sT s.i, sT s.o])) := by simp
  refine WpS_for (fun i e S' => S' = S ++ [MO.dct (st.map fun s => .str s.w) (st.map fun s => .tup [sT s.i, sT s.o])] ∧ ∃ x y z, e = [some (sT ks), some (.tup (bs.map encB)), some (dPairs st), some (.ref S.length), x, y, z]) (List.range bs.length) 0 _ _ ⟨rfl, none, none, none, rfl⟩ ?_ ?_
  · rintro j e S' hj ⟨rfl, x, y, z, rfl⟩
    refine ⟨stays_nil _, _, rfl, ?_⟩
    simp at hj
    have hm : bs.getD j ⟨⟨#[]⟩, [], []⟩ ∈ bs := getD_in _ hj
    simp [-ss_cons]
    rw [← List.getD_eq_getElem?_getD]
    generalize bs.getD j ⟨⟨#[]⟩, [], []⟩ = b at hm
    have hb := h b hm
    obtain ⟨s, hs, hw, hi, ho⟩ := hb.so
    have hsb := hst.b s hs
    simp only [soB, Bool.and_eq_true] at hsb
    have i0 : ∀ S, Pw.index S (encB b) (.int 0) = some (.str b.w) := fun _ => rfl
    have i1 : ∀ S, Pw.index S (encB b) (.int 1) = some (nT b.i) := fun _ => rfl
    have i2 : ∀ S, Pw.index S (encB b) (.int 2) = some (nT b.o) := fun _ => rfl
    have e1 := s_form (n := n) (S := S ++ [MO.dct (st.map fun s => .str s.w) (st.map fun s => .tup [sT s.i, sT s.o])]) ks b hb.i4 hb.o4 hb.ii hb.io (by rw [← hw]; exact hsb.1)
    have e2 := s_kindsat (n := n + 3) (S := S ++ [MO.dct (st.map fun s => .str s.w) (st.map fun s => .tup [sT s.i, sT s.o])]) ks b.i (by have := hb.i4; omega) hb.ii
    have e3 := s_kindsat (n := n + 3) (S := S ++ [MO.dct (st.map fun s => .str s.w) (st.map fun s => .tup [sT s.i, sT s.o])]) ks b.o (by have := hb.o4; omega) hb.io
    simp only [cl] at e1 e2 e3
    have hg : dGet (.str b.w) (st.map fun s => D.str s.w) (st.map fun s => D.tup [sT s.i, sT s.o]) = some (.tup [sT s.i, sT s.o]) := by
      have q := find_so hst.nd hs
      rw [hw] at q
      rw [dGet_map (g := fun s : So => s.w) (v := fun s : So => D.tup [sT s.i, sT s.o]), q]
      rfl
    have hk : keyFits (.str b.w) (st.map fun s => D.str s.w) = true := keyFits_str b.w (fun s : So => s.w) st
    have e4 := c_notinr e0 hk
    have e5 := ix_dctr e0 hk
    rw [hg] at e4 e5
    have e6 := c_ned (S := S ++ [MO.dct (st.map fun s => .str s.w) (st.map fun s => .tup [sT s.i, sT s.o])]) (a := .tup [sT s.i, sT s.o]) (b := .tup [sT (kindsAt ks b.i), sT (kindsAt ks b.o)]) (by simp [D.nb, D.nbs, nb_sT]) (by simp [D.nb, D.nbs, nb_sT]) (by have := dep_sT s.i; have := dep_sT s.o; simp [D.dep, D.deps]; omega)
    rw [hi, ho] at e6
    simp at e6
    rw [WpS_cons]
    simp [-ss_cons, dVar, e1, truth]
    rw [WpS_cons]
    simp [-ss_cons, dVar, i1, i2, e2, e3, sizeLine_eq]
    rw [WpS_cons]
    have hiso : isop (dPairs st) .non = some false := rfl
    simp [-ss_cons, dVar, hiso]
    rw [WpS_cons]
    simp [-ss_cons, dVar, i0, e4, e5, hi, ho, e6]
  · rintro e S' ⟨rfl, x, y, z, rfl⟩
    refine ⟨stays_nil _, ?_⟩
    rw [WpS_cons]
    simp [-ss_cons]
    rw [closeR_grown rfl]
    simp
end
end Pw.Lw

set_option Elab.async false
set_option linter.all false
set_option maxRecDepth 100000
set_option maxHeartbeats 1000000
namespace Pw.Lw
open PySem PySem.Spec PyProof.Rows L2 Pw
section
variable {n : Nat} {S : Sto}
theorem c_nenil : cmpop .ne (.lst []) (.lst []) S = some false := by
  have := c_ned (S := S) (a := .lst []) (b := .lst []) rfl rfl (by decide)
  simpa using this
theorem filter_ff {α : Type} (l : List α) : l.filter (fun _ => false) = [] := by
  induction l with
  | nil => rfl
  | cons a l ih => rw [List.filter_cons_of_neg (by decide), ih]
theorem s_wiresf (ks : List Str) (hl : ks.length ≤ 1000) (h : ∀ k ∈ ks, wordB k = true) : cl (n + 2) 11 [sT ks] S = .ok .non S := by
  refine eqn (Wp_call (F := f11) rfl rfl ?_)
  unfold f11
  rw [WpS_cons]
  simp [-ss_cons, dVar, sT, tyIs, truth]
  rw [WpS_cons]
  simp [-ss_cons, dVar]
  rw [enum_map (enc := D.str) ⟨#[]⟩]
  refine Wp.of_eq (comp_filter (g := nD) (p := fun _ => false) (stays_nil _) (List.range ks.length) [] (small (by simp; omega)) fun k hk => ⟨_, rfl, ?_, fun hk => nomatch hk⟩) ?_
  · have hk := List.mem_range.mp hk
    have hm : ks.getD k ⟨#[]⟩ ∈ ks := getD_in _ hk
    simp [tt_some, dVar]
    rw [← List.getD_eq_getElem?_getD]
    generalize ks.getD k ⟨#[]⟩ = w at hm
    have hw := h w hm
    have e := s_word (n := n) (S := S) w (by have := wordB_len hw; omega)
    simp only [cl] at e
    simp [e, hw, truth]
  rw [List.nil_append, filter_ff]
  simp [-ss_cons]
  rw [WpS_cons]
  simp [-ss_cons, dVar, c_nenil]
theorem s_endsf (ks : List Str) (sd : Int) (is : List Nat) (hl : is.length ≤ 1000) (h : In ks is) : cl (n + 3) 12 [sT ks, .int sd, nT is] S = .ok .non S := by
  refine eqn (Wp_call (F := f12) rfl rfl ?_)
  unfold f12
  rw [WpS_cons]
  simp [-ss_cons, dVar, nT, tyIs, truth]
  rw [WpS_cons]
  simp [-ss_cons, dVar]
  rw [enum_map (enc := nD) 0]
  refine Wp.of_eq (comp_filter (g := nD) (p := fun _ => false) (stays_nil _) (List.range is.length) [] (small (by simp; omega)) fun k hk => ⟨_, rfl, ?_, fun hk => nomatch hk⟩) ?_
  · have hk := List.mem_range.mp hk
    have hm : is.getD k 0 ∈ is := getD_in _ hk
    simp [tt_some, dVar, sT, lTup, b_sub]
    rw [← List.getD_eq_getElem?_getD]
    generalize is.getD k 0 = w at hm
    have hw := h w hm
    have e := s_btw (n := n) (S := S) 0 (ks.length - 1) (w : Int)
    rw [show (decide ((0 : Int) ≤ w) && decide ((w : Int) ≤ ks.length - 1)) = true by simp; omega] at e
    simp only [cl] at e
    simp [e, truth]
  rw [List.nil_append, filter_ff]
  simp [-ss_cons]
  rw [WpS_cons]
  simp [-ss_cons, dVar, c_nenil]
theorem s_faultby (st : List So) (hst : StOk st) (w : Wb) (hw : WbOk st w) : cl (n + 6) 13 [dPairs st, encW w] S = .ok .non S := by
  have e1 := s_tupof (n := n + 4) (S := S) 4 [sT w.ks, .tup (w.bs.map encB), nT w.l, nT w.r]
  have e2 := s_wiresf (n := n + 3) (S := S) w.ks hw.kl hw.ks
  have e3 := s_boxes (n := n) (S := S) st hst w.ks w.bs hw.bl hw.bs
  have e4 := s_endsf (n := n + 2) (S := S) w.ks 2 w.l hw.ll hw.il
  have e5 := s_endsf (n := n + 2) (S := S) w.ks 3 w.r hw.rl hw.ir
  simp only [cl] at e1 e2 e3 e4 e5
  have e1' : callN Fs Gn (n + 5) 2 [.int 4, encW w] S = _ := e1
  refine eqn (Wp_call (F := f13) rfl rfl ?_)
  unfold f13
  rw [WpS_cons]
  simp [-ss_cons, dVar, e1', truth]
  rw [WpS_cons]
  simp [-ss_cons, dVar, encW]
  rw [WpS_cons]
  simp [-ss_cons, dVar, e2]
  rw [WpS_cons]
  simp [-ss_cons, dVar, isop, tyIs, truth]
  rw [WpS_cons]
  simp [-ss_cons, dVar, isop]
  rw [WpS_cons]
  simp [-ss_cons, dVar, e3]
  rw [WpS_cons]
  simp [-ss_cons, dVar, isop]
  rw [WpS_cons]
  simp [-ss_cons, dVar, isop]
  rw [WpS_cons]
  simp [-ss_cons, dVar, e4]
  rw [WpS_cons]
  simp [-ss_cons, dVar, isop, e5]
end
end Pw.Lw

set_option Elab.async false
set_option linter.all false
set_option maxRecDepth 100000
set_option maxHeartbeats 1000000
namespace Pw.Lw
open PySem PySem.Spec PyProof.Rows L2 Pw
def Wb.ends (w : Wb) : List Nat := w.l ++ w.r
def placed (bs : List Bx) : List Nat := bs.flatMap fun b => b.i ++ b.o
structure LeftOk (w : Wb) : Prop where
  ne : w.bs ≠ []
  nd : w.ends.Nodup
  pl : ∀ k < w.ks.length, k ∈ placed w.bs
structure RuOk (st : List So) (r : Ru) : Prop where
  a : WbOk st r.a
  b : WbOk st r.b
  kl : kindsAt r.a.ks r.a.l = kindsAt r.b.ks r.b.l
  kr : kindsAt r.a.ks r.a.r = kindsAt r.b.ks r.b.r
  lf : LeftOk r.a
  el : r.a.ends.length ≤ 1000
structure BkOk (st : List So) (rs : List Ru) : Prop where
  so : StOk st
  l1 : 1 ≤ rs.length
  l8 : rs.length ≤ 8
  rs : ∀ r ∈ rs, RuOk st r
section
variable {n : Nat} {S : Sto}
theorem ix_w1 (w : Wb) : Pw.index S (encW w) (.int 1) = some (.tup (w.bs.map encB)) := rfl
theorem ix_w0 (w : Wb) : Pw.index S (encW w) (.int 0) = some (sT w.ks) := rfl
theorem ix_w2 (w : Wb) : Pw.index S (encW w) (.int 2) = some (nT w.l) := rfl
theorem ix_w3 (w : Wb) : Pw.index S (encW w) (.int 3) = some (nT w.r) := rfl
theorem ix_r0 (r : Ru) : Pw.index S (encR r) (.int 0) = some (encW r.a) := rfl
theorem ix_r1 (r : Ru) : Pw.index S (encR r) (.int 1) = some (encW r.b) := rfl
theorem s_endsof (w : Wb) (h1 : w.l.length ≤ 1000) (h2 : w.r.length ≤ 1000) : cl (n + 1) 14 [encW w] S = .ok (nT w.ends) S := by
  refine eqn (Wp_call (F := f14) rfl rfl ?_)
  unfold f14
  rw [WpS_cons]
  simp [-ss_cons, dVar, ix_w2, ix_w3, nT, b_addt, Wb.ends]
  exact small (by omega)
theorem placed_len : ∀ {bs : List Bx}, (∀ b ∈ bs, b.i.length ≤ 4 ∧ b.o.length ≤ 4) → (placed bs).length ≤ 8 * bs.length
  | [], _ => Nat.le_refl _
  | b :: bs, h => by
    have ih := placed_len (bs := bs) fun c hc => h c (List.mem_cons_of_mem _ hc)
    have hb := h b (List.mem_cons_self ..)
    unfold placed at ih ⊢
    rw [List.flatMap_cons, List.length_append, List.length_append, List.length_cons]
    omega
theorem take_placed {bs : List Bx} {j : Nat} (hj : j < bs.length) : placed (bs.take (j + 1)) = placed (bs.take j) ++ (bs[j].i ++ bs[j].o) := by
  unfold placed
  rw [List.take_succ, List.flatMap_append, List.getElem?_eq_getElem hj]
  simp
theorem s_placed (w : Wb) (hb : ∀ b ∈ w.bs, b.i.length ≤ 4 ∧ b.o.length ≤ 4) (hl : w.bs.length ≤ 1000) : cl (n + 1) 15 [encW w] S = .ok (.lst ((placed w.bs).map nD)) S := by
  refine eqn (Wp_call (F := f15) rfl rfl ?_)
  unfold f15
  rw [WpS_cons]
  simp [-ss_cons, dVar, sizeLine_eq]
  rw [WpS_cons]
  simp [-ss_cons, dVar, ix_w1]
  refine WpS_for (fun i e S' => FrG (fun _ => False) S S' ∧ S'[S.length]? = some (.lst ((placed (w.bs.take i)).map nD)) ∧ ∃ x y z, e = [some (encW w), some (.ref S.length), x, y, z]) w.bs 0 _ _ ⟨FrG.push _, by simp [placed], none, none, none, rfl⟩ ?_ ?_
  · rintro j e S' hj ⟨hf, hn, x, y, z, rfl⟩
    refine ⟨stays_nil _, _, rfl, ?_⟩
    simp only [Nat.zero_add] at hn ⊢
    rw [take_placed hj]
    have hlt := (List.getElem?_eq_some_iff.mp hn).1
    have hbj := hb _ (List.getElem_mem hj)
    have hpl : (placed (w.bs.take j)).length ≤ 8 * (w.bs.take j).length := placed_len fun b hb' => hb b (List.mem_of_mem_take hb')
    rw [List.length_take] at hpl
    generalize w.bs[j] = b at hbj
    generalize placed (w.bs.take j) = acc at hn hpl
    rw [WpS_cons]
    have e1 : S'[S.length]? = some (MO.lst (acc.map nD)) := hn
    simp [-ss_cons, dVar, tList, nT, b_addl, sizeLine_eq]
    refine ⟨by omega, by omega, by omega, ?_⟩
    rw [aug_lst (xs := acc.map nD) (ys := (b.i ++ b.o).map nD) (by rw [List.getElem?_append_left hlt]; exact hn) (by simp) (by rw [sizeLine_eq]; simp; omega)]
    simp [-ss_cons]
    exact ⟨(hf.trans (FrG.push _)).setNew (Nat.le_refl _), by rw [List.getElem?_set_self (by simp; omega)]⟩
  · rintro e S' ⟨hf, hn, x, y, z, rfl⟩
    refine ⟨stays_nil _, ?_⟩
    rw [Nat.zero_add, List.take_of_length_le (Nat.le_refl _)] at hn
    rw [WpS_cons]
    simp [-ss_cons, dVar]
    refine Wp_closeN hf (List.getElem?_eq_some_iff.mp hn).1 (frz_ref (Nat.le_refl _) hn (pures_map (fun _ => rfl) _)) ⟨rfl, rfl⟩
end
end Pw.Lw

set_option Elab.async false
set_option linter.all false
set_option maxRecDepth 100000
set_option maxHeartbeats 1000000
namespace Pw.Lw
open PySem PySem.Spec PyProof.Rows L2 Pw
section
variable {n : Nat} {S : Sto}
theorem toPys_nats : ∀ ns : List Nat, D.toPys (ns.map nD) = some (ns.map fun (k : Nat) => PyData.int (k : Int))
  | [] => rfl
  | w :: ws => by
    rw [List.map_cons]
    unfold D.toPys
    rw [toPys_nats ws]
    rfl
theorem anyEq_nats (w : Nat) (ws : List Nat) : anyEq S (.int (w : Int)) (ws.map nD) = some (decide (w ∈ ws)) := by
  unfold anyEq inSeq
  rw [show pyd S (.int (w : Int)) = some (.int w) from rfl, toPys_nats]
  simp only
  rw [if_pos (by show min _ (PyData.depth (.int (w : Int))) ≤ 60; simp [PyData.depth])]
  congr 1
  rw [Bool.eq_iff_iff, List.any_eq_true, decide_eq_true_iff]
  constructor
  · rintro ⟨x, hx, h⟩
    obtain ⟨y, hy, rfl⟩ := List.mem_map.mp hx
    simp only [PyData.eqv, beq_iff_eq] at h
    have : y = w := by omega
    exact this ▸ hy
  · intro h
    exact ⟨_, List.mem_map.mpr ⟨w, h, rfl⟩, by simp [PyData.eqv]⟩
theorem _root_.Pw.Sq.inN {X : D} {w : Nat} {ws : List Nat} (h : Sq S X (ws.map nD)) : cmpop .isin (.int (w : Int)) X S = some (decide (w ∈ ws)) := by
  have e := anyEq_nats (S := S) w ws
  rcases h with h | h <;> simp only [cmpop, h, e]
theorem ints_nats : ∀ ns : List Nat, ints? (ns.map nD) = some (ns.map fun (k : Nat) => (k : Int))
  | [] => rfl
  | k :: ns => by
    show (ints? (ns.map nD)).map _ = _
    rw [ints_nats ns]; rfl
theorem prim_lenSetN {bx : Bool} (ns : List Nat) (h : ns.length ≤ 1000) (hn : ns.Nodup) : prim .lenSet bx [nT ns] S = .ok (.int ns.length) S := by
  show pLenSet S (nT ns) = _
  unfold pLenSet nT
  simp only [seq_tup, Option.bind_some]
  cases ns with
  | nil => rfl
  | cons a l =>
    have e : strs? ((a :: l).map nD) = none := rfl
    rw [e, ints_nats]
    simp only
    rw [if_pos (by rw [List.length_map]; exact h), eraseDups_nodup, List.length_map]
    exact List.Pairwise.map (fun (k : Nat) => (k : Int)) (fun a b (hab : a ≠ b) (z : (a : Int) = b) => hab (by omega)) hn
theorem nb_encB (b : Bx) : D.nb (encB b) = true := by
  simp [encB, D.nb, D.nbs, nb_nT]
theorem pure_encB (b : Bx) : D.pure (encB b) = true := by
  simp [encB, D.pure, D.pures, pure_nT]
theorem pure_encW (w : Wb) : D.pure (encW w) = true := by
  simp [encW, D.pure, D.pures, pure_nT, pure_sT, pures_map pure_encB]
theorem pure_encR (r : Ru) : D.pure (encR r) = true := by
  simp [encR, D.pure, D.pures, pure_encW]
theorem c_eqnilt {bs : List Bx} (h : bs ≠ []) : cmpop .eq (.tup (bs.map encB)) (.tup []) S = some false := by
  have e := deq_nb (S := S) (a := .tup []) (b := .tup (bs.map encB)) rfl (nbs_map nb_encB bs) (by decide)
  have e2 : deq S (.tup (bs.map encB)) (.tup []) = deq S (.tup []) (.tup (bs.map encB)) := by
    unfold deq pyd
    have hb : D.nb (.tup (bs.map encB)) = true := nbs_map nb_encB bs
    rw [rd_tup, rd_tup, toPy_nb (d := .tup (bs.map encB)) hb, toPy_nb (d := .tup []) rfl]
    simp only
    rw [Nat.min_comm]
    have : PyData.eqv (D.py (.tup (bs.map encB))) (D.py (.tup [])) = PyData.eqv (D.py (.tup [])) (D.py (.tup (bs.map encB))) := by
      rw [Bool.eq_iff_iff, eqv_nb (a := .tup (bs.map encB)) (b := .tup []) hb rfl, eqv_nb (a := .tup []) (b := .tup (bs.map encB)) rfl hb]
      exact eq_comm
    rw [this]
  show deq S _ _ = _
  rw [e2, e]
  congr 1
  cases bs with
  | nil => exact absurd rfl h
  | cons b bs => simp
theorem s_left (st : List So) (w : Wb) (hw : WbOk st w) (hl : LeftOk w) (he : w.ends.length ≤ 1000) : cl (n + 2) 16 [encW w] S = .ok (.bl true) S := by
  have hb : ∀ b ∈ w.bs, b.i.length ≤ 4 ∧ b.o.length ≤ 4 := fun b hb => ⟨(hw.bs b hb).i4, (hw.bs b hb).o4⟩
  have e1 := s_endsof (n := n) (S := S) w hw.ll hw.rl
  have e2 := s_placed (n := n) (S := S) w hb hw.bl
  simp only [cl] at e1 e2
  refine eqn (Wp_call (F := f16) rfl rfl ?_)
  unfold f16
  rw [WpS_cons]
  simp [-ss_cons, dVar, e1, e2, sizeLine_eq]
  have e3 := prim_lenSetN (S := S) (bx := false) w.ends he hl.nd
  have e4 : prim .len false [nT w.ends] S = .ok (.int w.ends.length) S := by rw [nT, lTup, List.length_map]
  rw [WpS_cons]
  simp [-ss_cons, dVar, ix_w1, c_eqnilt hl.ne, e3, e4, c_lt]
  rw [WpS_cons]
  simp [-ss_cons, dVar, ix_w0, sT, lTup]
  have hk := hw.kl
  rw [rng1 (j := (w.ks.length : Int)) (by omega) (by omega)]
  simp [-ss_cons]
  refine Wp.of_eq (comp_map (enc := fun (k : Nat) => D.int (k : Int)) (g := fun _ => D.bl true) (stays_nil _) (List.range w.ks.length) [] (small (by simp; omega)) fun k hk => ⟨_, rfl, rfl, ?_⟩) ?_
  · have hk := List.mem_range.mp hk
    simp [dVar, (Sq.lst ((placed w.bs).map nD)).inN, hl.pl k hk]
  rw [List.nil_append]
  refine ⟨small (by simp; omega), ?_⟩
  rw [prim_all]
  simp
theorem nodup_kinds {ks : List Str} {is : List Nat} : (kindsAt ks is).length = is.length := by simp [kindsAt]
theorem s_alike (st : List So) (r : Ru) (h : RuOk st r) : cl (n + 2) 17 [encW r.a, encW r.b] S = .ok (.bl true) S := by
  have e1 := s_kindsat (n := n) (S := S) r.a.ks r.a.l h.a.ll h.a.il
  have e2 := s_kindsat (n := n) (S := S) r.b.ks r.b.l h.b.ll h.b.il
  have e3 := s_kindsat (n := n) (S := S) r.a.ks r.a.r h.a.rl h.a.ir
  have e4 := s_kindsat (n := n) (S := S) r.b.ks r.b.r h.b.rl h.b.ir
  simp only [cl] at e1 e2 e3 e4
  rw [← h.kl] at e2
  rw [← h.kr] at e4
  have c1 : cmpop .ne (sT (kindsAt r.a.ks r.a.l)) (sT (kindsAt r.a.ks r.a.l)) S = some false := by
    rw [c_ned (nb_sT _) (nb_sT _) (Nat.le_trans (dep_sT _) (by decide))]; simp
  have c2 : cmpop .eq (sT (kindsAt r.a.ks r.a.r)) (sT (kindsAt r.a.ks r.a.r)) S = some true := by
    rw [c_eqd (nb_sT _) (nb_sT _) (Nat.le_trans (dep_sT _) (by decide))]; simp
  refine eqn (Wp_call (F := f17) rfl rfl ?_)
  unfold f17
  rw [WpS_cons]
  simp [-ss_cons, dVar, ix_w0, ix_w2, e1, e2, c1]
  rw [WpS_cons]
  simp [-ss_cons, dVar, ix_w0, ix_w3, e3, e4, c2]
theorem s_rulef (st : List So) (hst : StOk st) (r : Ru) (h : RuOk st r) : cl (n + 7) 18 [dPairs st, encR r] S = .ok .non S := by
  have e0 := s_tupof (n := n + 5) (S := S) 2 [encW r.a, encW r.b]
  have e1 := s_faultby (n := n) (S := S) st hst r.a h.a
  have e2 := s_faultby (n := n) (S := S) st hst r.b h.b
  have e3 := s_alike (n := n + 4) (S := S) st r h
  have e4 := s_left (n := n + 4) (S := S) st r.a h.a h.lf h.el
  simp only [cl] at e0 e1 e2 e3 e4
  have e0' : callN Fs Gn (n + 6) 2 [.int 2, encR r] S = _ := e0
  refine eqn (Wp_call (F := f18) rfl rfl ?_)
  unfold f18
  rw [WpS_cons]
  simp [-ss_cons, dVar, e0', truth]
  rw [WpS_cons]
  simp [-ss_cons, dVar, sizeLine_eq]
  refine WpS_for (enc := D.int) (fun i e S' => S' = S ∧ ∃ x y, e = [some (dPairs st), some (encR r), x, y]) [0, 1] 0 _ _ ⟨rfl, none, none, rfl⟩ ?_ ?_
  · rintro j e S' hj ⟨rfl, x, y, rfl⟩
    refine ⟨stays_nil _, _, rfl, ?_⟩
    match j, hj with
    | 0, _ =>
      rw [WpS_cons]
      simp [-ss_cons, dVar, ix_r0, e1]
      rw [WpS_cons]
      simp [-ss_cons, dVar, isop]
    | 1, _ =>
      rw [WpS_cons]
      simp [-ss_cons, dVar, ix_r1, e2]
      rw [WpS_cons]
      simp [-ss_cons, dVar, isop]
  · rintro e S' ⟨rfl, x, y, rfl⟩
    refine ⟨stays_nil _, ?_⟩
    rw [WpS_cons]
    simp [-ss_cons, dVar, ix_r0, ix_r1, e3, truth]
    rw [WpS_cons]
    simp [-ss_cons, dVar, ix_r0, e4]
theorem s_bookf (st : List So) (rs : List Ru) (h : BkOk st rs) : cl (n + 8) 19 [encBk st rs] S = .ok .non S := by
  have e0 := s_tupof (n := n + 6) (S := S) 2 [encSt st, .tup (rs.map encR)]
  have e1 := s_stock (n := n + 4) (S := S) st h.so.l1 h.so.l12 h.so.sz h.so.b h.so.nd
  have e2 := s_sorts (n := n + 6) (S := S) st (by have := h.so.l12; omega) h.so.nd
  simp only [cl] at e0 e1 e2
  have e0' : callN Fs Gn (n + 7) 2 [.int 2, encBk st rs] S = _ := e0
  have a1 : (1 : Int) ≤ rs.length := by have := h.l1; omega
  have a2 : (rs.length : Int) ≤ 8 := by have := h.l8; omega
  refine eqn (Wp_call (F := f19) rfl rfl ?_)
  unfold f19
  rw [WpS_cons]
  simp [-ss_cons, dVar, e0', truth]
  rw [WpS_cons]
  simp [-ss_cons, dVar, encBk]
  rw [WpS_cons]
  simp [-ss_cons, dVar, e1, truth]
  rw [WpS_cons]
  simp [-ss_cons, dVar, tyIs, truth, lTup, dCmp2, c_le, a1, a2]
  rw [WpS_cons]
  simp [-ss_cons, dVar]
  rw [enum_map (enc := encR) ⟨⟨[], [], [], []⟩, ⟨[], [], [], []⟩⟩]
  refine WpS_for (fun i e S' => S' = S ∧ ∃ x y z, e = [some (encBk st rs), some (encSt st), some (.tup (rs.map encR)), x, y, z]) (List.range rs.length) 0 _ _ ⟨rfl, none, none, none, rfl⟩ ?_ ?_
  · rintro j e S' hj ⟨rfl, x, y, z, rfl⟩
    refine ⟨stays_nil _, _, rfl, ?_⟩
    simp at hj
    have hm : rs.getD j ⟨⟨[], [], [], []⟩, ⟨[], [], [], []⟩⟩ ∈ rs := getD_in _ hj
    simp [-ss_cons]
    rw [← List.getD_eq_getElem?_getD]
    generalize rs.getD j ⟨⟨[], [], [], []⟩, ⟨[], [], [], []⟩⟩ = r at hm
    have e3 := s_rulef (n := n) (S := S') st h.so r (h.rs r hm)
    simp only [cl] at e3
    rw [WpS_cons]
    simp [-ss_cons, dVar, e2, e3]
    rw [WpS_cons]
    simp [-ss_cons, dVar, isop]
  · rintro e S' ⟨rfl, x, y, z, rfl⟩
    refine ⟨stays_nil _, ?_⟩
    rw [WpS_cons]
    simp [-ss_cons, dVar]
theorem s_check (st : List So) (rs : List Ru) (h : BkOk st rs) : cl (n + 9) 20 [encBk st rs] S = .ok .non S := by
  have e1 := s_bookf (n := n) (S := S) st rs h
  simp only [cl] at e1
  refine eqn (Wp_call (F := f20) rfl rfl ?_)
  unfold f20
  rw [WpS_cons]
  simp [-ss_cons, dVar, e1]
  rw [WpS_cons]
  simp [-ss_cons, dVar, isop]
end
end Pw.Lw

set_option Elab.async false
set_option linter.all false
set_option maxRecDepth 100000
set_option maxHeartbeats 1000000
namespace Pw.Lw
open PySem PySem.Spec PyProof.Rows L2 Pw
def countB (bs : List Bx) (w : Str) : Nat := (bs.map (·.w)).count w
def cnt (st : List So) (w : Wb) : List Nat := st.map fun s => countB w.bs s.w
def sumOf (st : List So) (ws : List Int) (w : Wb) : Int := (tab st.length fun j => ((cnt st w).getD j 0 : Int) * gt ws j).sum
def loss (st : List So) (r : Ru) : List Int := tab st.length fun j => ((cnt st r.a).getD j 0 : Int) - ((cnt st r.b).getD j 0 : Int)
section
variable {n : Nat} {S : Sto}
theorem s_number (i : Int) : cl (n + 1) 21 [.int i] S = .ok (.bl (decide (0 ≤ i))) S := by
  refine eqn (Wp_call (F := f21) rfl rfl ?_)
  unfold f21
  rw [WpS_cons]
  simp [-ss_cons, dVar, tyIs, truth, dAnd, c_ge]
theorem s_checkw (st : List So) (ws : List Int) (hl : ws.length = st.length) (hz : ws.length ≤ 1000) (h : ∀ w ∈ ws, 0 ≤ w) : cl (n + 2) 22 [encSt st, iT ws] S = .ok .non S := by
  refine eqn (Wp_call (F := f22) rfl rfl ?_)
  unfold f22
  rw [WpS_cons]
  simp [-ss_cons, dVar, tyIs, truth, iT, encSt, lTup, c_nei, hl]
  refine Wp.of_eq (comp_map (enc := D.int) (g := fun _ => D.bl true) (stays_nil _) ws [] (small (by simp; omega)) fun i hi => ⟨_, rfl, rfl, ?_⟩) ?_
  · have e := s_number (n := n) (S := S) i
    rw [decide_eq_true (h i hi)] at e
    simp only [cl] at e
    simp [dVar, e]
  rw [List.nil_append]
  refine ⟨small (by simp; omega), ?_⟩
  rw [prim_all]
  simp [truth]
theorem countOf_strs (w : Str) (ws : List Str) : countOf S (.str w) (ws.map .str) = some (ws.count w) := by
  unfold countOf inSeq
  rw [show pyd S (.str w) = some (.str w) from rfl, toPys_strs]
  simp only
  rw [if_pos (by show min _ (PyData.depth (.str w)) ≤ 60; simp [PyData.depth])]
  congr 1
  rw [List.countP_map, List.count]
  congr 1
theorem p_count {bx : Bool} (w : Str) (ws : List Str) : prim .count bx [.lst (ws.map .str), .str w] S = .ok (.int (ws.count w)) S := by
  show R.o ((seqOf S (.lst (ws.map .str))).bind (countOf S (.str w))) _ = _
  simp only [seq_lst, Option.bind_some, countOf_strs, R.o_some]
theorem s_counts (st : List So) (w : Wb) (h1 : st.length ≤ 1000) (h2 : w.bs.length ≤ 1000) : cl (n + 1) 23 [encSt st, encW w] S = .ok (.lst ((cnt st w).map nD)) S := by
  refine eqn (Wp_call (F := f23) rfl rfl ?_)
  unfold f23
  rw [WpS_cons]
  simp [-ss_cons, dVar, ix_w1]
  refine Wp.of_eq (comp_map (enc := encB) (g := fun b => D.str b.w) (stays_nil _) w.bs [] (small (by simp; omega)) fun b hb => ⟨_, rfl, rfl, ?_⟩) ?_
  · have i0 : Pw.index S (encB b) (.int 0) = some (.str b.w) := rfl
    simp [dVar, i0]
  rw [List.nil_append]
  refine ⟨small (by simp; omega), ?_⟩
  rw [WpS_cons]
  simp [-ss_cons, dVar, encSt]
  refine Wp.of_eq (comp_map (enc := encSo) (g := fun s => nD (countB w.bs s.w)) (stays_nil _) st [] (small (by simp; omega)) fun s hs => ⟨_, rfl, rfl, ?_⟩) ?_
  · have i0 : Pw.index S (encSo s) (.int 0) = some (.str s.w) := rfl
    have e : prim .count false [.lst (w.bs.map fun b => D.str b.w), .str s.w] S = .ok (.int ((w.bs.map (·.w)).count s.w)) S := by
      have := p_count (S := S) (bx := false) s.w (w.bs.map (·.w))
      rw [List.map_map] at this
      exact this
    simp [dVar, i0, Pr.kindOk, e, countB]
  rw [List.nil_append]
  refine ⟨small (by simp; omega), ?_⟩
  simp [cnt]
theorem cnt_len (st : List So) (w : Wb) : (cnt st w).length = st.length := by simp [cnt]
theorem cnt_le (st : List So) (w : Wb) (j : Nat) : (cnt st w).getD j 0 ≤ w.bs.length := by
  by_cases hj : j < st.length
  · simp [cnt, hj]
    unfold countB
    exact Nat.le_trans List.count_le_length (by simp)
  · simp [cnt, hj]
theorem s_sumof (st : List So) (ws : List Int) (w : Wb) (hl : ws.length = st.length) (h1 : st.length ≤ 1000) (h2 : w.bs.length ≤ 1000) : cl (n + 2) 24 [encSt st, iT ws, encW w] S = .ok (.int (sumOf st ws w)) S := by
  have e1 := s_counts (n := n) (S := S) st w h1 h2
  simp only [cl] at e1
  refine eqn (Wp_call (F := f24) rfl rfl ?_)
  unfold f24
  have ez : srcZip S (.lst ((cnt st w).map nD)) (iT ws) = some ⟨(List.range st.length).map fun j => D.tup [nD ((cnt st w).getD j 0), .int (gt ws j)], []⟩ := by
    rw [← zip_int (e1 := nD) 0 (cnt_len st w) hl]
    rfl
  rw [WpS_cons]
  simp [-ss_cons, dVar, e1, ez]
  refine Wp.of_eq (comp_map (g := fun (j : Nat) => D.int (((cnt st w).getD j 0 : Int) * gt ws j)) (stays_nil _) (List.range st.length) [] (small (by simp; omega)) fun j hj => ⟨_, rfl, rfl, ?_⟩) ?_
  · have := cnt_le st w j
    have e := b_mul (S := S) ((cnt st w).getD j 0 : Int) (gt ws j) (mulOk_l (by omega) (by omega))
    simp only [nD]
    simp [dVar]
    simpa using e
  rw [List.nil_append]
  refine ⟨small (by simp; omega), ?_⟩
  rw [p_sum_tab]
  simp [sumOf]
theorem s_fallsby (st : List So) (ws : List Int) (r : Ru) (hl : ws.length = st.length) (h1 : st.length ≤ 1000) (h2 : r.a.bs.length ≤ 1000) (h3 : r.b.bs.length ≤ 1000) :
    cl (n + 3) 25 [encSt st, encR r, iT ws] S = .ok (.bl (decide (sumOf st ws r.b < sumOf st ws r.a))) S := by
  have e1 := s_sumof (n := n) (S := S) st ws r.a hl h1 h2
  have e2 := s_sumof (n := n) (S := S) st ws r.b hl h1 h3
  simp only [cl] at e1 e2
  refine eqn (Wp_call (F := f25) rfl rfl ?_)
  unfold f25
  rw [WpS_cons]
  simp [-ss_cons, dVar, ix_r0, ix_r1, e1, e2, c_gt]
theorem s_allfall (st : List So) (rs : List Ru) (ws : List Int) (h : BkOk st rs) (hl : ws.length = st.length) (hw : ∀ w ∈ ws, 0 ≤ w) :
    cl (n + 10) 26 [encBk st rs, iT ws] S = .ok (.bl (rs.all fun r => decide (sumOf st ws r.b < sumOf st ws r.a))) S := by
  have hst := h.so.l12
  have e1 := s_check (n := n) (S := S) st rs h
  have e2 := s_checkw (n := n + 7) (S := S) st ws hl (by omega) hw
  simp only [cl] at e1 e2
  have i0 : ∀ S, Pw.index S (encBk st rs) (.int 0) = some (encSt st) := fun _ => rfl
  have i1 : ∀ S, Pw.index S (encBk st rs) (.int 1) = some (.tup (rs.map encR)) := fun _ => rfl
  refine eqn (Wp_call (F := f26) rfl rfl ?_)
  unfold f26
  rw [WpS_cons]
  simp [-ss_cons, dVar, e1]
  rw [WpS_cons]
  simp [-ss_cons, dVar, i0, e2]
  rw [WpS_cons]
  simp [-ss_cons, dVar, i1]
  have h8 := h.l8
  refine Wp.of_eq (comp_map (enc := encR) (g := fun r => D.bl (decide (sumOf st ws r.b < sumOf st ws r.a))) (stays_nil _) rs [] (small (by simp; omega)) fun r hr => ⟨_, rfl, rfl, ?_⟩) ?_
  · have hro := h.rs r hr
    have e := s_fallsby (n := n + 6) (S := S) st ws r hl (by omega) hro.a.bl hro.b.bl
    simp only [cl] at e
    simp [dVar, i0, e]
  rw [List.nil_append]
  refine ⟨small (by simp; omega), ?_⟩
  rw [prim_all]
  simp
theorem s_losses (st : List So) (rs : List Ru) (h1 : st.length ≤ 1000) (h2 : rs.length ≤ 1000) (h : ∀ r ∈ rs, r.a.bs.length ≤ 1000 ∧ r.b.bs.length ≤ 1000) :
    cl (n + 2) 27 [encBk st rs] S = .ok (.lst ((rs.map (loss st)).map iL)) S := by
  have i0 : ∀ S, Pw.index S (encBk st rs) (.int 0) = some (encSt st) := fun _ => rfl
  have i1 : ∀ S, Pw.index S (encBk st rs) (.int 1) = some (.tup (rs.map encR)) := fun _ => rfl
  refine eqn (Wp_call (F := f27) rfl rfl ?_)
  unfold f27
  rw [WpS_cons]
  simp [-ss_cons, dVar, sizeLine_eq]
  rw [WpS_cons]
  simp [-ss_cons, dVar, i1]
  refine WpS_for (fun i e S' => FrG (fun _ => False) S S' ∧ S'[S.length]? = some (.lst (((rs.take i).map (loss st)).map iL)) ∧ ∃ x y z, e = [some (encBk st rs), some (.ref S.length), x, y, z]) rs 0 _ _ ⟨FrG.push _, by simp, none, none, none, rfl⟩ ?_ ?_
  · rintro j e S' hj ⟨hf, hn, x, y, z, rfl⟩
    refine ⟨stays_nil _, _, rfl, ?_⟩
    simp only [Nat.zero_add] at hn ⊢
    have hr := h _ (List.getElem_mem hj)
    have ht : rs.take (j + 1) = rs.take j ++ [rs[j]] := by rw [List.take_succ, List.getElem?_eq_getElem hj]; rfl
    rw [ht]
    have hlt := (List.getElem?_eq_some_iff.mp hn).1
    have hle : (rs.take j).length ≤ 1000 := by rw [List.length_take]; omega
    generalize rs[j] = r at hr
    generalize rs.take j = done at hn hle
    have e1 := s_counts (n := n) (S := S') st r.a h1 hr.1
    have e2 := s_counts (n := n) (S := S') st r.b h1 hr.2
    simp only [cl] at e1 e2
    have ez : srcZip S' (.lst ((cnt st r.a).map nD)) (.lst ((cnt st r.b).map nD)) = some ⟨(List.range st.length).map fun j => D.tup [nD ((cnt st r.a).getD j 0), nD ((cnt st r.b).getD j 0)], []⟩ := by
      rw [← zip_get (e1 := nD) (e2 := nD) 0 0 (cnt_len st r.a) (cnt_len st r.b)]
      rfl
    rw [WpS_cons]
    simp [-ss_cons, dVar, kd_refl hn, Pr.kindOk, i0, ix_r0, ix_r1, e1, e2, ez]
    refine Wp.of_eq (comp_map (g := fun (j : Nat) => D.int (((cnt st r.a).getD j 0 : Int) - ((cnt st r.b).getD j 0 : Int))) (stays_nil _) (List.range st.length) [] (small (by simp; omega)) fun j hj => ⟨_, rfl, rfl, ?_⟩) ?_
    · simp [dVar, nD, b_sub]
    rw [List.nil_append]
    refine ⟨small (by simp; omega), ?_⟩
    simp only [kd_refl hn, if_true]
    rw [p_app hn (by rw [sizeLine_eq]; simp; omega)]
    simp [-ss_cons]
    refine ⟨hf.setNew (Nat.le_refl _), ?_⟩
    rw [List.getElem?_set_self hlt]
    simp [loss, iL, tab]
  · rintro e S' ⟨hf, hn, x, y, z, rfl⟩
    refine ⟨stays_nil _, ?_⟩
    rw [Nat.zero_add, List.take_of_length_le (Nat.le_refl _)] at hn
    rw [WpS_cons]
    simp [-ss_cons, dVar]
    refine Wp_closeN hf (List.getElem?_eq_some_iff.mp hn).1 (frz_ref (Nat.le_refl _) hn (pures_map pure_iL _)) ⟨by simp, rfl⟩
end
end Pw.Lw

set_option Elab.async false
set_option linter.all false
set_option maxRecDepth 100000
set_option maxHeartbeats 1000000
namespace Pw.Lw
open PySem PySem.Spec PyProof.Rows L2 Pw
section
variable {n : Nat} {S : Sto}
def RB (row : List Int) : Prop := ∀ j, -1000000 ≤ gt row j ∧ gt row j ≤ 1000000
theorem s_mostof (m : Nat) (row lo hi : List Int) (h0 : row.length = m) (h1 : lo.length = m) (h2 : hi.length = m) (hm : m ≤ 1000) (hr : RB row) :
    cl (n + 1) 28 [iL row, iL lo, iL hi] S = .ok (.int (most m (gt row) (gt lo) (gt hi))) S := by
  refine eqn (Wp_call (F := f28) rfl rfl ?_)
  unfold f28
  have ez : srcZip3 S (iL row) (iL lo) (iL hi) = some ⟨(List.range m).map fun j => D.tup [.int (gt row j), .int (gt lo j), .int (gt hi j)], []⟩ := by
    rw [← zip3_int h0 h1 h2]
    rfl
  rw [WpS_cons]
  simp [-ss_cons, dVar, ez]
  refine Wp.of_eq (comp_map (g := fun (j : Nat) => D.int (mx (gt row j * gt lo j) (gt row j * gt hi j))) (stays_nil _) (List.range m) [] (small (by simp; omega)) fun j hj => ⟨_, rfl, rfl, ?_⟩) ?_
  · have hb := hr j
    have e1 := b_mul (S := S) (gt row j) (gt lo j) (mulOk_l (by omega) (by omega))
    have e2 := b_mul (S := S) (gt row j) (gt hi j) (mulOk_l (by omega) (by omega))
    simp [dVar, e1, e2, p_mx, mx]
  rw [List.nil_append]
  refine ⟨small (by simp; omega), ?_⟩
  rw [p_sum_tab]
  simp [most]
def encN (a b : List Int) : D := .tup [iL a, iL b]
theorem s_narrowed (m : Nat) (row lo hi : List Int) (h0 : row.length = m) (h1 : lo.length = m) (h2 : hi.length = m) (hm : m ≤ 1000) (hr : RB row) :
    cl (n + 2) 29 [iL row, iL lo, iL hi] S = .ok (if most m (gt row) (gt lo) (gt hi) < 1 then .non else encN (nlos m row lo hi) (nhis m row lo hi)) S := by
  have e1 := s_mostof (n := n) (S := S) m row lo hi h0 h1 h2 hm hr
  simp only [cl] at e1
  refine eqn (Wp_call (F := f29) rfl rfl ?_)
  unfold f29
  rw [WpS_cons]
  simp [-ss_cons, dVar, e1]
  rw [WpS_cons]
  unfold nlos nhis
  generalize most m (gt row) (gt lo) (gt hi) = M
  by_cases hM : M < 1
  · simp [-ss_cons, dVar, c_lt, hM]
    rw [WpS_cons]
    simp
  · have hL : ∀ (bx : Bool) (l : List Int) (S : Sto), prim .list bx [iL l] S = mkL bx (l.map .int) S := fun _ _ _ => rfl
    simp [-ss_cons, dVar, c_lt, hM]
    rw [WpS_cons]
    simp [-ss_cons, dVar, hL, sizeLine_eq]
    refine ⟨by omega, by omega, ?_⟩
    rw [WpS_cons]
    simp [-ss_cons, dVar, src1]
    have ee : srcEnum (S ++ [MO.lst (lo.map .int), MO.lst (hi.map .int)]) (iL row) = some ⟨(List.range m).map fun (j : Nat) => D.tup [.int (j : Int), .int (gt row j)], []⟩ := by
      show some (⟨enumD (row.map .int), []⟩ : Src) = _
      rw [enum_int h0]
    simp [-ss_cons, ee]
    refine WpS_for (fun i e S' => FrG (fun _ => False) S S' ∧ S'[S.length]? = some (.lst ((tab m fun j => if j < i then nlo (M - 1) (gt row j) (gt lo j) (gt hi j) else gt lo j).map .int)) ∧
      S'[S.length + 1]? = some (.lst ((tab m fun j => if j < i then nhi (M - 1) (gt row j) (gt lo j) (gt hi j) else gt hi j).map .int)) ∧
      ∃ x y z, e = [some (iL row), some (.ref S.length), some (.ref (S.length + 1)), some (.int M), x, y, z]) (List.range m) 0 _ _ ⟨⟨by simp, fun l hl _ => List.getElem?_append_left hl⟩, ?_, ?_, none, none, none, rfl⟩ ?_ ?_
    · rw [List.getElem?_append_right (Nat.le_refl _), Nat.sub_self]
      have := tab_eq h1
      simp only [Nat.not_lt_zero, if_false]
      rw [← this]; rfl
    · rw [List.getElem?_append_right (by omega)]
      have := tab_eq h2
      simp only [Nat.not_lt_zero, if_false]
      rw [← this]; simp
    · rintro i e S' hi' ⟨hf, ha, hb, x, y, z, rfl⟩
      refine ⟨stays_nil _, _, rfl, ?_⟩
      simp at hi'
      simp only [Nat.zero_add] at ha hb ⊢
      simp [-ss_cons]
      have hri := hr i
      have hlt0 := (List.getElem?_eq_some_iff.mp ha).1
      have hlt1 := (List.getElem?_eq_some_iff.mp hb).1
      have xa := ix_iR (k := i) ha (by simpa using hi')
      have xb := ix_iR (k := i) hb (by simpa using hi')
      rw [tab_getD hi'] at xa xb
      simp only [Nat.lt_irrefl, if_false] at xa xb
      rw [WpS_cons]
      simp [-ss_cons, dVar, b_sub]
      by_cases hp : 0 < gt row i
      · have ed := b_fdiv (S := S') (bx := false) (M - 1) (gt row i) hp (by omega)
        have stepA : (tab m fun j => if j < i then nlo (M - 1) (gt row j) (gt lo j) (gt hi j) else gt lo j).set i (mx (gt lo i) (gt hi i - (M - 1) / gt row i)) = tab m fun j => if j < i + 1 then nlo (M - 1) (gt row j) (gt lo j) (gt hi j) else gt lo j := by
          rw [← tab_set (i := i) (f := fun j => if j < i then nlo (M - 1) (gt row j) (gt lo j) (gt hi j) else gt lo j) (g := fun j => if j < i + 1 then nlo (M - 1) (gt row j) (gt lo j) (gt hi j) else gt lo j)]
          · congr 1
            simp [nlo, mx, hp]
          · intro j hj
            by_cases q : j < i
            · simp [q, Nat.lt_succ_of_lt q]
            · simp [q, show ¬ j < i + 1 by omega]
        have stepB : (tab m fun j => if j < i + 1 then nhi (M - 1) (gt row j) (gt lo j) (gt hi j) else gt hi j) = tab m fun j => if j < i then nhi (M - 1) (gt row j) (gt lo j) (gt hi j) else gt hi j := by
          apply tab_congr
          intro j hj
          by_cases q : j < i
          · simp [q, Nat.lt_succ_of_lt q]
          · by_cases q2 : j = i
            · subst q2
              simp [nhi, show ¬ gt row j < 0 by omega]
            · simp [q, show ¬ j < i + 1 by omega]
        rw [WpS_cons]
        have es := setItem_i (v := mx (gt lo i) (gt hi i - (M - 1) / gt row i)) ha (k := i) (by simpa using hi')
        rw [stepA] at es
        rw [← stepB] at hb
        generalize gt row i = r at *
        simp [-ss_cons, dVar, c_gt, hp]
        rw [WpS_cons]
        simp [-ss_cons, dVar, xa, xb, ed, b_sub, p_mx]
        simp only [mx] at es
        simp [-ss_cons, es]
        rw [WpS_cons]
        simp [-ss_cons, dVar, c_lt, show ¬ r < 0 by omega]
        exact ⟨hf.setNew (Nat.le_refl _), by rw [List.getElem?_set_self hlt0], hb⟩
      · have stepA : (tab m fun j => if j < i + 1 then nlo (M - 1) (gt row j) (gt lo j) (gt hi j) else gt lo j) = tab m fun j => if j < i then nlo (M - 1) (gt row j) (gt lo j) (gt hi j) else gt lo j := by
          apply tab_congr
          intro j hj
          by_cases q : j < i
          · simp [q, Nat.lt_succ_of_lt q]
          · by_cases q2 : j = i
            · subst q2
              simp [nlo, hp]
            · simp [q, show ¬ j < i + 1 by omega]
        rw [← stepA] at ha
        by_cases hn : gt row i < 0
        · have ed := b_fdiv (S := S') (bx := false) (M - 1) (-(gt row i)) (by omega) (by omega)
          have stepB : (tab m fun j => if j < i then nhi (M - 1) (gt row j) (gt lo j) (gt hi j) else gt hi j).set i (if gt lo i + (M - 1) / (-(gt row i)) < gt hi i then gt lo i + (M - 1) / (-(gt row i)) else gt hi i) = tab m fun j => if j < i + 1 then nhi (M - 1) (gt row j) (gt lo j) (gt hi j) else gt hi j := by
            rw [← tab_set (i := i) (f := fun j => if j < i then nhi (M - 1) (gt row j) (gt lo j) (gt hi j) else gt hi j) (g := fun j => if j < i + 1 then nhi (M - 1) (gt row j) (gt lo j) (gt hi j) else gt hi j)]
            · congr 1
              simp [nhi, hn]
            · intro j hj
              by_cases q : j < i
              · simp [q, Nat.lt_succ_of_lt q]
              · simp [q, show ¬ j < i + 1 by omega]
          have es := setItem_i (v := if gt lo i + (M - 1) / (-(gt row i)) < gt hi i then gt lo i + (M - 1) / (-(gt row i)) else gt hi i) hb (k := i) (by simpa using hi')
          rw [stepB] at es
          generalize gt row i = r at *
          obtain ⟨q, hq⟩ : ∃ q, -r = q := ⟨_, rfl⟩
          rw [hq] at ed es
          rw [WpS_cons]
          simp [-ss_cons, dVar, c_gt, hp]
          rw [WpS_cons]
          simp [-ss_cons, dVar, c_lt, hn]
          rw [WpS_cons]
          simp [-ss_cons, dVar, xa, xb, ed, b_add, p_mn, dNeg, hq, es]
          exact ⟨hf.setNew (by omega), ha, by rw [List.getElem?_set_self hlt1]⟩
        · have stepB : (tab m fun j => if j < i + 1 then nhi (M - 1) (gt row j) (gt lo j) (gt hi j) else gt hi j) = tab m fun j => if j < i then nhi (M - 1) (gt row j) (gt lo j) (gt hi j) else gt hi j := by
            apply tab_congr
            intro j hj
            by_cases q : j < i
            · simp [q, Nat.lt_succ_of_lt q]
            · by_cases q2 : j = i
              · subst q2
                simp [nhi, hn]
              · simp [q, show ¬ j < i + 1 by omega]
          rw [← stepB] at hb
          generalize gt row i = r at *
          rw [WpS_cons]
          simp [-ss_cons, dVar, c_gt, hp]
          rw [WpS_cons]
          simp [-ss_cons, dVar, c_lt, hn]
          exact ⟨hf, ha, hb⟩
    · rintro e S' ⟨hf, ha, hb, x, y, z, rfl⟩
      refine ⟨stays_nil _, ?_⟩
      simp only [Nat.zero_add, List.length_range] at ha hb
      have ea : (tab m fun j => if j < m then nlo (M - 1) (gt row j) (gt lo j) (gt hi j) else gt lo j) = tab m fun j => nlo (M - 1) (gt row j) (gt lo j) (gt hi j) := tab_congr fun j hj => by rw [if_pos hj]
      have eb : (tab m fun j => if j < m then nhi (M - 1) (gt row j) (gt lo j) (gt hi j) else gt hi j) = tab m fun j => nhi (M - 1) (gt row j) (gt lo j) (gt hi j) := tab_congr fun j hj => by rw [if_pos hj]
      rw [ea] at ha
      rw [eb] at hb
      rw [WpS_cons]
      simp [-ss_cons, dVar, sizeLine_eq]
      have hlt0 := (List.getElem?_eq_some_iff.mp ha).1
      refine Wp_closeN hf hlt0 (frz_tup2 (frz_ref (Nat.le_refl _) ha (pure_iL _)) (frz_ref (Nat.le_succ _) hb (pure_iL _))) ⟨rfl, rfl⟩
end
end Pw.Lw

set_option Elab.async false
set_option linter.all false
set_option maxRecDepth 100000
set_option maxHeartbeats 1000000
namespace Pw.Lw
open PySem PySem.Spec PyProof.Rows L2 Pw
section
variable {n : Nat} {S : Sto}
def encO : Option (List Int × List Int) → D
  | none => .non
  | some (a, b) => encN a b
theorem nb_encN (a b : List Int) : D.nb (encN a b) = true := by
  simp [encN, D.nb, D.nbs, nb_iL]
theorem dep_encN (a b : List Int) : D.dep (encN a b) ≤ 2 := by
  have := dep_iL a
  have := dep_iL b
  simp [encN, D.dep, D.deps]
  omega
theorem encN_inj {a b c d : List Int} (h : encN a b = encN c d) : a = c ∧ b = d := by
  injection h with h
  injection h with h1 h2
  injection h2 with h2
  exact ⟨iL_inj h1, iL_inj h2⟩
theorem pure_encN (a b : List Int) : D.pure (encN a b) = true := by
  simp [encN, D.pure, D.pures, pure_iL]
structure RowsOk (m : Nat) (rows : List (List Int)) : Prop where
  mle : m ≤ 1000
  len : ∀ row ∈ rows, row.length = m
  rb : ∀ row ∈ rows, RB row
open Classical in
theorem s_drawn (m : Nat) (rows : List (List Int)) (hR : RowsOk m rows) (lo hi : List Int) (h1 : lo.length = m) (h2 : hi.length = m) (hlh : ∀ j, j < m → gt lo j ≤ gt hi j) :
    ∃ r, cl (n + 3) 30 [.lst (rows.map iL), iL lo, iL hi] S = .ok (encO r) S ∧ Drawn m rows lo hi r := by
  have main : Wp (cl (n + 3) 30 [.lst (rows.map iL), iL lo, iL hi] S) (fun d S' => S' = S ∧ ∃ r, d = encO r ∧ Drawn m rows lo hi r) NoX := by
    refine Wp_call (F := f30) rfl rfl ?_
    unfold f30
    rw [WpS_cons]
    simp [-ss_cons, dVar]
    rw [WpS_cons, s_while]
    have hL : ∀ (l : List Int) (S : Sto), prim .list false [iL l] S = mkL false (l.map .int) S := fun _ _ => rfl
    refine WpS_while (fun μ e S' => S' = S ∧ ∃ a b x y ah, e = [some (.lst (rows.map iL)), some (iL a), some (iL b), some ah, x, y] ∧ Bd m rows lo hi a b ∧
      ((ah = .non ∧ μ = 2 * mu m a b + 1) ∨ (ah = encN a b ∧ μ = 2 * mu m a b ∧ ∀ row ∈ rows, 1 ≤ most m (gt row) (gt a) (gt b)) ∨ (∃ c d, ah = encN c d ∧ ¬ (c = a ∧ d = b) ∧ μ = 2 * mu m a b + 1))) ?_ (2 * mu m lo hi + 1) _ _ ⟨rfl, lo, hi, none, none, .non, rfl, Bd.refl h1 h2 hlh, .inl ⟨rfl, rfl⟩⟩
    rintro μ e S' ⟨rfl, a, b, x, y, ah, rfl, hB, hah⟩
    have hne : cmpop .ne ah (.tup [iL a, iL b]) S' = some (!decide (ah = encN a b)) := by
      refine c_ned ?_ (nb_encN a b) ?_
      · rcases hah with ⟨rfl, _⟩ | ⟨rfl, _⟩ | ⟨c, d, rfl, _⟩
        · rfl
        · exact nb_encN _ _
        · exact nb_encN _ _
      · rcases hah with ⟨rfl, _⟩ | ⟨rfl, _⟩ | ⟨c, d, rfl, _⟩
        · decide
        · exact Nat.le_trans (dep_encN _ _) (by decide)
        · exact Nat.le_trans (dep_encN _ _) (by decide)
    by_cases heq : ah = encN a b
    · have hmost : ∀ row ∈ rows, 1 ≤ most m (gt row) (gt a) (gt b) := by
        rcases hah with ⟨rfl, _⟩ | ⟨_, _, h⟩ | ⟨c, d, h, hc, _⟩
        · cases heq
        · exact h
        · rw [h] at heq
          exact absurd (encN_inj heq) hc
      subst heq
      simp [-ss_cons, dVar, sizeLine_eq, hne]
      rw [WpS_cons]
      simp [-ss_cons, dVar, sizeLine_eq]
      exact ⟨some (a, b), rfl, hB, hmost⟩
    · have hμ : μ = 2 * mu m a b + 1 := by
        rcases hah with ⟨_, h⟩ | ⟨h, _⟩ | ⟨c, d, _, _, h⟩
        · exact h
        · exact absurd h heq
        · exact h
      simp [-ss_cons, dVar, sizeLine_eq, hne, heq]
      have hla : a.length ≤ 1000 := by rw [hB.la]; exact hR.mle
      have hlb : b.length ≤ 1000 := by rw [hB.lb]; exact hR.mle
      rw [WpS_cons]
      simp [-ss_cons, dVar, hL, sizeLine_eq]
      refine ⟨by omega, by omega, ?_⟩
      rw [WpS_cons]
      simp [-ss_cons, dVar]
      refine WpS_for (enc := iL) (fun i e S2 => S2 = S' ∧ ∃ a' b' x y, e = [some (.lst (rows.map iL)), some (iL a'), some (iL b'), some (encN a b), x, y] ∧ Bd m rows lo hi a' b' ∧
        (∀ j, j < m → gt a j ≤ gt a' j ∧ gt b' j ≤ gt b j) ∧ ((a' = a ∧ b' = b) → ∀ row ∈ rows.take i, 1 ≤ most m (gt row) (gt a) (gt b))) rows 0 _ _ ⟨rfl, a, b, x, y, rfl, hB, fun j hj => ⟨Int.le_refl _, Int.le_refl _⟩, by simp⟩ ?_ ?_
      · rintro i e S2 hi' ⟨rfl, a', b', x, y, rfl, hB', hin, hfix⟩
        refine ⟨stays_nil _, _, rfl, ?_⟩
        simp only [Nat.zero_add] at hfix ⊢
        have hm := List.getElem_mem hi'
        have ht : rows.take (i + 1) = rows.take i ++ [rows[i]] := by rw [List.take_succ, List.getElem?_eq_getElem hi']; rfl
        rw [ht]
        generalize rows[i] = row at hm
        have e1 := s_narrowed (n := n) (S := S2) m row a' b' (hR.len row hm) hB'.la hB'.lb hR.mle (hR.rb row hm)
        simp only [cl] at e1
        rw [WpS_cons]
        simp [-ss_cons, dVar, e1]
        by_cases hM : most m (gt row) (gt a') (gt b') < 1
        · rw [WpS_cons]
          simp [-ss_cons, dVar, hM, isop]
          rw [WpS_cons]
          simp [-ss_cons, dVar]
          exact ⟨none, rfl, hB'.none hm hM⟩
        · rw [WpS_cons]
          simp [-ss_cons, dVar, hM, isop, encN]
          rw [WpS_cons]
          simp [-ss_cons, dVar]
          refine ⟨_, _, ⟨rfl, rfl⟩, hB'.step hm hM, fun j hj => ?_, ?_⟩
          · have q1 := step_in (m := m) row a' b' hj
            have q2 := hin j hj
            omega
          · rintro q1 q2
            have hsame : a' = a ∧ b' = b := by
              refine ⟨tab_ext hB'.la hB.la fun j hj => ?_, tab_ext hB'.lb hB.lb fun j hj => ?_⟩
              · have w1 := step_in (m := m) row a' b' hj
                have w2 := hin j hj
                rw [q1] at w1
                omega
              · have w1 := step_in (m := m) row a' b' hj
                have w2 := hin j hj
                rw [q2] at w1
                omega
            intro r hr
            rcases hr with hr | hr
            · exact hfix hsame r hr
            · subst hr
              rw [hsame.1, hsame.2] at hM
              omega
      · rintro e S2 ⟨rfl, a', b', x, y, rfl, hB', hin, hfix⟩
        refine ⟨stays_nil _, ?_⟩
        simp only [Nat.zero_add, List.take_length] at hfix
        by_cases hs : a' = a ∧ b' = b
        · obtain ⟨rfl, rfl⟩ := hs
          exact ⟨2 * mu m a' b', by omega, rfl, a', b', x, y, _, rfl, hB', .inr (.inl ⟨rfl, rfl, hfix ⟨rfl, rfl⟩⟩)⟩
        · have := mu_lt hB hB' hin hs
          exact ⟨2 * mu m a' b' + 1, by omega, rfl, a', b', x, y, _, rfl, hB', .inr (.inr ⟨a, b, rfl, fun q1 q2 => hs ⟨q1.symm, q2.symm⟩, rfl⟩)⟩
  obtain ⟨d, S', e, rfl, r, rfl, h⟩ := Wp.ex main
  exact ⟨r, e, h⟩
end
end Pw.Lw

set_option Elab.async false
set_option linter.all false
set_option maxRecDepth 100000
set_option maxHeartbeats 1000000
namespace Pw.Lw
open PySem PySem.Spec PyProof.Rows L2 Pw
section
variable {S : Sto}
def encT : Option (List Int) → D
  | none => .non
  | some w => iT w
theorem cut_from1 (xs : List D) (k : Nat) : cutD xs (some ((k : Int) + 1)) none = xs.drop (k + 1) := cut_from xs (k + 1)
theorem cut_set (a : List Int) (k : Nat) (v : Int) (hk : k < a.length) : (a.map D.int).take k ++ D.int v :: (a.map D.int).drop (k + 1) = (a.set k v).map .int := by
  rw [List.set_eq_take_append_cons_drop, if_pos hk, List.map_append, List.map_cons, List.map_take, List.map_drop]
theorem rng2 {i j : Int} (h1 : -(2 ^ 62) ≤ i) (h2 : i < 2 ^ 62) (h3 : -(2 ^ 62) ≤ j) (h4 : j < 2 ^ 62) : (rangeOf 2 [D.int i, D.int j]).map (fun q => (⟨rangeD q.1 q.2, []⟩ : Src)) = some ⟨(List.range (j - i).toNat).map fun (k : Nat) => D.int (i + (k : Int)), []⟩ := by
  simp only [rangeOf, h1, h2, h3, h4, and_self, if_true, Option.map_some]
  rfl
theorem least_step {m : Nat} {rows : List (List Int)} (hR : RowsOk m rows) (n : Nat) (lo hi : List Int) (h1 : lo.length = m) (h2 : hi.length = m) (hb : ∀ j, j < m → 0 ≤ gt lo j ∧ gt lo j ≤ gt hi j ∧ gt hi j ≤ 1000)
    (hrec : ∀ a b k ks v, Bd m rows lo hi a b → opn m a b = k :: ks → gt a k ≤ v → v ≤ gt b k → ∃ r, cl (n + 3) 31 [.lst (rows.map iL), iL (a.set k v), iL (b.set k v)] S = .ok (encT r) S ∧ IsLeast m rows (a.set k v) (b.set k v) r) :
    ∃ r, cl (n + 4) 31 [.lst (rows.map iL), iL lo, iL hi] S = .ok (encT r) S ∧ IsLeast m rows lo hi r := by
  obtain ⟨r, e1, hD⟩ := s_drawn (n := n) (S := S) m rows hR lo hi h1 h2 fun j hj => (hb j hj).2.1
  simp only [cl] at e1
  have main : Wp (cl (n + 4) 31 [.lst (rows.map iL), iL lo, iL hi] S) (fun d S' => S' = S ∧ ∃ r, d = encT r ∧ IsLeast m rows lo hi r) NoX := by
    refine Wp_call (F := f31) rfl rfl ?_
    unfold f31
    rw [WpS_cons]
    simp [-ss_cons, dVar, e1]
    cases r with
    | none =>
      rw [WpS_cons]
      simp [-ss_cons, dVar, encO, isop]
      rw [WpS_cons]
      simp [-ss_cons, dVar]
      exact ⟨none, rfl, hD⟩
    | some q =>
      obtain ⟨a, b⟩ := q
      have hB := hD.1
      have hm := hR.mle
      rw [WpS_cons]
      simp [-ss_cons, dVar, encO, isop, encN]
      rw [WpS_cons]
      simp [-ss_cons, dVar]
      rw [WpS_cons]
      have eL : ∀ (l : List Int) (S : Sto), prim .len false [iL l] S = .ok (.int l.length) S := fun l S => by
        rw [iL, lLst, List.length_map]
      simp [-ss_cons, dVar, eL, hB.la]
      rw [rng1 (j := (m : Int)) (by omega) (by omega)]
      simp [-ss_cons]
      refine Wp.of_eq (comp_filter (enc := fun (k : Nat) => D.int (k : Int)) (g := nD) (p := fun k => decide (gt a k < gt b k)) (stays_nil _) (List.range m) [] (small (by simp; omega)) fun k hk => ⟨_, rfl, ?_, fun _ => by simp [dVar]⟩) ?_
      · have hk := List.mem_range.mp hk
        have x1 := ix_iL (S := S) (l := a) (k := k) (by rw [hB.la]; exact hk)
        have x2 := ix_iL (S := S) (l := b) (k := k) (by rw [hB.lb]; exact hk)
        simp [tt_some, dVar, x1, x2, c_lt]
      rw [List.nil_append]
      have hol : (opn m a b).length ≤ 1000 := by
        have := List.length_filter_le (fun k => decide (gt a k < gt b k)) (List.range m)
        rw [List.length_range] at this
        unfold opn
        omega
      refine ⟨small (by rw [List.length_map]; show (opn m a b).length ≤ _; omega), ?_⟩
      show WpS (denSs _ _ _ [_, some (iL a), some (iL b), _, _, some (.lst ((opn m a b).map nD)), _, _] _) _ _ _
      have ceq : cmpop .eq (.lst ((opn m a b).map nD)) (.lst []) S = some (decide (opn m a b = [])) := by
        have := c_eqd (S := S) (a := .lst ((opn m a b).map nD)) (b := .lst []) (nb_nT _) rfl (by
          have : D.deps ((opn m a b).map nD) ≤ 0 := deps_map (g := nD) (fun _ => Nat.le_refl 0) _
          show D.deps _ + 1 ≤ 60
          omega)
        rw [this]
        congr 1
        simp
      cases ho : opn m a b with
      | nil =>
        rw [ho] at ceq
        have hc := Drawn.closed hD (opn_nil hB ho)
        have eT : ∀ (l : List Int) (S : Sto), prim .tuple false [iL l] S = .ok (iT l) S := fun _ _ => rfl
        rw [WpS_cons]
        simp at ceq
        simp [-ss_cons, dVar, ceq]
        rw [WpS_cons]
        simp [-ss_cons, dVar, eT]
        exact ⟨some a, rfl, hc.1, fun v hv => .inl (hc.2 v hv).symm⟩
      | cons k ks =>
        rw [ho] at ceq
        obtain ⟨hp, hk, hbef⟩ := filter_head ho
        have hka := hB.in_ k hk
        have hbk := hb k hk
        rw [WpS_cons]
        simp at ceq
        simp [-ss_cons, dVar, ceq]
        have x0 : Pw.index S (.lst (.int (k : Int) :: ks.map nD)) (.int 0) = some (.int (k : Int)) := by
          have := (Sq.lst (S := S) (D.int (k : Int) :: ks.map nD)).ix (k := 0) (by simp)
          simpa using this
        rw [WpS_cons]
        simp [-ss_cons, dVar, x0]
        have x1 := ix_iL (S := S) (l := a) (k := k) (by rw [hB.la]; exact hk)
        have x2 := ix_iL (S := S) (l := b) (k := k) (by rw [hB.lb]; exact hk)
        rw [WpS_cons]
        simp [-ss_cons, dVar, x1, x2, b_add]
        rw [rng2 (by omega) (by omega) (by omega) (by omega)]
        simp [-ss_cons]
        refine WpS_for (fun i e S' => S' = S ∧ (∃ z6 z7, e = [some (.lst (rows.map iL)), some (iL a), some (iL b), some (.tup [iL a, iL b]), some (.int (k : Int)), some (.lst (.int (k : Int) :: ks.map nD)), z6, z7]) ∧ ∀ w, Sol m rows a b w → gt a k + (i : Int) ≤ gt w k) (List.range (gt b k + 1 - gt a k).toNat) 0 _ _ ⟨rfl, ⟨none, none, rfl⟩, fun w hw => by have := hw.btw k hk; omega⟩ ?_ ?_
        · rintro i e S' hi' ⟨rfl, ⟨z6, z7, rfl⟩, hno⟩
          refine ⟨stays_nil _, _, rfl, ?_⟩
          simp at hi'
          simp only [Nat.zero_add] at hno ⊢
          obtain ⟨r, e2, hr⟩ := hrec a b k ks (gt a k + (i : Int)) hB ho (by omega) (by omega)
          simp only [cl] at e2
          have eSl : ∀ (l : List Int) (x y : Option Int) (S : Sto), slice false (iL l) x y S = mkL false (cutD (l.map .int) x y) S := fun _ _ _ _ => rfl
          have hla : a.length ≤ 1000 := by rw [hB.la]; exact hm
          have hlb : b.length ≤ 1000 := by rw [hB.lb]; exact hm
          rw [WpS_cons]
          simp [-ss_cons, dVar, eSl, cut_to, cut_from1, b_add, b_addl, sizeLine_eq]
          refine ⟨by omega, by omega, by omega, by omega, by omega, by omega, by omega, by omega, ?_⟩
          rw [cut_set a k _ (by rw [hB.la]; exact hk), cut_set b k _ (by rw [hB.lb]; exact hk)]
          refine Wp.of_eq e2 ?_
          cases r with
          | none =>
            rw [WpS_cons]
            simp [-ss_cons, dVar, encT, isop]
            intro w hw
            have h5 := hno w hw
            by_cases q : gt w k = gt a k + (i : Int)
            · have := hw.set (k := k) hB.la hB.lb hk
              rw [q] at this
              exact absurd this (hr w)
            · omega
          | some w =>
            rw [WpS_cons]
            simp [-ss_cons, dVar, encT, iT, isop]
            rw [WpS_cons]
            simp [-ss_cons, dVar]
            exact ⟨some w, rfl, IsLeast.first hB ho (by omega) (by omega) hno hr⟩
        · rintro e S' ⟨rfl, ⟨z6, z7, rfl⟩, hno⟩
          refine ⟨stays_nil _, ?_⟩
          rw [WpS_cons]
          simp [-ss_cons, dVar]
          refine ⟨none, rfl, fun w hw => ?_⟩
          have hw := hB.sol w hw
          have h1 := hno w hw
          have h2 := hw.btw k hk
          simp at h1
          omega
  obtain ⟨d, S', e, rfl, r, rfl, h⟩ := Wp.ex main
  exact ⟨r, e, h⟩
theorem s_least {m : Nat} {rows : List (List Int)} (hR : RowsOk m rows) : ∀ (d n : Nat) (lo hi : List Int), lo.length = m → hi.length = m → (∀ j, j < m → 0 ≤ gt lo j ∧ gt lo j ≤ gt hi j ∧ gt hi j ≤ 1000) → (opn m lo hi).length ≤ d →
    ∃ r, cl (n + d + 4) 31 [.lst (rows.map iL), iL lo, iL hi] S = .ok (encT r) S ∧ IsLeast m rows lo hi r := by
  intro d
  induction d with
  | zero =>
    intro n lo hi h1 h2 hb ho
    refine least_step hR (n + 0) lo hi h1 h2 hb fun a b k ks v hB hk _ _ => ?_
    have := opn_le hB
    rw [hk, List.length_cons] at this
    omega
  | succ d ih =>
    intro n lo hi h1 h2 hb ho
    refine least_step hR (n + (d + 1)) lo hi h1 h2 hb fun a b k ks v hB hk hv1 hv2 => ?_
    have h3 := opn_le hB
    obtain ⟨hp, hkm, hbef⟩ := filter_head hk
    have h4 := opn_set hB.la hB.lb hkm (by simpa using hp) v
    refine ih n (a.set k v) (b.set k v) (by simp [hB.la]) (by simp [hB.lb]) (fun j hj => ?_) (by omega)
    have q1 := hb j hj
    have q2 := hB.in_ j hj
    rw [gt_set j (by rw [hB.la]; exact hkm), gt_set j (by rw [hB.lb]; exact hkm)]
    have q3 := hb k hkm
    have q4 := hB.in_ k hkm
    split <;> omega
end
end Pw.Lw

set_option Elab.async false
set_option linter.all false
set_option maxRecDepth 100000
set_option maxHeartbeats 1000000
namespace Pw.Lw
open PySem PySem.Spec PyProof.Rows L2 Pw
def Least (st : List So) (rs : List Ru) (r : Option (List Int)) : Prop := IsLeast st.length (rs.map (loss st)) (z09 st.length 0) (z09 st.length 9) r
section
variable {n : Nat} {S : Sto}
theorem rep_mul (m : Nat) (x : Int) (h : m ≤ 1000) : binop .mul false (.lst [.int x]) (.int (m : Int)) S = .ok (iL (z09 m x)) S := by
  show bMul false S (.lst [.int x]) (.int (m : Int)) = _
  unfold bMul
  simp only
  rw [if_pos ⟨by omega, by omega, by simp⟩]
  unfold mkL
  have e : (List.replicate (m : Int).toNat [D.int x]).flatten = (z09 m x).map .int := by
    simp [z09]
  rw [e, if_pos (small (by rw [List.length_map, z09, List.length_replicate]; omega))]
  rfl
theorem loss_rb (st : List So) (r : Ru) (h1 : r.a.bs.length ≤ 1000) (h2 : r.b.bs.length ≤ 1000) : RB (loss st r) := by
  intro j
  by_cases hj : j < st.length
  · unfold loss
    rw [tab_getD hj]
    have := cnt_le st r.a j
    have := cnt_le st r.b j
    omega
  · have : gt (loss st r) j = 0 := by
      unfold gt
      rw [List.getD_eq_getElem?_getD, List.getElem?_eq_none (by simp [loss]; omega)]
      rfl
    omega
theorem s_weightsof (st : List So) (rs : List Ru) (h : BkOk st rs) : ∃ r, cl (n + 17) 32 [encBk st rs] S = .ok (encT r) S ∧ Least st rs r := by
  have hm := h.so.l12
  have h8 := h.l8
  have e1 := s_losses (n := n + 14) (S := S) st rs (by omega) (by omega) fun r hr => ⟨(h.rs r hr).a.bl, (h.rs r hr).b.bl⟩
  have hR : RowsOk st.length (rs.map (loss st)) := by
    refine ⟨by omega, fun row hr => ?_, fun row hr => ?_⟩
    · obtain ⟨r, _, rfl⟩ := List.mem_map.mp hr
      simp [loss]
    · obtain ⟨r, hr', rfl⟩ := List.mem_map.mp hr
      exact loss_rb st r (h.rs r hr').a.bl (h.rs r hr').b.bl
  have ho : (opn st.length (z09 st.length 0) (z09 st.length 9)).length ≤ 12 := by
    have := List.length_filter_le (fun k => decide (gt (z09 st.length 0) k < gt (z09 st.length 9) k)) (List.range st.length)
    rw [List.length_range] at this
    unfold opn
    omega
  obtain ⟨r, e2, hr⟩ := s_least (S := S) hR 12 n (z09 st.length 0) (z09 st.length 9) (by simp [z09]) (by simp [z09]) (fun j hj => by rw [gt_rep hj, gt_rep hj]; omega) ho
  refine ⟨r, ?_, hr⟩
  simp only [cl] at e1 e2
  refine eqn (Wp_call (F := f32) rfl rfl ?_)
  unfold f32
  have i0 : ∀ S, Pw.index S (encBk st rs) (.int 0) = some (encSt st) := fun _ => rfl
  have eL : prim .len false [encSt st] S = .ok (.int st.length) S := by rw [encSt, lTup, List.length_map]
  rw [WpS_cons]
  simp [-ss_cons, dVar, i0, eL]
  have r0 := rep_mul (S := S) st.length 0 (by omega)
  have r9 := rep_mul (S := S) st.length 9 (by omega)
  have e1' : callN Fs Gn (n + 16) 27 [encBk st rs] S = .ok (.lst ((rs.map (loss st)).map iL)) S := e1
  have e2' : callN Fs Gn (n + 16) 31 [.lst ((rs.map (loss st)).map iL), iL (z09 st.length 0), iL (z09 st.length 9)] S = .ok (encT r) S := e2
  simp only [List.map_map] at e1' e2'
  rw [WpS_cons]
  simp [-ss_cons, dVar, e1', r0, r9, e2', sizeLine_eq]
theorem s_falling (st : List So) (rs : List Ru) (h : BkOk st rs) : ∃ r, cl (n + 18) 33 [encBk st rs] S = .ok (encT r) S ∧ Least st rs r := by
  have e1 := s_check (n := n + 8) (S := S) st rs h
  obtain ⟨r, e2, hr⟩ := s_weightsof (n := n) (S := S) st rs h
  refine ⟨r, ?_, hr⟩
  simp only [cl] at e1 e2
  refine eqn (Wp_call (F := f33) rfl rfl ?_)
  unfold f33
  rw [WpS_cons]
  simp [-ss_cons, dVar, e1]
  rw [WpS_cons]
  simp [-ss_cons, dVar, e2]
end
end Pw.Lw

set_option Elab.async false
set_option linter.all false
set_option maxRecDepth 100000
set_option maxHeartbeats 1000000
namespace Pw.Lw
open PySem PySem.Spec PyProof.Rows L2 Pw
section
variable {n : Nat} {S : Sto}
theorem allT_take {m : Nat} {done rest : List (List Int)} : True := trivial
def ext (rs : List (List Int)) : List (List Int) := rs.flatMap fun r => (List.range 10).map fun (k : Nat) => r ++ [(k : Int)]
theorem ext_len : ∀ rs : List (List Int), (ext rs).length = 10 * rs.length
  | [] => rfl
  | r :: rs => by
    have := ext_len rs
    unfold ext at this ⊢
    rw [List.flatMap_cons, List.length_append, this, List.length_cons]
    simp
    omega
theorem ext_snoc (rs : List (List Int)) (r : List Int) : ext (rs ++ [r]) = ext rs ++ (List.range 10).map fun (k : Nat) => r ++ [(k : Int)] := by
  simp [ext]
theorem s_all (m : Nat) (h1 : 1 ≤ m) (h : m ≤ 4) : cl (n + 1) 49 [.int (m : Int)] S = .ok (.lst ((allT m).map iT)) S := by
  refine eqn (Wp_call (F := f49) rfl rfl ?_)
  unfold f49
  rw [WpS_cons]
  simp [-ss_cons, dVar, sizeLine_eq]
  rw [WpS_cons]
  simp [-ss_cons, dVar]
  rw [rng1 (j := (m : Int)) (by omega) (by omega)]
  simp [-ss_cons]
  refine WpS_for (fun i e S' => FrG (fun _ => False) S S' ∧ ∃ v1 x y z w, e = [some (.int (m : Int)), some v1, x, y, z, w] ∧ ((i = 0 ∧ v1 = .lst [.tup []]) ∨ ∃ l, S.length ≤ l ∧ v1 = .ref l ∧ S'[l]? = some (.lst ((allT i).map iT)))) (List.range m) 0 _ _ ⟨FrG.refl, _, none, none, none, none, rfl, .inl ⟨rfl, rfl⟩⟩ ?_ ?_
  · rintro i e S1 hi ⟨hf, v1, x, y, z, w, rfl, hv⟩
    refine ⟨stays_nil _, _, rfl, ?_⟩
    simp at hi
    simp only [Nat.zero_add] at hv ⊢
    simp [-ss_cons]
    rw [WpS_cons]
    simp [-ss_cons, dVar, sizeLine_eq]
    have hsz : (allT i).length ≤ 1000 := by
      rw [allT_size]
      calc 10 ^ i ≤ 10 ^ 3 := Nat.pow_le_pow_right (by decide) (by omega)
        _ = 1000 := rfl
    have hnew : (S1 ++ [MO.lst []])[S1.length]? = some (.lst []) := by simp
    have inner : ∀ (gd : List (Nat × List D)), (∀ S2, S1.length ≤ S2.length → (∀ l, l < S1.length → S2[l]? = S1[l]?) → Src.stays ⟨(allT i).map iT, gd⟩ S2) →
        WpS (forLoop (.n 4) ⟨(allT i).map iT, gd⟩ (denSs (callN Fs Gn n) Gn [SI.expr (E.mth Pr.extend false (E.v 3) [E.comp true (Tg.n 5) (I.rng [E.k (D.int 10)]) [5] none (E.bin BOp.add false (E.v 4) (E.tup [E.v 5]))])]) ((allT i).map iT) [some (.int (m : Int)), some v1, some (.int (i : Int)), some (.ref S1.length), z, w] (S1 ++ [.lst []]))
          (fun e S2 => FrG (fun _ => False) S1 S2 ∧ ∃ z w, e = [some (.int (m : Int)), some v1, some (.int (i : Int)), some (.ref S1.length), z, w] ∧ S2[S1.length]? = some (.lst ((allT (i + 1)).map iT))) (fun _ _ => False) NoX := by
      intro gd hst
      refine WpS_for (fun q e S2 => FrG (fun _ => False) S1 S2 ∧ ∃ z w, e = [some (.int (m : Int)), some v1, some (.int (i : Int)), some (.ref S1.length), z, w] ∧ S2[S1.length]? = some (.lst ((ext ((allT i).take q)).map iT))) (allT i) 0 _ _ ⟨FrG.push _, z, w, rfl, by simp [ext]⟩ ?_ ?_
      · rintro q e S2 hq ⟨hf2, z, w, rfl, hn⟩
        refine ⟨hst S2 hf2.1 fun l hl => hf2.2 l hl (fun h => h), _, rfl, ?_⟩
        simp only [Nat.zero_add] at hn ⊢
        have ht : (allT i).take (q + 1) = (allT i).take q ++ [(allT i)[q]] := by rw [List.take_succ, List.getElem?_eq_getElem hq]; rfl
        rw [ht, ext_snoc]
        have hlt := (List.getElem?_eq_some_iff.mp hn).1
        have hle : (ext ((allT i).take q)).length ≤ 10000 := by
          rw [ext_len, List.length_take]; omega
        have hrl : ((allT i)[q]).length ≤ 1000 := by rw [allT_len (List.getElem_mem hq)]; omega
        generalize (allT i)[q] = row at hrl
        generalize ext ((allT i).take q) = done at hn hle
        rw [WpS_cons]
        simp [-ss_cons, dVar, kd_refl hn, Pr.kindOk]
        rw [rng1 (j := 10) (by omega) (by omega)]
        simp [-ss_cons]
        refine Wp.of_eq (comp_map (g := fun (k : Nat) => iT (row ++ [(k : Int)])) (stays_nil _) (List.range 10) [] (small (by simp)) fun k hk => ⟨_, rfl, rfl, ?_⟩) ?_
        · simp [dVar, iT, b_addt, sizeLine_eq]
          omega
        rw [List.nil_append]
        refine ⟨small (by simp), ?_⟩
        have hn3 : (S2 ++ [MO.lst (List.map (fun (k : Nat) => iT (row ++ [(k : Int)])) (List.range 10))])[S1.length]? = some (.lst (done.map iT)) := by
          rw [List.getElem?_append_left hlt]; exact hn
        have hex : prim .extend false [.ref S1.length, .ref S2.length] (S2 ++ [MO.lst (List.map (fun (k : Nat) => iT (row ++ [(k : Int)])) (List.range 10))]) = .ok .non ((S2 ++ [MO.lst (List.map (fun (k : Nat) => iT (row ++ [(k : Int)])) (List.range 10))]).set S1.length (.lst (done.map iT ++ List.map (fun (k : Nat) => iT (row ++ [(k : Int)])) (List.range 10)))) := by
          show dExtend (.ref S1.length) (.ref S2.length) (S2 ++ _) = _
          unfold dExtend
          simp only [hn3]
          rw [List.getElem?_append_right (Nat.le_refl _), Nat.sub_self]
          simp only [List.getElem?_cons_zero]
          rw [if_pos (by rw [sizeLine_eq]; simp; omega)]
        rw [kd_refl hn3, hex]
        simp [-ss_cons]
        refine ⟨?_, ?_⟩
        · exact (hf2.trans (FrG.push _)).setNew (Nat.le_refl _)
        · rw [List.getElem?_set_self (by simp; omega)]
          rfl
      · rintro e S2 ⟨hf2, z, w, rfl, hn⟩
        refine ⟨hst S2 hf2.1 fun l hl => hf2.2 l hl (fun h => h), hf2, z, w, rfl, ?_⟩
        rw [Nat.zero_add, List.take_length] at hn
        exact hn
    have fin : ∀ (z w : Option D) (S2 : Sto), FrG (fun _ => False) S1 S2 → S2[S1.length]? = some (.lst ((allT (i + 1)).map iT)) → FrG (fun _ => False) S S2 ∧ ∃ v1 x y z w, ([some (.int (m : Int)), some (.ref S1.length), some (.int (i : Int)), some (.ref S1.length), z, w] : Ev) = [some (.int (m : Int)), some v1, x, y, z, w] ∧ ((i + 1 = 0 ∧ v1 = .lst [.tup []]) ∨ ∃ l, S.length ≤ l ∧ v1 = .ref l ∧ S2[l]? = some (.lst ((allT (i + 1)).map iT))) :=
      fun z w S2 hf2 hn => ⟨hf.trans hf2, _, _, _, z, w, rfl, .inr ⟨S1.length, hf.1, rfl, hn⟩⟩
    rw [WpS_cons]
    rcases hv with ⟨rfl, rfl⟩ | ⟨l, hl, rfl, hn⟩
    · simp [-ss_cons, dVar]
      refine (inner [] fun _ _ _ => stays_nil _).mono ?_ (fun _ _ h => h.elim) (fun _ _ h => h.elim)
      rintro e S2 ⟨hf2, z, w, rfl, hn⟩
      rw [WpS_cons]
      simp [-ss_cons, dVar]
      have := fin z w S2 hf2 hn
      simpa using this
    · have hll := (List.getElem?_eq_some_iff.mp hn).1
      have hn' : (S1 ++ [MO.lst []])[l]? = some (.lst ((allT i).map iT)) := by rw [List.getElem?_append_left hll]; exact hn
      simp [-ss_cons, dVar, src1_ref hn']
      refine (inner [(l, (allT i).map iT)] fun S2 _ h => ?_).mono ?_ (fun _ _ h => h.elim) (fun _ _ h => h.elim)
      · intro g hg
        rw [List.mem_singleton.mp hg]
        show S2[l]? = _
        rw [h l hll]; exact hn
      rintro e S2 ⟨hf2, z, w, rfl, hn⟩
      rw [WpS_cons]
      simp [-ss_cons, dVar]
      have := fin z w S2 hf2 hn
      simpa using this
  · rintro e S1 ⟨hf, v1, x, y, z, w, rfl, hv⟩
    refine ⟨stays_nil _, ?_⟩
    rcases hv with ⟨h0, _⟩ | ⟨l, hl, rfl, hn⟩
    · simp at h0; omega
    · rw [Nat.zero_add, List.length_range] at hn
      rw [WpS_cons]
      simp [-ss_cons, dVar]
      have hll := (List.getElem?_eq_some_iff.mp hn).1
      exact Wp_closeN hf (by omega) (frz_ref hl hn (pures_map pure_iT _)) ⟨rfl, rfl⟩
end
end Pw.Lw

set_option Elab.async false
set_option linter.all false
set_option maxRecDepth 100000
set_option maxHeartbeats 1000000
namespace Pw.Lw
open PySem PySem.Spec PyProof.Rows L2 Pw
section
variable {n : Nat} {S : Sto}
theorem count_filter (bs : List Bx) (w : Str) : (bs.filter fun b => decide (b.w = w)).length = countB bs w := by
  unfold countB
  rw [List.count, List.countP_map, List.countP_eq_length_filter]
  congr 1
theorem loss_eq (st : List So) (r : Ru) : loss st r = st.map fun s => (countB r.a.bs s.w : Int) - (countB r.b.bs s.w : Int) := by
  unfold loss tab cnt
  apply List.ext_getElem
  · simp
  · intro i h1 h2
    simp at h1
    simp [h1]
theorem s_lawlosses (st : List So) (r : Ru) (h1 : st.length ≤ 1000) (h2 : r.a.bs.length ≤ 1000) (h3 : r.b.bs.length ≤ 1000) : cl (n + 1) 50 [encSt st, encR r] S = .ok (iL (loss st r)) S := by
  refine eqn (Wp_call (F := f50) rfl rfl ?_)
  unfold f50
  rw [WpS_cons]
  simp [-ss_cons, dVar, encSt]
  have ib : ∀ (b : Bx) S, Pw.index S (encB b) (.int 0) = some (.str b.w) := fun _ _ => rfl
  have is : ∀ (b : So) S, Pw.index S (encSo b) (.int 0) = some (.str b.w) := fun _ _ => rfl
  refine Wp.of_eq (comp_map (enc := encSo) (g := fun s => D.int ((countB r.a.bs s.w : Int) - (countB r.b.bs s.w : Int))) (stays_nil _) st [] (small (by simp; omega)) fun s hs => ⟨_, rfl, rfl, ?_⟩) ?_
  · refine eqn ?_
    simp [dVar, ix_r0, ix_r1, ix_w1]
    refine Wp.of_eq (comp_filter (enc := encB) (g := fun _ => D.int 1) (p := fun b => decide (b.w = s.w)) (stays_nil _) r.a.bs [] (small (by simp; omega)) fun b hb => ⟨_, rfl, by simp [tt_some, dVar, ib, is, c_eqs], fun _ => by simp [dVar]⟩) ?_
    have q1 := List.length_filter_le (fun b : Bx => decide (b.w = s.w)) r.a.bs
    rw [List.nil_append]
    refine ⟨small (by rw [List.length_map]; omega), ?_⟩
    simp [dVar, ix_r0, ix_r1, ix_w1, lLst]
    refine Wp.of_eq (comp_filter (enc := encB) (g := fun _ => D.int 1) (p := fun b => decide (b.w = s.w)) (stays_nil _) r.b.bs [] (small (by simp; omega)) fun b hb => ⟨_, rfl, by simp [tt_some, dVar, ib, is, c_eqs], fun _ => by simp [dVar]⟩) ?_
    have q1 := List.length_filter_le (fun b : Bx => decide (b.w = s.w)) r.b.bs
    rw [List.nil_append]
    refine ⟨small (by rw [List.length_map]; omega), ?_⟩
    simp [lLst, b_sub, count_filter]
  rw [List.nil_append]
  refine ⟨small (by simp; omega), ?_⟩
  simp [iL, loss_eq]
theorem c_eqnilL (l : List (List Int)) : cmpop .eq (.lst (l.map iL)) (.lst []) S = some l.isEmpty := by
  rw [c_eqd (a := .lst (l.map iL)) (b := .lst []) (nbs_map nb_iL l) rfl (by
    have : D.deps (l.map iL) ≤ 1 := deps_map (g := iL) dep_iL l
    show D.deps _ + 1 ≤ 60
    omega)]
  cases l <;> simp
theorem s_lawleast (st : List So) (rs : List Ru) (h : BkOk st rs) (h4 : st.length ≤ 4) : ∃ r, cl (n + 2) 51 [encBk st rs] S = .ok (encT r) S ∧ Least st rs r := by
  have h8 := h.l8
  have i0 : ∀ S, Pw.index S (encBk st rs) (.int 0) = some (encSt st) := fun _ => rfl
  have i1 : ∀ S, Pw.index S (encBk st rs) (.int 1) = some (.tup (rs.map encR)) := fun _ => rfl
  have eL : prim .len false [encSt st] S = .ok (.int st.length) S := by rw [encSt, lTup, List.length_map]
  have ea := s_all (n := n) (S := S) st.length h.so.l1 h4
  simp only [cl] at ea
  have fl := first_least st.length (rs.map (loss st))
  have main : Wp (cl (n + 2) 51 [encBk st rs] S) (fun d S' => S' = S ∧ ∃ r, d = encT r ∧ Least st rs r) NoX := by
    refine Wp_call (F := f51) rfl rfl ?_
    unfold f51
    rw [WpS_cons]
    simp [-ss_cons, dVar, i1]
    refine Wp.of_eq (comp_map (enc := encR) (g := fun r => iL (loss st r)) (stays_nil _) rs [] (small (by simp; omega)) fun r hr => ⟨_, rfl, rfl, ?_⟩) ?_
    · have e := s_lawlosses (n := n) (S := S) st r (by omega) (h.rs r hr).a.bl (h.rs r hr).b.bl
      simp only [cl] at e
      simp [dVar, i0, e]
    rw [List.nil_append]
    refine ⟨small (by simp; omega), ?_⟩
    rw [WpS_cons]
    simp [-ss_cons, dVar, i0, eL, ea]
    refine WpS_for (enc := iT) (fun i e S' => S' = S ∧ (∃ y, e = [some (encBk st rs), none, some (.lst (rs.map fun r => iL (loss st r))), y, none, none, none]) ∧ ∀ w ∈ (allT st.length).take i, good st.length (rs.map (loss st)) w = false) (allT st.length) 0 _ _ ⟨rfl, ⟨none, rfl⟩, by simp⟩ ?_ ?_
    · rintro i e S' hi ⟨rfl, ⟨y, rfl⟩, hno⟩
      refine ⟨stays_nil _, _, rfl, ?_⟩
      simp only [Nat.zero_add] at hno ⊢
      have ht : (allT st.length).take (i + 1) = (allT st.length).take i ++ [(allT st.length)[i]] := by rw [List.take_succ, List.getElem?_eq_getElem hi]; rfl
      have hcut : allT st.length = (allT st.length).take i ++ (allT st.length)[i] :: (allT st.length).drop (i + 1) := by
        rw [List.getElem_cons_drop, List.take_append_drop]
      have hwl := allT_len (List.getElem_mem hi)
      rw [ht]
      generalize (allT st.length)[i] = w at hcut hwl
      have e3 : (rs.map fun r => iL (loss st r)) = (rs.map (loss st)).map iL := by rw [List.map_map]; rfl
      rw [WpS_cons]
      simp [-ss_cons, dVar]
      rw [e3]
      refine Wp.of_eq (comp_filter (enc := iL) (g := iL) (p := fun row => decide (dot st.length (gt row) (gt w) < 1)) (stays_nil _) (rs.map (loss st)) [] (small (by simp; omega)) fun row hr => ⟨_, rfl, ?_, fun _ => by simp [dVar]⟩) ?_
      · obtain ⟨r, hr', rfl⟩ := List.mem_map.mp hr
        have hrb := loss_rb st r (h.rs r hr').a.bl (h.rs r hr').b.bl
        have hrl : (loss st r).length = st.length := by simp [loss]
        generalize loss st r = row at hrb hrl
        have ez : srcZip S' (iL row) (iT w) = some ⟨(List.range st.length).map fun j => D.tup [.int (gt row j), .int (gt w j)], []⟩ := by
          have := zip_int (e1 := D.int) 0 hrl hwl
          have e : srcZip S' (iL row) (iT w) = some ⟨List.zipWith (fun x y => D.tup [x, y]) (row.map D.int) (w.map D.int), []⟩ := rfl
          rw [e, this]; rfl
        have hcl : ∀ RR : Option D, compLoop (.tu [.n 5, .n 6]) [5, 6] ⟨(List.range st.length).map fun j => D.tup [.int (gt row j), .int (gt w j)], []⟩ [some (encBk st rs), none, RR, some (iT w), some (iL row), none, none] (denT (callN Fs Gn (n + 1)) Gn none) (den (callN Fs Gn (n + 1)) Gn (E.bin BOp.mul false (E.v 5) (E.v 6))).v ((List.range st.length).map fun j => D.tup [.int (gt row j), .int (gt w j)]) [] S' = .ok ([] ++ (List.range st.length).map fun j => D.int (gt row j * gt w j)) S' :=
          fun RR => comp_map (stays_nil _) (List.range st.length) [] (small (by simp; omega)) fun j hj => ⟨_, rfl, rfl, by
            have hb := hrb j
            have e := b_mul (S := S') (gt row j) (gt w j) (mulOk_l (by omega) (by omega))
            simp [dVar, e]⟩
        have hmk : mkL false ((List.range st.length).map fun j => D.int (gt row j * gt w j)) S' = .ok (.lst ((List.range st.length).map fun j => D.int (gt row j * gt w j))) S' := by
          unfold mkL; rw [if_pos (small (by simp; omega))]; rfl
        simp only [List.nil_append] at hcl
        have hd : (tab st.length fun j => gt row j * gt w j).sum = dot st.length (gt row) (gt w) := rfl
        simp [tt_some, dVar, ez, hcl, hmk, p_sum_tab, c_lt, hd]
      rw [List.nil_append]
      have q1 := List.length_filter_le (fun row => decide (dot st.length (gt row) (gt w) < 1)) (rs.map (loss st))
      rw [List.length_map] at q1
      refine ⟨small (by rw [List.length_map]; omega), ?_⟩
      have ceq := c_eqnilL (S := S') ((rs.map (loss st)).filter fun row => decide (dot st.length (gt row) (gt w) < 1))
      have hem : ((rs.map (loss st)).filter fun row => decide (dot st.length (gt row) (gt w) < 1)).isEmpty = good st.length (rs.map (loss st)) w := by
        rw [Bool.eq_iff_iff, List.isEmpty_iff, List.filter_eq_nil_iff, good_iff]
        constructor
        · intro q row hr
          have := q row hr
          simp only [decide_eq_true_eq] at this
          omega
        · intro q row hr
          have := q row hr
          simp only [decide_eq_true_eq]
          omega
      rw [hem] at ceq
      generalize ((rs.map (loss st)).filter fun row => decide (dot st.length (gt row) (gt w) < 1)).map iL = got at ceq
      generalize (rs.map (loss st)).map iL = env2
      by_cases hg : good st.length (rs.map (loss st)) w = true
      · rw [hg] at ceq
        simp [-ss_cons, ceq]
        rw [WpS_cons]
        simp [dVar]
        refine ⟨some w, rfl, ?_⟩
        have hf : (allT st.length).find? (good st.length (rs.map (loss st))) = some w := by
          rw [List.find?_eq_some_iff_append]
          refine ⟨hg, _, _, hcut, fun v hv => ?_⟩
          rw [hno v hv]; rfl
        rw [hf] at fl
        exact fl
      · rw [Bool.not_eq_true] at hg
        rw [hg] at ceq
        simp [-ss_cons, ceq]
        intro v hv
        rcases hv with hv | hv
        · exact hno v hv
        · subst hv
          exact hg
    · rintro e S' ⟨rfl, ⟨y, rfl⟩, hno⟩
      refine ⟨stays_nil _, ?_⟩
      rw [WpS_cons]
      simp [-ss_cons, dVar]
      refine ⟨none, rfl, ?_⟩
      have hf : (allT st.length).find? (good st.length (rs.map (loss st))) = none := by
        rw [List.find?_eq_none]
        intro w hw
        rw [Nat.zero_add, List.take_length] at hno
        rw [hno w hw]
        decide
      rw [hf] at fl
      exact fl
  obtain ⟨d, S', e, rfl, r, rfl, h⟩ := Wp.ex main
  exact ⟨r, e, h⟩
end
end Pw.Lw

set_option Elab.async false
set_option linter.all false
set_option maxRecDepth 100000
set_option maxHeartbeats 1000000
namespace Pw.Lw
open PySem PySem.Spec PyProof.Rows L2 Pw
section
variable {n : Nat} {S : Sto}
/-- numbers that can be shown -/
def Sm (w : List Int) : Prop := w.length ≤ 1000 ∧ ∀ j, j < w.length → 0 ≤ gt w j ∧ gt w j ≤ 1000
def SmO : Option (List Int) → Prop
  | none => True
  | some w => Sm w
theorem same_int (i : Int) (h0 : 0 ≤ i) (h1 : i ≤ 1000) : cl (n + 1) 36 [.int i, .int i] S = .ok (.bl true) S := by
  refine eqn (Wp_call (F := f36) rfl rfl ?_)
  unfold f36
  have e := p_repr (S := S) (bx := false) (d := .int i) (decide_eq_true (by omega)) (by show i.natAbs + 2 ≤ _; omega) (by simp [D.dep])
  have cb := c_nebl (S := S) false false
  simp at cb
  rw [WpS_cons]
  simp [-ss_cons, dVar, tyIs, tOf, truth, cb]
  rw [WpS_cons]
  simp [-ss_cons, dVar, tyIs, tyIs2, truth]
  rw [WpS_cons]
  simp [-ss_cons, dVar, c_eqi, e, c_eqs, dAnd, truth]
theorem same_non : cl (n + 1) 36 [.non, .non] S = .ok (.bl true) S := by
  refine eqn (Wp_call (F := f36) rfl rfl ?_)
  unfold f36
  have e := p_repr (S := S) (bx := false) (d := .non) rfl (by simp [D.wt]) (by simp [D.dep])
  have cb := c_nebl (S := S) false false
  simp at cb
  have cn : cmpop .eq .non .non S = some true := by
    rw [c_eqd rfl rfl (by simp [D.dep])]; simp
  rw [WpS_cons]
  simp [-ss_cons, dVar, tyIs, tOf, truth, cb]
  rw [WpS_cons]
  simp [-ss_cons, dVar, tyIs, tyIs2, truth]
  rw [WpS_cons]
  simp [-ss_cons, dVar, cn, e, c_eqs, dAnd, truth]
theorem same_tup {xs : List D} (hl : xs.length ≤ 1000) (h : ∀ x ∈ xs, cl n 36 [x, x] S = .ok (.bl true) S) : cl (n + 1) 36 [.tup xs, .tup xs] S = .ok (.bl true) S := by
  refine eqn (Wp_call (F := f36) rfl rfl ?_)
  unfold f36
  have cb := c_nebl (S := S) false false
  have cb2 := c_nebl (S := S) true true
  simp at cb cb2
  rw [WpS_cons]
  simp [-ss_cons, dVar, tyIs, tOf, truth, cb, cb2]
  rw [WpS_cons]
  simp [-ss_cons, dVar, tyIs, tyIs2, truth]
  have el : prim .len false [.tup xs] S = .ok (.int xs.length) S := rfl
  rw [WpS_cons]
  simp [-ss_cons, dVar, el, c_eqi, dAnd, truth]
  rw [rng1 (j := (xs.length : Int)) (by omega) (by omega)]
  simp [-ss_cons]
  refine Wp.of_eq (comp_filter (enc := fun (k : Nat) => D.int (k : Int)) (g := nD) (p := fun _ => false) (stays_nil _) (List.range xs.length) [] (small (by simp; omega)) fun k hk => ⟨_, rfl, ?_, fun hk => nomatch hk⟩) ?_
  · have hk := List.mem_range.mp hk
    have hx := (Sq.tup xs (S := S)).ix hk
    have e := h _ (List.getElem_mem hk)
    simp only [cl] at e
    simp [tt_some, dVar, hx, e, truth]
  rw [List.nil_append, filter_ff]
  have c0 : cmpop .eq (.lst []) (.lst []) S = some true := by
    rw [c_eqd rfl rfl (by simp [D.dep, D.deps])]; simp
  simp [c0]
theorem same_lst {xs : List D} (hl : xs.length ≤ 1000) (h : ∀ x ∈ xs, cl n 36 [x, x] S = .ok (.bl true) S) : cl (n + 1) 36 [.lst xs, .lst xs] S = .ok (.bl true) S := by
  refine eqn (Wp_call (F := f36) rfl rfl ?_)
  unfold f36
  have cb := c_nebl (S := S) false false
  have cb2 := c_nebl (S := S) true true
  simp at cb cb2
  rw [WpS_cons]
  simp [-ss_cons, dVar, tyIs, tOf, truth, cb, cb2]
  rw [WpS_cons]
  simp [-ss_cons, dVar, tyIs, tyIs2, truth]
  have el : prim .len false [.lst xs] S = .ok (.int xs.length) S := rfl
  rw [WpS_cons]
  simp [-ss_cons, dVar, el, c_eqi, dAnd, truth]
  rw [rng1 (j := (xs.length : Int)) (by omega) (by omega)]
  simp [-ss_cons]
  refine Wp.of_eq (comp_filter (enc := fun (k : Nat) => D.int (k : Int)) (g := nD) (p := fun _ => false) (stays_nil _) (List.range xs.length) [] (small (by simp; omega)) fun k hk => ⟨_, rfl, ?_, fun hk => nomatch hk⟩) ?_
  · have hk := List.mem_range.mp hk
    have hx := (Sq.lst xs (S := S)).ix hk
    have e := h _ (List.getElem_mem hk)
    simp only [cl] at e
    simp [tt_some, dVar, hx, e, truth]
  rw [List.nil_append, filter_ff]
  have c0 : cmpop .eq (.lst []) (.lst []) S = some true := by
    rw [c_eqd rfl rfl (by simp [D.dep, D.deps])]; simp
  simp [c0]
theorem same_T {r : Option (List Int)} (hr : SmO r) : cl (n + 2) 36 [encT r, encT r] S = .ok (.bl true) S := by
  cases r with
  | none => exact same_non
  | some w =>
    refine same_tup (by rw [List.length_map]; exact hr.1) fun x hx => ?_
    obtain ⟨i, hi, rfl⟩ := List.mem_map.mp hx
    obtain ⟨j, hj, rfl⟩ := List.getElem_of_mem hi
    have := hr.2 j hj
    have e : gt w j = w[j] := by simp [gt, hj]
    rw [e] at this
    exact same_int _ this.1 this.2
theorem same_T2 {r : Option (List Int)} (hr : SmO r) : cl (n + 3) 36 [.lst [encT r, encT r], .lst [encT r, encT r]] S = .ok (.bl true) S := by
  refine same_lst (by simp) fun x hx => ?_
  have : x = encT r := by simpa using hx
  rw [this]
  exact same_T hr
end
end Pw.Lw

set_option Elab.async false
set_option linter.all false
set_option maxRecDepth 100000
set_option maxHeartbeats 1000000
namespace Pw.Lw
open PySem PySem.Spec PyProof.Rows L2 Pw
/-! # draws -/
section
variable {n : Nat} {S : Sto} {X : Xc → Sto → Prop}
/-- the source of numbers -/
def Jr (j : Nat) (S : Sto) : Prop := ∃ a b c, S[j]? = some (.lst [.int a, .int b, .int c])
theorem Jr.lt {j : Nat} (h : Jr j S) : j < S.length := by
  obtain ⟨a, b, c, h⟩ := h
  exact (List.getElem?_eq_some_iff.mp h).1
theorem Jr.low {j : Nat} (h : Jr j S) : Low S j := by
  obtain ⟨a, b, c, h⟩ := h
  exact Low.lst h rfl
theorem Jr.eq {j : Nat} {S2 : Sto} (h : Jr j S) (e : S2[j]? = S[j]?) : Jr j S2 := by
  obtain ⟨a, b, c, h⟩ := h
  exact ⟨a, b, c, e.trans h⟩
theorem Jr.push {j : Nat} (h : Jr j S) (m : MO) : Jr j (S ++ [m]) := h.eq (List.getElem?_append_left h.lt)
theorem Jr.set {j : Nat} (h : Jr j S) (a b c : Int) : Jr j (S.set j (.lst [.int a, .int b, .int c])) := ⟨a, b, c, List.getElem?_set_self h.lt⟩
theorem p_int {bx : Bool} (i : Int) : prim .int bx [.int i] S = .ok (.int i) S := (rfl)
theorem b_pow (i j : Int) (h : 0 ≤ j ∧ j ≤ 1000000 ∧ i.natAbs < 2 ^ 64) : binop .pow false (.int i) (.int j) S = .ok (.int (i ^ j.toNat)) S := by
  show R.opt S (((if 0 ≤ j ∧ j ≤ 1000000 ∧ i.natAbs < 2 ^ 64 then some (i ^ j.toNat) else none) : Option Int).map D.int) = _
  rw [if_pos h]
  rfl
theorem w_source (c : Int) : ∃ a b, cl (n + 1) 34 [.int c] S = .ok (.ref S.length) (S ++ [.lst [.int a, .int b, .int 0]]) := by
  have hp := b_pow (S := S) 10 18 ⟨by decide, by decide, by decide⟩
  obtain ⟨q, hq⟩ : ∃ q : Int, (10 : Int) ^ (18 : Int).toNat = q := ⟨_, rfl⟩
  rw [hq] at hp
  have hm := b_mod (S := S) (bx := false) c 1152921504606846883 (by decide)
  refine ⟨if q ≤ c then c - q else 0, c % 1152921504606846883 + 11, ?_⟩
  have main : Wp (cl (n + 1) 34 [.int c] S) (fun d S' => d = .ref S.length ∧ S' = S ++ [.lst [.int (if q ≤ c then c - q else 0), .int (c % 1152921504606846883 + 11), .int 0]]) NoX := by
    refine Wp_call (F := f34) rfl rfl ?_
    unfold f34
    rw [WpS_cons]
    simp [-ss_cons, dVar, hp, c_ge]
    by_cases h : q ≤ c
    · simp [h, hp, b_sub, p_int, hm, b_add, sizeLine_eq]
    · simp [h, hp, b_sub, p_int, hm, b_add, sizeLine_eq]
  obtain ⟨d, S', e, rfl, rfl⟩ := Wp.ex main
  exact e
theorem setItem3 {j : Nat} {a b c v : Int} (h : S[j]? = some (.lst [.int a, .int b, .int c])) :
    setItemD (.ref j) (.int 0) (.int v) S = some (S.set j (.lst [.int v, .int b, .int c])) ∧ setItemD (.ref j) (.int 1) (.int v) S = some (S.set j (.lst [.int a, .int v, .int c])) ∧ setItemD (.ref j) (.int 2) (.int v) S = some (S.set j (.lst [.int a, .int b, .int v])) := by
  unfold setItemD
  simp only [h]
  exact ⟨rfl, rfl, rfl⟩
theorem ix3 {j : Nat} {a b c : Int} (h : S[j]? = some (.lst [.int a, .int b, .int c])) :
    Pw.index S (.ref j) (.int 0) = some (.int a) ∧ Pw.index S (.ref j) (.int 1) = some (.int b) ∧ Pw.index S (.ref j) (.int 2) = some (.int c) := by
  unfold Pw.index
  rw [rd_ref, h]
  exact ⟨rfl, rfl, rfl⟩
theorem w_draw {j : Nat} {many : Int} {Q : D → Sto → Prop} (h : Jr j S) (hm : 0 < many) (hm2 : many < 1073741824) (hq : ∀ (k : Nat) (S2 : Sto), (k : Int) < many → Jr j S2 → Fr (· = j) S S2 → Q (.int k) S2) : Wp (cl (n + 1) 35 [.ref j, .int many] S) Q X := by
  have hlt := h.lt
  obtain ⟨a, b, c, hj⟩ := h
  have hx := ix3 hj
  have fin : ∀ (v : Int) (S2 : Sto), 0 ≤ v → v < many → Jr j S2 → Fr (· = j) S S2 → Wp (closeR true S (SR.ret (.int v) S2)) Q X := by
    intro v S2 h0 h1 hj2 hF
    refine Wp_close hF.g (fun l _ hA => hA ▸ hj2.low) rfl fun hF2 hg => ?_
    have := hq v.toNat (S2.take S.length) (by omega) (hj2.eq (hg j hlt)) hF2
    rwa [Int.toNat_of_nonneg h0] at this
  refine Wp_call (F := f35) rfl rfl ?_
  unfold f35
  rw [WpS_cons]
  refine WpS.join (fun e S' => S' = S ∧ e = [some (.ref j), some (.int many), none, none, none]) ?_ ?_
  · simp [-ss_cons, dVar, hx.1, c_gt]
    by_cases h0 : 0 < a
    · by_cases h1 : 1 < many
      · simp [-ss_cons, h0, h1, c_gt, dVar]
        have e1 := b_fdiv (S := S) (bx := false) a many hm hm2
        have e2 := b_mul (S := S) (a / many) many (mulOk_r (by omega) (by omega))
        have e3 := setItem3 (v := a / many) hj
        rw [WpS_cons]
        simp [-ss_cons, dVar, hx.1, e1]
        rw [WpS_cons]
        simp [-ss_cons, dVar, hx.1, e2, b_sub]
        rw [WpS_cons]
        simp [-ss_cons, dVar, e3.1]
        rw [WpS_cons]
        simp [-ss_cons, dVar]
        have e4 : a - a / many * many = a % many := by
          have := Int.emod_add_mul_ediv a many
          rw [Int.mul_comm] at this
          omega
        rw [e4]
        exact fin _ _ (Int.emod_nonneg _ (by omega)) (Int.emod_lt_of_pos _ hm) (Jr.set ⟨a, b, c, hj⟩ _ _ _) (Fr.set rfl)
      · simp [h0, h1, c_gt, dVar]
    · simp [h0]
  · rintro e S' ⟨rfl, rfl⟩
    have s1 := setItem3 (v := c + 1) hj
    rw [WpS_cons]
    simp [-ss_cons, dVar, hx.2.2, b_add, s1.2.2]
    have hj1 : (S'.set j (.lst [.int a, .int b, .int (c + 1)]))[j]? = some (.lst [.int a, .int b, .int (c + 1)]) := List.getElem?_set_self hlt
    generalize hS1 : S'.set j (.lst [.int a, .int b, .int (c + 1)]) = S1 at hj1
    have hF1 : Fr (· = j) S' S1 := hS1 ▸ Fr.set rfl
    have hx1 := ix3 hj1
    have m1 := b_mul (S := S1) b 48271 (mulOk_r (by decide) (by decide))
    have m2 := b_mul (S := S1) (c + 1) 7919 (mulOk_r (by decide) (by decide))
    have m3 := b_mod (S := S1) (bx := false) (b * 48271 + (c + 1) * 7919 + 5) 1152921504606846883 (by decide)
    have hlo := Int.emod_nonneg (b * 48271 + (c + 1) * 7919 + 5) (show (1152921504606846883 : Int) ≠ 0 by decide)
    have hhi := Int.emod_lt_of_pos (b * 48271 + (c + 1) * 7919 + 5) (show (0 : Int) < 1152921504606846883 by decide)
    generalize (b * 48271 + (c + 1) * 7919 + 5) % 1152921504606846883 = B at m3 hlo hhi
    have s2 := setItem3 (v := B) hj1
    rw [WpS_cons]
    simp [-ss_cons, dVar, hx1.2.1, hx1.2.2, b_add, m1, m2, p_int, m3, s2.2.1]
    have hj2 : (S1.set j (.lst [.int a, .int B, .int (c + 1)]))[j]? = some (.lst [.int a, .int B, .int (c + 1)]) := List.getElem?_set_self (by rw [hF1.1]; exact hlt)
    generalize hS2 : S1.set j (.lst [.int a, .int B, .int (c + 1)]) = S2 at hj2
    have hF2 : Fr (· = j) S' S2 := hF1.trans (hS2 ▸ Fr.set rfl)
    have hx2 := ix3 hj2
    have m4 := b_mul (S := S2) B B (mulOk_r (by omega) (by omega))
    have m5 := b_mul (S := S2) 104729 (c + 1) (mulOk_l (by decide) (by decide))
    have m6 := b_mod (S := S2) (bx := false) (B * B + 104729 * (c + 1)) 2305843009213693921 (by decide)
    generalize (B * B + 104729 * (c + 1)) % 2305843009213693921 = C at m6
    have m7 := b_fdiv (S := S2) (bx := false) C 8191 (by decide) (by decide)
    rw [WpS_cons]
    simp [-ss_cons, dVar, hx2.2.1, hx2.2.2, b_add, m4, m5, p_int, m6, m7]
    have m8 := b_mod (S := S2) (bx := false) (C / 8191) many hm
    rw [WpS_cons]
    simp [-ss_cons, dVar, p_int, m8]
    exact fin _ _ (Int.emod_nonneg _ (by omega)) (Int.emod_lt_of_pos _ hm) ⟨_, _, _, hj2⟩ hF2
end
end Pw.Lw

set_option Elab.async false
set_option linter.all false
set_option maxRecDepth 100000
set_option maxHeartbeats 1000000
namespace Pw.Lw
open PySem PySem.Spec PyProof.Rows L2 Pw
section
variable {n : Nat} {S : Sto} {X : Xc → Sto → Prop}
def menu : List Str := ["f", "g", "hold", "fa", "fab", "map", "mul", "ma", "gx", "gy", "xg"]
structure WsOk (ws : List Str) : Prop where
  len : ws.length = 3
  nd : ws.Nodup
  me : ∀ w ∈ ws, w ∈ menu
theorem menu_word : ∀ w ∈ menu, wordB w = true := by decide +kernel
theorem menu_len : ∀ w ∈ menu, w.length ≤ 4 := by decide +kernel
theorem WsOk.perm {ws ws' : List Str} (h : WsOk ws) (p : ws'.Perm ws) : WsOk ws' := ⟨p.length_eq.trans h.len, p.nodup_iff.mpr h.nd, fun w hw => h.me w (p.mem_iff.mp hw)⟩
theorem ws0 : WsOk ["f", "g", "hold"] := ⟨rfl, by decide +kernel, by decide +kernel⟩
theorem ws1 : WsOk ["f", "fa", "fab"] := ⟨rfl, by decide +kernel, by decide +kernel⟩
theorem ws2 : WsOk ["map", "mul", "ma"] := ⟨rfl, by decide +kernel, by decide +kernel⟩
theorem ws3 : WsOk ["gx", "gy", "xg"] := ⟨rfl, by decide +kernel, by decide +kernel⟩
theorem w_words {j : Nat} {Q : D → Sto → Prop} (h : Jr j S) (hq : ∀ (ws : List Str) (S2 : Sto), WsOk ws → Jr j S2 → Fr (· = j) S S2 → Q (.lst (ws.map .str)) S2) : Wp (cl (n + 2) 37 [.ref j] S) Q X := by
  have hlt := h.lt
  refine Wp_call (F := f37) rfl rfl ?_
  unfold f37
  rw [WpS_cons]
  simp [-ss_cons, dVar, sizeLine_eq]
  refine w_draw (((h.push _).push _).push _ |>.push _ |> fun z => by simpa using z) (by decide) (by decide) fun k S1 hk hj1 hF1 => ?_
  obtain ⟨l, ws, hx, hl, hS, hw⟩ : ∃ l ws, Pw.index S1 (D.lst [D.ref S.length, D.ref (S.length + 1), D.ref (S.length + 1 + 1), D.ref (S.length + 1 + 1 + 1)]) (.int (k : Int)) = some (.ref l) ∧ S.length ≤ l ∧ S1[l]? = some (.lst (ws.map .str)) ∧ WsOk ws := by
    have ix := (Sq.lst (S := S1) [D.ref S.length, D.ref (S.length + 1), D.ref (S.length + 1 + 1), D.ref (S.length + 1 + 1 + 1)]).ix (k := k) (by simp; omega)
    have old : ∀ i, i < 4 → S1[S.length + i]? = _ := fun i hi => hF1.2 (S.length + i) (by omega)
    match k, hk, ix with
    | 0, _, ix => exact ⟨_, _, ix, Nat.le_refl _, by rw [show S.length = S.length + 0 from rfl, old 0 (by decide)]; simp, ws0⟩
    | 1, _, ix => exact ⟨_, _, ix, by omega, by rw [old 1 (by decide)]; simp, ws1⟩
    | 2, _, ix => exact ⟨_, _, ix, by omega, by rw [show S.length + 1 + 1 = S.length + 2 from rfl, old 2 (by decide)]; simp, ws2⟩
    | 3, _, ix => exact ⟨_, _, ix, by omega, by rw [show S.length + 1 + 1 + 1 = S.length + 3 from rfl, old 3 (by decide)]; simp, ws3⟩
  have hFG : FrG (· = j) S S1 := FrG.trans (S2 := S ++ _) ⟨by simp, fun l hl _ => List.getElem?_append_left hl⟩ hF1.g
  simp [-ss_cons, hx]
  rw [WpS_cons]
  simp [-ss_cons, dVar]
  rw [rng1 (j := 3) (by decide) (by decide)]
  simp [-ss_cons]
  refine Wp_comp (fun i acc S' => ∃ got rest : List Str, acc = got.map .str ∧ got.length = i ∧ rest.length + i = 3 ∧ (got ++ rest).Perm ws ∧ Jr j S' ∧ FrG (· = j) S S' ∧ S'[l]? = some (.lst (rest.map .str))) (List.range 3) 0 [] S1 (by simp [sizeLine_eq]) ⟨[], ws, rfl, rfl, hw.len, List.Perm.refl _, hj1, hFG, hS⟩ ?_ ?_
  · rintro i acc S2 hi ⟨got, rest, rfl, hg, hr, hp, hj2, hF2, hS2⟩
    refine ⟨stays_nil _, _, rfl, ?_⟩
    simp at hi
    simp [tt_none, dVar, kd_refl hS2, Pr.kindOk, (Sq.ref hS2).len]
    refine w_draw hj2 (by omega) (by omega) fun q S3 hq3 hj3 hF3 => ?_
    have hS3 : S3[l]? = some (.lst (rest.map .str)) := by rw [hF3.2 l (by omega)]; exact hS2
    simp [kd_refl hS3]
    rw [p_popat hS3 (by rw [List.length_map]; omega) (by rw [List.length_map]; omega)]
    simp
    have hql : q < rest.length := by omega
    refine ⟨got ++ [rest[q]], by simp, by simp; omega, rest.eraseIdx q, by rw [List.length_eraseIdx_of_lt hql]; omega, ?_, hj3.eq (List.getElem?_set_ne (by omega)), (hF2.trans hF3.g).setNew hl, ?_⟩
    · rw [List.append_assoc]
      exact ((perm_erase hql).append_left got).trans hp
    · rw [List.getElem?_set_self (List.getElem?_eq_some_iff.mp hS3).1, map_erase']
  · rintro acc S2 ⟨got, rest, rfl, hg, hr, hp, hj2, hF2, hS2⟩
    refine ⟨stays_nil _, ?_⟩
    have hr0 : rest = [] := by simpa using hr
    simp at hg
    subst hr0
    rw [List.append_nil] at hp
    refine ⟨small (by simp; omega), ?_⟩
    refine Wp_close hF2 (fun l hl hA => hA ▸ hj2.low) (by show D.pures _ = true; exact pures_map (fun _ => rfl) got) fun hF hg => hq got _ (hw.perm hp) (hj2.eq (hg j hlt)) hF
end
end Pw.Lw

set_option Elab.async false
set_option linter.all false
set_option maxRecDepth 100000
set_option maxHeartbeats 1000000
namespace Pw.Lw
open PySem PySem.Spec PyProof.Rows L2 Pw
section
variable {n : Nat} {S : Sto} {X : Xc → Sto → Prop}
def abk (k : Str) : Prop := k = "a" ∨ k = "b"
theorem abk_word {k : Str} (h : abk k) : wordB k = true := by
  rcases h with rfl | rfl <;> decide +kernel
structure SoOk (s : So) : Prop where
  w : s.w ∈ menu
  i2 : s.i.length ≤ 2
  o2 : s.o.length ≤ 2
  ne : s.i ≠ [] ∨ s.o ≠ []
  ki : ∀ k ∈ s.i, abk k
  ko : ∀ k ∈ s.o, abk k
structure SkOk (st : List So) : Prop where
  l2 : 2 ≤ st.length
  l3 : st.length ≤ 3
  nd : (st.map (·.w)).Nodup
  so : ∀ s ∈ st, SoOk s
theorem SkOk.st {st : List So} (h : SkOk st) : StOk st := by
  refine ⟨by have := h.l2; omega, by have := h.l3; omega, fun s hs => ?_, h.nd⟩
  have := h.so s hs
  unfold soB kindsB
  simp only [Bool.and_eq_true, decide_eq_true_eq, List.all_eq_true]
  exact ⟨menu_word _ this.w, ⟨by have := this.i2; omega, fun k hk => abk_word (this.ki k hk)⟩, by have := this.o2; omega, fun k hk => abk_word (this.ko k hk)⟩
theorem pure_encSo (s : So) : D.pure (encSo s) = true := by
  simp [encSo, D.pure, D.pures, pure_sT]
theorem nb_encSo (s : So) : D.nb (encSo s) = true := by
  simp [encSo, D.nb, D.nbs, nb_sT]
theorem c_netnil (l : List Str) : cmpop .ne (sT l) (.tup []) S = some (!l.isEmpty) := by
  rw [c_ned (nb_sT l) rfl (Nat.le_trans (dep_sT l) (by decide))]
  cases l <;> simp [sT]
theorem w_side {j : Nat} {ks : List Str} (e0 : Ev) (h : Jr j S) (hks : ks.length = 2) (hab : ∀ k ∈ ks, abk k) (h0 : e0.length = 8) (h1 : e0[0]? = some (some (.ref j))) (h2 : e0[1]? = some (some (.lst (ks.map .str)))) {Q : D → Sto → Prop}
    (hq : ∀ (l : List Str) (S2 : Sto), l.length ≤ 2 → (∀ k ∈ l, abk k) → Jr j S2 → Fr (· = j) S S2 → Q (sT l) S2) :
    Wp ((den (callN Fs Gn (n + 1)) Gn (.pr .tuple false [(.comp false (.n 6) (.rng [(.call 35 [(.v 0), (.ix (.lst false [(.k (.int 2)), (.k (.int 3)), (.k (.int 3))]) (.call 35 [(.v 0), (.k (.int 3))]))])]) [6] none (.ix (.v 1) (.call 35 [(.v 0), (.k (.int 2))])))])).v e0 S) Q NoX := by
  have d0 : ∀ S, dVar 0 e0 S = .ok (.ref j) S := fun S => by unfold dVar; rw [h1]
  have d1 : ∀ S, dVar 1 e0 S = .ok (.lst (ks.map .str)) S := fun S => by unfold dVar; rw [h2]
  simp [d0, sizeLine_eq]
  refine w_draw h (by decide) (by decide) fun k5 S7 hk5 hj7 hf7 => ?_
  have h233 : ∃ m : Nat, Pw.index S7 (D.lst [D.int 2, D.int 3, D.int 3]) (D.int (k5 : Int)) = some (.int m) ∧ 0 < m ∧ m ≤ 3 := by
    have hx := (Sq.lst [D.int 2, D.int 3, D.int 3] (S := S7)).ix (k := k5) (by simp; omega)
    match k5, hk5, hx with
    | 0, _, hx => exact ⟨2, hx, by decide, by decide⟩
    | 1, _, hx => exact ⟨3, hx, by decide, by decide⟩
    | 2, _, hx => exact ⟨3, hx, by decide, by decide⟩
  obtain ⟨m, hx, hm0, hm3⟩ := h233
  simp [hx]
  refine w_draw hj7 (by omega) (by omega) fun k6 S8 hk6 hj8 hf8 => ?_
  rw [rng1 (j := (k6 : Int)) (by omega) (by omega)]
  simp
  refine Wp_comp (fun p acc S' => ∃ u : List Str, u.length = p ∧ (∀ k ∈ u, abk k) ∧ acc = u.map .str ∧ Jr j S' ∧ Fr (· = j) S8 S') (List.range k6) 0 [] S8 (by simp [sizeLine_eq]; omega) ⟨[], rfl, (fun _ h => nomatch h), rfl, hj8, Fr.refl⟩ ?_ ?_
  · rintro p acc S9 hp ⟨u, hu9, hua, rfl, hj9, hf9⟩
    refine ⟨stays_nil _, (wipeE e0 [6]).set 6 (some (.int (((List.range k6)[p] : Nat) : Int))), by simp [h0], ?_⟩
    have d0' : ∀ x : Option D, ∀ S, dVar 0 ((wipeE e0 [6]).set 6 x) S = .ok (.ref j) S := fun x S => by
      unfold dVar
      simp [h1]
    have d1' : ∀ x : Option D, ∀ S, dVar 1 ((wipeE e0 [6]).set 6 x) S = .ok (.lst (ks.map .str)) S := fun x S => by
      unfold dVar
      simp [h2]
    simp at d0' d1'
    simp [tt_none, d0', d1']
    refine w_draw hj9 (by omega) (by omega) fun k10 S10 hk10 hj10 hf10 => ?_
    have hx := (Sq.lst (ks.map .str) (S := S10)).ixm (k := k10) (by omega)
    rw [hx]
    simp
    refine ⟨u ++ [ks[k10]'(by omega)], by simp; omega, ?_, by simp, hj10, hf9.trans hf10⟩
    intro k hk
    rcases List.mem_append.mp hk with hk | hk
    · exact hua k hk
    · rw [List.mem_singleton.mp hk]
      exact hab _ (List.getElem_mem _)
  · rintro acc S9 ⟨u, hu9, hua, rfl, hj9, hf9⟩
    refine ⟨stays_nil _, ?_⟩
    simp at hu9
    simp [tLst]
    exact ⟨by omega, hq u S9 (by omega) hua hj9 ((hf7.trans hf8).trans hf9)⟩
end
end Pw.Lw

set_option Elab.async false
set_option linter.all false
set_option maxRecDepth 100000
set_option maxHeartbeats 1000000
namespace Pw.Lw
open PySem PySem.Spec PyProof.Rows L2 Pw
section
variable {n : Nat} {S : Sto} {X : Xc → Sto → Prop}
theorem rep_str (x : Str) : binop .mul false (.lst [.str x]) (.int 2) S = .ok (.lst [.str x, .str x]) S := by
  show bMul false S (.lst [.str x]) (.int 2) = _
  unfold bMul
  simp only
  rw [if_pos ⟨by decide, by decide, by simp⟩]
  unfold mkL
  rw [if_pos (by rw [sizeLine_eq]; simp)]
  rfl
theorem set_ix1 {j : Nat} {a b v : D} (h : S[j]? = some (.lst [a, b])) : setItemD (.ref j) (.int 1) v S = some (S.set j (.lst [a, v])) := by
  unfold setItemD
  simp only [h]
  rfl
theorem w_stock {j : Nat} {Q : D → Sto → Prop} (h : Jr j S) (hq : ∀ (st : List So) (S2 : Sto), SkOk st → Jr j S2 → Fr (· = j) S S2 → Q (encSt st) S2) : Wp (cl (n + 3) 38 [.ref j] S) Q X := by
  refine Wp_call (F := f38) rfl rfl ?_
  unfold f38
  have hlt := h.lt
  rw [WpS_cons]
  simp [-ss_cons, dVar, sizeLine_eq]
  refine w_draw h (by decide) (by decide) fun k S1 hk hj1 hf1 => ?_
  simp [-ss_cons, c_gt]
  refine Wp.then (Q := fun d S' => S' = S1 ∧ ∃ ks : List Str, d = .lst (ks.map .str) ∧ ks.length = 2 ∧ ∀ k ∈ ks, abk k) ?_ ?_
  · split
    · simp [rep_str, sizeLine_eq]
      exact ⟨["a", "a"], rfl, rfl, by intro k hk; simp at hk; exact .inl hk⟩
    · simp [sizeLine_eq]
      exact ⟨["a", "b"], rfl, rfl, by intro k hk; simpa [abk] using hk⟩
  rintro d S1 ⟨rfl, ks, rfl, hks, hab⟩
  have hl1 := hf1.1
  refine w_words (hj1.push _) fun ws S2 hws hj2 hf2 => ?_
  rw [WpS_cons]
  simp [-ss_cons, dVar]
  refine w_draw hj2 (by decide) (by decide) fun k2 S3 hk2 hj3 hf3 => ?_
  simp [-ss_cons, b_add]
  rw [rng1 (j := (2 + (k2 : Int))) (by omega) (by omega)]
  simp [-ss_cons]
  have hfG : FrG (· = j) S S3 := (hf1.g.trans (FrG.push _)).trans (hf2.trans hf3).g
  have hn3 : S3[S.length]? = some (.lst []) := by
    rw [hf3.2 _ (by omega), hf2.2 _ (by omega), ← hl1, List.getElem?_append_right (Nat.le_refl _), Nat.sub_self]
    rfl
  refine WpS_for (fun i e S' => ∃ (st : List So) (x4 x5 x6 x7 : Option D), st.length = i ∧ st.map (·.w) = ws.take i ∧ (∀ s ∈ st, SoOk s) ∧ e = [some (.ref j), some (.lst (ks.map .str)), some (.ref S.length), some (.lst (ws.map .str)), x4, x5, x6, x7] ∧ Jr j S' ∧ FrG (· = j) S S' ∧ S'[S.length]? = some (.lst (st.map encSo))) (List.range (2 + (k2 : Int)).toNat) 0 _ _ ?_ ?_ ?_
  · exact ⟨[], none, none, none, none, rfl, by simp, (fun _ h => nomatch h), by rw [← hl1], hj3, hfG, hn3⟩
  · rintro i e S5 hi ⟨st, x4, x5, x6, x7, hst, hwm, hok, rfl, hj5, hf5, hn5⟩
    refine ⟨stays_nil _, _, rfl, ?_⟩
    simp at hi
    simp [-ss_cons]
    rw [WpS_cons]
    simp [-ss_cons, sizeLine_eq, -v_pr, -v_comp]
    rw [v_comp]
    simp [-ss_cons, -v_pr, -v_comp]
    rw [rng1 (j := 2) (by decide) (by decide)]
    simp [-ss_cons, -v_pr, -v_comp]
    refine Wp_comp (fun q acc S' => ∃ us : List (List Str), us.length = q ∧ (∀ u ∈ us, u.length ≤ 2 ∧ ∀ k ∈ u, abk k) ∧ acc = us.map sT ∧ Jr j S' ∧ Fr (· = j) S5 S') (List.range 2) 0 [] S5 (by simp [sizeLine_eq]) ⟨[], rfl, (fun _ h => nomatch h), rfl, hj5, Fr.refl⟩ ?_ ?_
    · rintro q acc S6 hq2 ⟨us, hu, hv, rfl, hj6, hf6⟩
      refine ⟨stays_nil _, _, rfl, ?_⟩
      rw [tt_none, Wp_ok, if_pos rfl]
      refine w_side (n := n + 1) _ hj6 hks hab rfl rfl rfl fun l S7 hl2 hla hj7 hf7 => ?_
      refine ⟨us ++ [l], by simp; omega, ?_, by simp, hj7, hf6.trans hf7⟩
      intro v hv2
      rcases List.mem_append.mp hv2 with hv2 | hv2
      · exact hv v hv2
      · rw [List.mem_singleton.mp hv2]; exact ⟨hl2, hla⟩
    · rintro acc S6 ⟨us, hu, hv, rfl, hj6, hf6⟩
      refine ⟨stays_nil _, ?_⟩
      obtain ⟨u1, u2, rfl⟩ : ∃ u1 u2, us = [u1, u2] := by
        match us, hu with
        | [u1, u2], _ => exact ⟨u1, u2, rfl⟩
      have hu1 := hv u1 (by simp)
      have hu2 := hv u2 (by simp)
      have hln := (List.getElem?_eq_some_iff.mp hn5).1
      have hl6 := hf6.1
      simp [-ss_cons, sizeLine_eq]
      have hb : (S6 ++ [MO.lst [sT u1, sT u2]])[S6.length]? = some (.lst [sT u1, sT u2]) := by simp
      have y0 := (Sq.ref hb).ix (k := 0) (by simp)
      have y1 := (Sq.ref hb).ix (k := 1) (by simp)
      simp at y0 y1
      have eadd : ∀ S : Sto, binop .add false (sT u1) (sT u2) S = .ok (sT (u1 ++ u2)) S := fun S => by
        rw [sT, sT, b_addt, if_pos (small (by simp; omega))]; simp [sT]
      have ene := c_netnil (S := S6 ++ [MO.lst [sT u1, sT u2]]) (u1 ++ u2)
      -- the second side, as it stands behind
      obtain ⟨u3, hu3, hu3a, hu3n, eu3⟩ : ∃ u3 : List Str, u3.length ≤ 2 ∧ (∀ k ∈ u3, abk k) ∧ (u1 ≠ [] ∨ u3 ≠ []) ∧ u3 = if (u1 ++ u2).isEmpty then (["a"] : List Str) else u2 := by
        by_cases hem : (u1 ++ u2).isEmpty = true
        · exact ⟨["a"], by simp, by intro k hk; simp at hk; exact .inl hk, by simp, by rw [if_pos hem]⟩
        · refine ⟨u2, hu2.1, hu2.2, ?_, by rw [if_neg hem]⟩
          rw [List.isEmpty_iff, List.append_eq_nil_iff] at hem
          by_cases z : u1 = []
          · exact .inr fun z2 => hem ⟨z, z2⟩
          · exact .inl z
      rw [WpS_cons]
      have es := set_ix1 (v := sT u3) hb
      refine WpS.join (fun e S' => e = [some (.ref j), some (.lst (ks.map .str)), some (.ref S.length), some (.lst (ws.map .str)), some (.int (i : Int)), x5, x6, some (.ref S6.length)] ∧ S' = (S6 ++ [MO.lst [sT u1, sT u2]]).set S6.length (.lst [sT u1, sT u3])) ?_ ?_
      · by_cases hem : (u1 ++ u2).isEmpty = true
        · rw [if_pos hem] at eu3
          rw [hem] at ene
          simp at ene
          subst eu3
          simp only [sT, List.map_cons, List.map_nil] at es
          simp [-ss_cons, dVar, y0, y1, eadd, ene, sizeLine_eq]
          have es' : setItemD (.ref S6.length) (.int 1) (.tup [.str (Str.ofString "a")]) (S6 ++ [MO.lst [sT u1, sT u2]]) = _ := es
          rw [es']
          simp [sT]
        · rw [if_neg hem] at eu3
          rw [Bool.not_eq_true] at hem
          rw [hem] at ene
          simp at ene
          subst eu3
          simp [-ss_cons, dVar, y0, y1, eadd, ene, sizeLine_eq, es]
      · rintro e S7 ⟨rfl, rfl⟩
        have hb3 : ((S6 ++ [MO.lst [sT u1, sT u2]]).set S6.length (.lst [sT u1, sT u3]))[S6.length]? = some (.lst [sT u1, sT u3]) := List.getElem?_set_self (by simp)
        have hn7 : ((S6 ++ [MO.lst [sT u1, sT u2]]).set S6.length (.lst [sT u1, sT u3]))[S.length]? = some (.lst (st.map encSo)) := by
          rw [List.getElem?_set_ne (by omega), List.getElem?_append_left (by omega), hf6.2 _ (by omega)]
          exact hn5
        have hj7 : Jr j ((S6 ++ [MO.lst [sT u1, sT u2]]).set S6.length (.lst [sT u1, sT u3])) := (hj6.push _).eq (List.getElem?_set_ne (by have := hj6.lt; omega))
        have hf7 : FrG (· = j) S ((S6 ++ [MO.lst [sT u1, sT u2]]).set S6.length (.lst [sT u1, sT u3])) := ((hf5.trans hf6.g).trans (FrG.push _)).setNew (by omega)
        generalize (S6 ++ [MO.lst [sT u1, sT u2]]).set S6.length (.lst [sT u1, sT u3]) = S7 at hb3 hn7 hj7 hf7
        have z0 := (Sq.ref hb3).ix (k := 0) (by simp)
        have z1 := (Sq.ref hb3).ix (k := 1) (by simp)
        simp at z0 z1
        have hi3 : i < ws.length := by rw [hws.len]; omega
        have zw := (Sq.lst (ws.map .str) (S := S7)).ixm hi3
        rw [WpS_cons]
        simp [-ss_cons, dVar, kd_refl hn7, Pr.kindOk, z0, z1, zw, sizeLine_eq]
        rw [p_app hn7 (by rw [sizeLine_eq, List.length_map]; omega)]
        simp
        simp only [Nat.zero_add] at hst hwm
        refine ⟨st ++ [⟨ws[i], u1, u3⟩], by simp; omega, ?_, ?_, hj7.eq (List.getElem?_set_ne (by omega)), hf7.setNew (Nat.le_refl _), ?_⟩
        · rw [List.map_append, hwm, List.take_succ, List.getElem?_eq_getElem hi3]; rfl
        · intro s hs
          rcases List.mem_append.mp hs with hs | hs
          · exact hok s hs
          · rw [List.mem_singleton.mp hs]
            exact ⟨hws.me _ (List.getElem_mem _), hu1.1, hu3, hu3n, hu1.2, hu3a⟩
        · rw [List.getElem?_set_self (List.getElem?_eq_some_iff.mp hn7).1]
          simp [encSo]
  · rintro e S5 ⟨st, x4, x5, x6, x7, hst, hwm, hok, rfl, hj5, hf5, hn5⟩
    refine ⟨stays_nil _, ?_⟩
    rw [WpS_cons]
    simp [-ss_cons, dVar, sizeLine_eq, (Sq.ref hn5).tuple]
    simp at hst
    refine Wp_close hf5 (fun l hl hA => hA ▸ hj5.low) ?_ fun hF hg => hq st _ ⟨by omega, by omega, ?_, hok⟩ (hj5.eq (hg _ h.lt)) hF
    · show D.pures _ = true
      exact pures_map pure_encSo st
    · rw [hwm]
      exact List.Sublist.nodup (List.take_sublist _ _) hws.nd
end
end Pw.Lw

set_option Elab.async false
set_option linter.all false
set_option maxRecDepth 100000
set_option maxHeartbeats 1000000
namespace Pw.Lw
open PySem PySem.Spec PyProof.Rows L2 Pw
section
variable {n : Nat} {S : Sto} {X : Xc → Sto → Prop}
/-- the wires' list -/
abbrev Wl (w : Nat) (ws : List Str) (S : Sto) : Prop := S[w]? = some (.lst (ws.map .str))
abbrev JW (j w : Nat) : Nat → Prop := fun l => l = j ∨ l = w
theorem Wl.low {w : Nat} {ws : List Str} (h : Wl w ws S) : Low S w := Low.lst h (pures_map (fun _ => rfl) ws)
theorem c_eqnil_n {x : List Nat} : cmpop .eq (.lst (x.map nD)) (.lst []) S = some x.isEmpty := by
  rw [c_eqd (a := .lst (x.map nD)) (b := .lst []) (nb_nT _) rfl (by
    have : D.deps (x.map nD) ≤ 0 := deps_map (g := nD) (fun _ => Nat.le_refl 0) _
    show D.deps _ + 1 ≤ 60
    omega)]
  cases x <;> simp
theorem w_wire {j w : Nat} {ws : List Str} {kind : Str} {fresh : Int} {Q : D → Sto → Prop} (h : Jr j S) (hw : Wl w ws S) (hjw : j ≠ w) (hl : ws.length ≤ 1000)
    (hq : ∀ (k : Nat) (ws2 : List Str) (S2 : Sto), ws2[k]? = some kind → (ws2 = ws ∨ ws2 = ws ++ [kind] ∧ k = ws.length) → Jr j S2 → Wl w ws2 S2 → Fr (JW j w) S S2 → Q (.int k) S2) : Wp (cl (n + 2) 39 [.ref j, .ref w, .str kind, .int fresh] S) Q X := by
  refine Wp_call (F := f39) rfl rfl ?_
  unfold f39
  have hlt := h.lt
  have hlw := (List.getElem?_eq_some_iff.mp hw).1
  rw [WpS_cons]
  simp [-ss_cons, dVar, sizeLine_eq, (Sq.ref hw).len]
  rw [rng1 (j := (ws.length : Int)) (by omega) (by omega)]
  simp [-ss_cons]
  refine Wp.of_eq (comp_filter (enc := fun (k : Nat) => D.int (k : Int)) (g := nD) (p := fun k => decide (ws.getD k ⟨#[]⟩ = kind)) (stays_nil _) (List.range ws.length) [] (by simp [sizeLine_eq]; omega) fun k hk => ⟨_, rfl, ?_, fun _ => by simp [dVar]⟩) ?_
  · have hk := List.mem_range.mp hk
    have hx := (Sq.ref hw).ixm hk
    simp [tt_some, dVar, hx, c_eqs]
    simp [List.getElem?_eq_getElem hk]
  rw [List.nil_append]
  refine ⟨?_, ?_⟩
  · rw [List.length_map]
    have := List.length_filter_le (fun k => decide (ws.getD k ⟨#[]⟩ = kind)) (List.range ws.length)
    rw [List.length_range] at this
    omega
  have hmem : ∀ k ∈ (List.range ws.length).filter (fun k => decide (ws.getD k ⟨#[]⟩ = kind)), ws[k]? = some kind := by
    intro k hk
    obtain ⟨h1, h2⟩ := List.mem_filter.mp hk
    have h1 := List.mem_range.mp h1
    have h2 := of_decide_eq_true h2
    rw [List.getD_eq_getElem?_getD, List.getElem?_eq_getElem h1] at h2
    rw [List.getElem?_eq_getElem h1]
    exact congrArg some h2
  have hlen : ((List.range ws.length).filter (fun k => decide (ws.getD k ⟨#[]⟩ = kind))).length ≤ ws.length := by
    have := List.length_filter_le (fun k => decide (ws.getD k ⟨#[]⟩ = kind)) (List.range ws.length)
    rwa [List.length_range] at this
  generalize (List.range ws.length).filter (fun k => decide (ws.getD k ⟨#[]⟩ = kind)) = th at hmem hlen
  -- a new one
  have hnew : ∀ S1, Jr j S1 → Wl w ws S1 → Fr (JW j w) S S1 → WpS (denSs (callN Fs Gn (n + 1)) Gn
            [.expr (.mth .append false (.v 1) [.v 2]), .ret (.bin .sub false (.pr .len false [.v 1]) (.k (.int 1)))]
            [some (.ref j), some (.ref w), some (.str kind), some (.int fresh), none, some (.lst (th.map nD))] S1) (fun _ _ => False) (fun d S' => Wp (closeR true S (SR.ret d S')) Q X) (fun x S' => Wp (closeR true S (SR.exc x [] S')) Q X) := by
    intro S1 hj1 hw1 hF1
    have hlw1 := (List.getElem?_eq_some_iff.mp hw1).1
    rw [WpS_cons]
    simp [-ss_cons, dVar, kd_refl hw1, Pr.kindOk]
    rw [p_app hw1 (by rw [sizeLine_eq, List.length_map]; omega)]
    simp [-ss_cons]
    rw [WpS_cons]
    have hw2 : Wl w (ws ++ [kind]) (S1.set w (.lst (ws.map .str ++ [.str kind]))) := by
      show _ = _
      rw [List.getElem?_set_self hlw1]; simp
    simp [-ss_cons, dVar, (Sq.ref hw2).len, b_sub]
    have hF2 : Fr (JW j w) S (S1.set w (.lst (ws.map .str ++ [.str kind]))) := hF1.trans (Fr.set (.inr rfl))
    have hj2 : Jr j (S1.set w (.lst (ws.map .str ++ [.str kind]))) := hj1.eq (List.getElem?_set_ne (Ne.symm hjw))
    refine Wp_close hF2.g (fun l hl hA => ?_) rfl fun hF hg => hq ws.length (ws ++ [kind]) _ (by simp) (.inr ⟨rfl, rfl⟩) (hj2.eq (hg _ hlt)) (by show _ = _; rw [hg _ hlw]; exact hw2) hF
    rcases hA with rfl | rfl
    · exact hj2.low
    · exact hw2.low
  rw [WpS_cons]
  refine WpS.join (fun e S' => th ≠ [] ∧ e = [some (.ref j), some (.ref w), some (.str kind), some (.int fresh), none, some (.lst (th.map nD))] ∧ Jr j S' ∧ Wl w ws S' ∧ Fr (JW j w) S S') ?_ ?_
  · simp [-ss_cons, dVar, c_eqnil_n]
    by_cases hth : th = []
    · subst hth
      simp [-ss_cons]
      exact (hnew S h hw Fr.refl).mono (fun _ _ z => z.elim) (fun _ _ z => z) (fun _ _ z => z)
    · have hth' : th.isEmpty = false := by cases th <;> simp_all
      simp [-ss_cons, hth', (Sq.ref hw).len, c_lt, hth]
      by_cases h9 : (ws.length : Int) < 9
      · simp [-ss_cons, h9]
        refine w_draw h (by decide) (by decide) fun k S1 hk hj1 hF1 => ?_
        have hw1 : Wl w ws S1 := by show _ = _; rw [hF1.2 w (Ne.symm hjw)]; exact hw
        have hF1' : Fr (JW j w) S S1 := hF1.mono fun l hl => .inl hl
        simp [-ss_cons, c_lt]
        by_cases hf : (k : Int) < fresh
        · simp [-ss_cons, hf]
          exact (hnew S1 hj1 hw1 hF1').mono (fun _ _ z => z.elim) (fun _ _ z => z) (fun _ _ z => z)
        · simp [-ss_cons, hf]
          exact ⟨hj1, hw1, hF1'⟩
      · simp [-ss_cons, h9]
        exact ⟨h, hw, Fr.refl⟩
  · rintro e S1 ⟨hth, rfl, hj1, hw1, hF1⟩
    rw [WpS_cons]
    have hpos : 0 < th.length := List.length_pos_iff.mpr hth
    simp [-ss_cons, dVar, lLst]
    refine w_draw hj1 (by omega) (by omega) fun k S2 hk hj2 hF2 => ?_
    have hx := (Sq.lst (th.map nD) (S := S2)).ixm (k := k) (by omega)
    have hm := hmem (th[k]'(by omega)) (List.getElem_mem _)
    rw [hx]
    simp [nD]
    generalize th[k]'_ = kk at hm
    have hw2 : Wl w ws S2 := by show _ = _; rw [hF2.2 w (Ne.symm hjw)]; exact hw1
    have hF12 : Fr (JW j w) S S2 := hF1.trans (hF2.mono fun l hl => .inl hl)
    refine Wp_close hF12.g (fun l hl hA => ?_) rfl fun hF hg => hq kk ws _ hm (.inl rfl) (hj2.eq (hg _ hlt)) (by show _ = _; rw [hg _ hlw]; exact hw2) hF
    rcases hA with rfl | rfl
    · exact hj2.low
    · exact hw2.low
/-- feet of a side of a box, at wires -/
structure Feet (ws : List Str) (side : List Str) (is : List Nat) (ws2 : List Str) : Prop where
  pre : ws <+: ws2
  len : ws2.length ≤ ws.length + side.length
  kd : kindsAt ws2 is = side
  in_ : In ws2 is
  new : ∀ k, ws.length ≤ k → k < ws2.length → k ∈ is
  el : ∀ x ∈ ws2, x ∈ ws ∨ x ∈ side
theorem atK_pre {ws ws2 : List Str} (h : ws <+: ws2) {k : Nat} (hk : k < ws.length) : atK ws2 k = atK ws k := by
  obtain ⟨t, rfl⟩ := h
  unfold atK
  rw [List.getD_eq_getElem?_getD, List.getD_eq_getElem?_getD, List.getElem?_append_left hk]
theorem kindsAt_pre {ws ws2 : List Str} (h : ws <+: ws2) {is : List Nat} (hi : In ws is) : kindsAt ws2 is = kindsAt ws is :=
  List.map_congr_left fun k hk => atK_pre h (hi k hk)
theorem In.pre {ws ws2 : List Str} (h : ws <+: ws2) {is : List Nat} (hi : In ws is) : In ws2 is := fun k hk => Nat.lt_of_lt_of_le (hi k hk) h.length_le
theorem Feet.nil (ws : List Str) : Feet ws [] [] ws := ⟨List.prefix_rfl, by simp, rfl, (fun _ h => nomatch h), fun k h1 h2 => by omega, fun x hx => .inl hx⟩
theorem Feet.snoc {ws side ws2 ws3 : List Str} {is : List Nat} {kind : Str} {k : Nat} (h : Feet ws side is ws2) (hk : ws3[k]? = some kind) (h3 : ws3 = ws2 ∨ ws3 = ws2 ++ [kind] ∧ k = ws2.length) : Feet ws (side ++ [kind]) (is ++ [k]) ws3 := by
  have hp : ws2 <+: ws3 := by
    rcases h3 with rfl | ⟨rfl, _⟩
    · exact List.prefix_rfl
    · exact List.prefix_append _ _
  have hlt := (List.getElem?_eq_some_iff.mp hk).1
  refine ⟨h.pre.trans hp, ?_, ?_, ?_, ?_, ?_⟩
  · have := h.len
    rw [List.length_append, List.length_singleton]
    rcases h3 with rfl | ⟨rfl, _⟩
    · omega
    · rw [List.length_append, List.length_singleton]; omega
  · have e := kindsAt_pre hp h.in_
    rw [h.kd] at e
    show (is ++ [k]).map (atK ws3) = _
    rw [List.map_append]
    show kindsAt ws3 is ++ [atK ws3 k] = _
    rw [e]
    unfold atK
    rw [List.getD_eq_getElem?_getD, hk]
    rfl
  · intro i hi
    rcases List.mem_append.mp hi with hi | hi
    · exact In.pre hp h.in_ i hi
    · rw [List.mem_singleton.mp hi]; exact hlt
  · intro i h1 h2
    rcases h3 with rfl | ⟨rfl, rfl⟩
    · exact List.mem_append_left _ (h.new i h1 h2)
    · rw [List.length_append, List.length_singleton] at h2
      by_cases q : i < ws2.length
      · exact List.mem_append_left _ (h.new i h1 q)
      · have : i = ws2.length := by omega
        subst this
        simp
  · intro x hx
    have : x ∈ ws2 ∨ x = kind := by
      rcases h3 with rfl | ⟨rfl, _⟩
      · exact .inl hx
      · simpa using hx
    rcases this with q | q
    · rcases h.el x q with q | q
      · exact .inl q
      · exact .inr (List.mem_append_left _ q)
    · subst q; exact .inr (by simp)
theorem w_feet {α : Type} {enc : α → D} {kd : α → Str} {elt : Ev → Sto → R D} {t : Ev → Sto → R Bool} {tg : Tg} {own : List Nat} {e0 : Ev} {xs : List D} {j w : Nat} {ws : List Str} (ys : List α) (ht : t = fun _ S => .ok true S) (h : Jr j S) (hw : Wl w ws S) (hjw : j ≠ w) (hl : ws.length + ys.length ≤ 1000)
    (helt : ∀ y ∈ ys, ∀ S', ∃ e1, Tg.put tg (enc y) S' (wipeE e0 own) = some e1 ∧ elt e1 S' = cl (n + 2) 39 [.ref j, .ref w, .str (kd y), .int 3] S') {Q : List D → Sto → Prop}
    (hq : ∀ (is : List Nat) (ws2 : List Str) (S2 : Sto), Feet ws (ys.map kd) is ws2 → is.length = ys.length → Jr j S2 → Wl w ws2 S2 → Fr (JW j w) S S2 → Q (is.map nD) S2) :
    Wp (compLoop tg own ⟨xs, []⟩ e0 t elt (ys.map enc) [] S) Q X := by
  refine Wp_comp (fun i acc S' => ∃ is ws2, acc = is.map nD ∧ is.length = i ∧ Feet ws ((ys.take i).map kd) is ws2 ∧ Jr j S' ∧ Wl w ws2 S' ∧ Fr (JW j w) S S') ys 0 [] S (small (by simp; omega)) ⟨[], ws, rfl, rfl, by simpa using Feet.nil ws, h, hw, Fr.refl⟩ ?_ ?_
  · rintro i acc S2 hi ⟨is, ws2, rfl, his, hft, hj2, hw2, hF2⟩
    obtain ⟨e1, h1, h2⟩ := helt ys[i] (List.getElem_mem hi) S2
    refine ⟨stays_nil _, e1, h1, ?_⟩
    subst ht
    rw [Wp_ok, if_pos rfl, h2]
    simp only [Nat.zero_add] at hft his ⊢
    have hlen := hft.len
    simp at hlen
    refine w_wire hj2 hw2 hjw (by omega) fun k ws3 S3 hk h3 hj3 hw3 hF3 => ?_
    have ht : (ys.take (i + 1)).map kd = (ys.take i).map kd ++ [kd ys[i]] := by rw [List.take_succ, List.getElem?_eq_getElem hi, List.map_append]; rfl
    rw [ht]
    exact ⟨is ++ [k], ws3, by simp, by simp [his], hft.snoc hk h3, hj3, hw3, hF2.trans hF3⟩
  · rintro acc S2 ⟨is, ws2, rfl, his, hft, hj2, hw2, hF2⟩
    refine ⟨stays_nil _, ?_⟩
    rw [Nat.zero_add, List.take_length] at hft
    exact hq is ws2 S2 hft (by simpa using his) hj2 hw2 hF2
end
end Pw.Lw

set_option Elab.async false
set_option linter.all false
set_option maxRecDepth 100000
set_option maxHeartbeats 1000000
namespace Pw.Lw
open PySem PySem.Spec PyProof.Rows L2 Pw
section
variable {n : Nat} {S : Sto} {X : Xc → Sto → Prop}
structure Boxes (st : List So) (ws : List Str) (bs : List Bx) (ws2 : List Str) : Prop where
  pre : ws <+: ws2
  len : ws2.length ≤ ws.length + 4 * bs.length
  ok : ∀ b ∈ bs, BxOk st ws2 b
  new : ∀ k, ws.length ≤ k → k < ws2.length → k ∈ placed bs
  el : ∀ x ∈ ws2, x ∈ ws ∨ abk x
  me : ∀ b ∈ bs, b.w ∈ menu
theorem Boxes.nil (st : List So) (ws : List Str) : Boxes st ws [] ws := ⟨List.prefix_rfl, by simp, (fun _ h => nomatch h), fun k h1 h2 => by omega, fun x hx => .inl hx, (fun _ h => nomatch h)⟩
theorem BxOk.pre {st : List So} {ws ws2 : List Str} {b : Bx} (h : BxOk st ws b) (p : ws <+: ws2) : BxOk st ws2 b := by
  obtain ⟨s, hs, hw, hi, ho⟩ := h.so
  exact ⟨h.i4, h.o4, In.pre p h.ii, In.pre p h.io, s, hs, hw, by rw [hi, kindsAt_pre p h.ii], by rw [ho, kindsAt_pre p h.io]⟩
theorem placed_snoc (bs : List Bx) (b : Bx) : placed (bs ++ [b]) = placed bs ++ (b.i ++ b.o) := by simp [placed]
theorem Boxes.snoc {st : List So} {ws ws2 ws3 ws4 : List Str} {bs : List Bx} {s : So} {is os : List Nat} (h : Boxes st ws bs ws2) (hs : s ∈ st) (hso : SoOk s) (h1 : Feet ws2 s.i is ws3) (h2 : Feet ws3 s.o os ws4) : Boxes st ws (bs ++ [⟨s.w, is, os⟩]) ws4 := by
  have l1 : is.length = s.i.length := by rw [← h1.kd]; simp [kindsAt]
  have l2 : os.length = s.o.length := by rw [← h2.kd]; simp [kindsAt]
  have hi := hso.i2
  have ho := hso.o2
  refine ⟨(h.pre.trans h1.pre).trans h2.pre, ?_, ?_, ?_, ?_, ?_⟩
  · have := h.len
    have := h1.len
    have := h2.len
    rw [List.length_append, List.length_singleton]
    omega
  · intro b hb
    rcases List.mem_append.mp hb with hb | hb
    · exact (h.ok b hb).pre (h1.pre.trans h2.pre)
    · rw [List.mem_singleton.mp hb]
      refine ⟨by show is.length ≤ 4; omega, by show os.length ≤ 4; omega, In.pre h2.pre h1.in_, h2.in_, s, hs, rfl, ?_, h2.kd.symm⟩
      show s.i = kindsAt ws4 is
      rw [kindsAt_pre h2.pre h1.in_, h1.kd]
  · intro k hk1 hk2
    rw [placed_snoc]
    by_cases q : k < ws2.length
    · exact List.mem_append_left _ (h.new k hk1 q)
    · by_cases q2 : k < ws3.length
      · exact List.mem_append_right _ (List.mem_append_left _ (h1.new k (by omega) q2))
      · exact List.mem_append_right _ (List.mem_append_right _ (h2.new k (by omega) hk2))
  · intro x hx
    rcases h2.el x hx with q | q
    · rcases h1.el x q with q | q
      · exact h.el x q
      · exact .inr (hso.ki x q)
    · exact .inr (hso.ko x q)
  · intro b hb
    rcases List.mem_append.mp hb with hb | hb
    · exact h.me b hb
    · rw [List.mem_singleton.mp hb]; exact hso.w
theorem w_boxes {j w : Nat} {st : List So} {ws : List Str} {many : Nat} {Q : D → Sto → Prop} (h : Jr j S) (hw : Wl w ws S) (hjw : j ≠ w) (hst : SkOk st) (hl : ws.length + 4 * many ≤ 900)
    (hq : ∀ (bs : List Bx) (ws2 : List Str) (S2 : Sto), Boxes st ws bs ws2 → bs.length = many → Jr j S2 → Wl w ws2 S2 → Fr (JW j w) S S2 → Q (.tup (bs.map encB)) S2) :
    Wp (cl (n + 3) 40 [.ref j, encSt st, .ref w, .int (many : Int)] S) Q X := by
  have hlt := h.lt
  have hlw := (List.getElem?_eq_some_iff.mp hw).1
  have hl2 := hst.l2
  have hl3 := hst.l3
  refine Wp_call (F := f40) rfl rfl ?_
  unfold f40
  rw [WpS_cons]
  simp [-ss_cons, dVar, sizeLine_eq]
  rw [WpS_cons]
  simp [-ss_cons, dVar]
  rw [rng1 (j := (many : Int)) (by omega) (by omega)]
  simp [-ss_cons]
  refine WpS_for (fun i e S' => ∃ (bs : List Bx) (ws2 : List Str) (x5 x6 x7 x8 x9 x10 x11 : Option D), bs.length = i ∧ Boxes st ws bs ws2 ∧ e = [some (.ref j), some (encSt st), some (.ref w), some (.int (many : Int)), some (.ref S.length), x5, x6, x7, x8, x9, x10, x11] ∧ Jr j S' ∧ Wl w ws2 S' ∧ FrG (JW j w) S S' ∧ S'[S.length]? = some (.lst (bs.map encB))) (List.range many) 0 _ _ ?_ ?_ ?_
  · exact ⟨[], ws, none, none, none, none, none, none, none, rfl, Boxes.nil st ws, rfl, h.push _, by show _ = _; rw [List.getElem?_append_left hlw]; exact hw, FrG.push _, by simp⟩
  · rintro i e S1 hi ⟨bs, ws2, x5, x6, x7, x8, x9, x10, x11, hbl, hB, rfl, hj1, hw1, hf1, hn1⟩
    refine ⟨stays_nil _, _, rfl, ?_⟩
    simp at hi
    simp only [Nat.zero_add] at hbl
    have hwl := hB.len
    simp [-ss_cons]
    rw [WpS_cons]
    have eL : ∀ S, prim .len false [encSt st] S = .ok (.int st.length) S := fun S => by rw [encSt, lTup, List.length_map]
    simp [-ss_cons, dVar, eL]
    refine w_draw hj1 (by omega) (by omega) fun k S2 hk hj2 hF2 => ?_
    have hw2 : Wl w ws2 S2 := by show _ = _; rw [hF2.2 w (Ne.symm hjw)]; exact hw1
    have hn2 : S2[S.length]? = some (.lst (bs.map encB)) := by rw [hF2.2 _ (by omega)]; exact hn1
    have hf2 : FrG (JW j w) S S2 := hf1.trans (hF2.mono fun l hl => .inl hl).g
    have hks : k < st.length := by omega
    have hix := (Sq.tup (S := S2) (st.map encSo)).ixm hks
    have hs := List.getElem_mem hks
    have hso := hst.so _ hs
    generalize st[k]'_ = s at hix hs hso
    have hix' : Pw.index S2 (encSt st) (.int (k : Int)) = some (encSo s) := hix
    have hi2 := hso.i2
    have ho2 := hso.o2
    have put3 : ∀ S, Tg.put (.tu [.n 6, .n 7, .n 8]) (encSo s) S [some (.ref j), some (encSt st), some (.ref w), some (.int (many : Int)), some (.ref S.length), some (.int (i : Int)), x6, x7, x8, x9, x10, x11] = some [some (.ref j), some (encSt st), some (.ref w), some (.int (many : Int)), some (.ref S.length), some (.int (i : Int)), some (.str s.w), some (sT s.i), some (sT s.o), x9, x10, x11] := fun _ => rfl
    simp [-ss_cons, hix', encSo]
    rw [WpS_cons]
    simp [-ss_cons, dVar, sizeLine_eq]
    refine Wp_comp (enc := sT) (fun q acc S' => ∃ ws3, Jr j S' ∧ Wl w ws3 S' ∧ Fr (JW j w) S2 S' ∧ ((q = 0 ∧ acc = [] ∧ ws3 = ws2) ∨ (q = 1 ∧ ∃ is, acc = [nT is] ∧ Feet ws2 s.i is ws3) ∨ (q = 2 ∧ ∃ is os ws', acc = [nT is, nT os] ∧ Feet ws2 s.i is ws' ∧ Feet ws' s.o os ws3))) [s.i, s.o] 0 [] S2 (by simp [sizeLine_eq]) ⟨ws2, hj2, hw2, Fr.refl, .inl ⟨rfl, rfl, rfl⟩⟩ ?_ ?_
    · rintro q acc S3 hq2 ⟨ws3, hj3, hw3, hF3, hcase⟩
      refine ⟨stays_nil _, _, rfl, ?_⟩
      simp only [Nat.zero_add] at hcase ⊢
      rcases hcase with ⟨rfl, rfl, rfl⟩ | ⟨rfl, is, rfl, hft⟩ | ⟨rfl, _⟩
      · simp [tt_none, dVar, sT]
        refine w_feet (n := n) (enc := D.str) (kd := id) s.i (tt_none (C := callN Fs Gn (n + 2)) (G := Gn)) hj3 hw3 hjw (by omega) (fun y hy S' => ⟨_, rfl, by simp [dVar]⟩) fun is ws4 S4 hft hil hj4 hw4 hF4 => ?_
        refine ⟨small (by rw [List.length_map]; omega), ?_⟩
        simp [tLst]
        exact ⟨hj4, ws4, hw4, hF3.trans hF4, is, rfl, by simpa using hft⟩
      · simp [tt_none, dVar, sT]
        have := hft.len
        refine w_feet (n := n) (enc := D.str) (kd := id) s.o (tt_none (C := callN Fs Gn (n + 2)) (G := Gn)) hj3 hw3 hjw (by omega) (fun y hy S' => ⟨_, rfl, by simp [dVar]⟩) fun os ws4 S4 hft2 hil hj4 hw4 hF4 => ?_
        refine ⟨small (by rw [List.length_map]; omega), ?_⟩
        simp [tLst]
        exact ⟨hj4, ws4, hw4, hF3.trans hF4, is, os, ⟨rfl, rfl⟩, ws3, hft, by simpa using hft2⟩
      · simp at hq2
    · rintro acc S3 ⟨ws3, hj3, hw3, hF3, hcase⟩
      refine ⟨stays_nil _, ?_⟩
      rcases hcase with ⟨h0, _⟩ | ⟨h0, _⟩ | ⟨_, is, os, ws', rfl, hft, hft2⟩
      · simp at h0
      · simp at h0
      · have hn3 : S3[S.length]? = some (.lst (bs.map encB)) := by rw [hF3.2 _ (by rintro (q | q) <;> omega)]; exact hn2
        have y0 := (Sq.lst (S := S3) [nT is, nT os]).ix (k := 0) (by simp)
        have y1 := (Sq.lst (S := S3) [nT is, nT os]).ix (k := 1) (by simp)
        simp at y0 y1
        simp [-ss_cons]
        rw [WpS_cons]
        simp [-ss_cons, dVar, kd_refl hn3, Pr.kindOk, y0, y1, sizeLine_eq]
        rw [p_app hn3 (by rw [sizeLine_eq, List.length_map]; omega)]
        simp
        refine ⟨bs ++ [⟨s.w, is, os⟩], by simp; omega, ⟨ws3, hB.snoc hs hso hft hft2, hj3.eq (List.getElem?_set_ne (by omega)), ?_, (hf2.trans hF3.g).setNew (Nat.le_refl _), ?_⟩⟩
        · show _ = _
          rw [List.getElem?_set_ne (by omega)]; exact hw3
        · rw [List.getElem?_set_self (List.getElem?_eq_some_iff.mp hn3).1]
          simp [encB]
  · rintro e S1 ⟨bs, ws2, x5, x6, x7, x8, x9, x10, x11, hbl, hB, rfl, hj1, hw1, hf1, hn1⟩
    refine ⟨stays_nil _, ?_⟩
    rw [WpS_cons]
    simp [-ss_cons, dVar, sizeLine_eq, (Sq.ref hn1).tuple]
    simp at hbl
    refine Wp_close hf1 (fun l hl hA => ?_) ?_ fun hF hg => hq bs ws2 _ hB hbl (hj1.eq (hg _ hlt)) (by show _ = _; rw [hg _ hlw]; exact hw1) hF
    · rcases hA with rfl | rfl
      · exact hj1.low
      · exact hw1.low
    · show D.pures _ = true
      exact pures_map pure_encB bs
end
end Pw.Lw

set_option Elab.async false
set_option linter.all false
set_option maxRecDepth 100000
set_option maxHeartbeats 1000000
namespace Pw.Lw
open PySem PySem.Spec PyProof.Rows L2 Pw
section
variable {n : Nat} {S : Sto} {X : Xc → Sto → Prop}
structure LeftW (st : List So) (many : Nat) (w : Wb) : Prop where
  bx : Boxes st [] w.bs w.ks
  len : w.bs.length = many
  il : ∀ k ∈ w.l ++ w.r, k < w.ks.length
  nd : (w.l ++ w.r).Nodup
  l5 : (w.l ++ w.r).length ≤ 5
theorem c_ne_ref {l : Nat} {xs : List D} {y : D} (h : S[l]? = some (.lst xs)) : cmpop .ne (.ref l) y S = cmpop .ne (.lst xs) y S := by
  simp only [cmpop, deq, pyd, rd_ref, h, rdM_lst, rd_lst]
theorem c_nenil_n {x : List Nat} : cmpop .ne (.lst (x.map nD)) (.lst []) S = some (!x.isEmpty) := by
  rw [c_ned (a := .lst (x.map nD)) (b := .lst []) (nb_nT _) rfl (by
    have : D.deps (x.map nD) ≤ 0 := deps_map (g := nD) (fun _ => Nat.le_refl 0) _
    show D.deps _ + 1 ≤ 60
    omega)]
  cases x <;> simp
theorem w_left {j : Nat} {st : List So} {many : Nat} {Q : D → Sto → Prop} (h : Jr j S) (hst : SkOk st) (hl : many ≤ 100)
    (hq : ∀ (w : Wb) (S2 : Sto), LeftW st many w → Jr j S2 → Fr (· = j) S S2 → Q (encW w) S2) :
    Wp (cl (n + 4) 42 [.ref j, encSt st, .int (many : Int)] S) Q X := by
  have hlt := h.lt
  refine Wp_call (F := f42) rfl rfl ?_
  unfold f42
  rw [WpS_cons]
  simp [-ss_cons, dVar, sizeLine_eq]
  rw [WpS_cons]
  simp [-ss_cons, dVar]
  refine w_boxes (ws := []) (h.push _) (by show (S ++ [MO.lst []])[S.length]? = some (.lst []); simp) (by omega) hst (by simp; omega) fun bs ks S1 hB hbl hj1 hw1 hF1 => ?_
  have hl1 : S1.length = S.length + 1 := by rw [hF1.1]; simp
  have hks : ks.length ≤ 400 := by have := hB.len; simp at this; omega
  rw [WpS_cons]
  simp [-ss_cons, dVar, (Sq.ref hw1).len]
  rw [p_rngL (j := (ks.length : Int)) (by omega)]
  simp [-ss_cons, sizeLine_eq]
  refine ⟨by omega, ?_⟩
  rw [WpS_cons]
  simp only [s_while]
  have e0 : FrG (· = j) S (S1 ++ [MO.lst ((List.range ks.length).map fun (k : Nat) => D.int (k : Int)), MO.lst [], MO.lst []]) := by
    refine ⟨by simp; omega, fun l hl hA => ?_⟩
    rw [List.getElem?_append_left (by omega), hF1.2 l (by rintro (q | q) <;> omega), List.getElem?_append_left hl]
  have old : ∀ l, l < S.length + 1 → (S1 ++ [MO.lst ((List.range ks.length).map fun (k : Nat) => D.int (k : Int)), MO.lst [], MO.lst []])[l]? = S1[l]? := fun l hl => List.getElem?_append_left (by omega)
  have n1 : (S1 ++ [MO.lst ((List.range ks.length).map fun (k : Nat) => D.int (k : Int)), MO.lst [], MO.lst []])[S.length + 1]? = some (.lst ((List.range ks.length).map nD)) := by
    rw [List.getElem?_append_right (by omega), show S.length + 1 - S1.length = 0 by omega]; rfl
  have n2 : (S1 ++ [MO.lst ((List.range ks.length).map fun (k : Nat) => D.int (k : Int)), MO.lst [], MO.lst []])[S.length + 2]? = some (.lst []) := by
    rw [List.getElem?_append_right (by omega), show S.length + 2 - S1.length = 1 by omega]; rfl
  have n3 : (S1 ++ [MO.lst ((List.range ks.length).map fun (k : Nat) => D.int (k : Int)), MO.lst [], MO.lst []])[S.length + 3]? = some (.lst []) := by
    rw [List.getElem?_append_right (by omega), show S.length + 3 - S1.length = 2 by omega]; rfl
  have hj1' : Jr j (S1 ++ [MO.lst ((List.range ks.length).map fun (k : Nat) => D.int (k : Int)), MO.lst [], MO.lst []]) := hj1.eq (old j (by omega))
  have hw1' : Wl S.length ks (S1 ++ [MO.lst ((List.range ks.length).map fun (k : Nat) => D.int (k : Int)), MO.lst [], MO.lst []]) := by show _ = _; rw [old _ (by omega)]; exact hw1
  rw [hl1]
  have n2' := n2
  have n3' := n3
  generalize (S1 ++ [MO.lst ((List.range ks.length).map fun (k : Nat) => D.int (k : Int)), MO.lst [], MO.lst []]) = S2 at e0 n1 n2' n3' hj1' hw1'
  refine WpS_while (fun μ e S' => ∃ (rest l r : List Nat) (x7 : Option D), μ = rest.length ∧ e = [some (.ref j), some (encSt st), some (.int (many : Int)), some (.ref S.length), some (.tup (bs.map encB)), some (.ref (S.length + 1)), some (.lst [.ref (S.length + 1 + 1), .ref (S.length + 1 + 1 + 1)]), x7] ∧
    Jr j S' ∧ Wl S.length ks S' ∧ FrG (· = j) S S' ∧ S'[S.length + 1]? = some (.lst (rest.map nD)) ∧ S'[S.length + 1 + 1]? = some (.lst (l.map nD)) ∧ S'[S.length + 1 + 1 + 1]? = some (.lst (r.map nD)) ∧
    (rest ++ (l ++ r)).Nodup ∧ (∀ k ∈ rest ++ (l ++ r), k < ks.length) ∧ (l ++ r).length ≤ 5 ∧ rest.length ≤ 400) ?_ ks.length _ _ ⟨List.range ks.length, [], [], none, by simp, rfl, hj1', hw1', e0, n1, n2', n3', by simpa using List.nodup_range, by simp, by simp, by simp; omega⟩
  rintro μ e S3 ⟨rest, l, r, x7, rfl, rfl, hj3, hw3, hf3, m1, m2, m3, hnd, hlt3, h5, h400⟩
  simp [-ss_cons, dVar, sizeLine_eq, c_ne_ref m1, c_nenil_n]
  cases hr : rest with
  | nil =>
    subst hr
    simp [-ss_cons]
    rw [WpS_cons]
    have i0 := (Sq.lst (S := S3) [D.ref (S.length + 1 + 1), D.ref (S.length + 1 + 1 + 1)]).ix (k := 0) (by simp)
    have i1 := (Sq.lst (S := S3) [D.ref (S.length + 1 + 1), D.ref (S.length + 1 + 1 + 1)]).ix (k := 1) (by simp)
    simp at i0 i1
    simp [-ss_cons, dVar, (Sq.ref hw3).tuple, i0, i1, (Sq.ref m2).tuple, (Sq.ref m3).tuple, sizeLine_eq]
    have hp := pure_encW ⟨ks, bs, l, r⟩
    refine Wp_close hf3 (fun l hl hA => hA ▸ hj3.low) hp fun hF hg => hq ⟨ks, bs, l, r⟩ _ ⟨hB, hbl, by simpa using hlt3, by simpa using hnd, h5⟩ (hj3.eq (hg _ hlt)) hF
  | cons a rest' =>
    rw [← hr]
    have hrl : 0 < rest.length := by rw [hr]; simp
    rw [if_neg (show ¬ rest = [] by rw [hr]; simp)]
    rw [WpS_cons]
    simp [-ss_cons, dVar, kd_refl m1, Pr.kindOk, (Sq.ref m1).len]
    refine w_draw hj3 (by omega) (by omega) fun q S4 hq4 hj4 hF4 => ?_
    have fr4 : ∀ l, j ≠ l → S4[l]? = S3[l]? := fun l hl => hF4.2 l (fun z => hl z.symm)
    have m1' : S4[S.length + 1]? = some (.lst (rest.map nD)) := by rw [fr4 _ (by omega)]; exact m1
    have m2' : S4[S.length + 1 + 1]? = some (.lst (l.map nD)) := by rw [fr4 _ (by omega)]; exact m2
    have m3' : S4[S.length + 1 + 1 + 1]? = some (.lst (r.map nD)) := by rw [fr4 _ (by omega)]; exact m3
    have hw4 : Wl S.length ks S4 := by show _ = _; rw [fr4 _ (by omega)]; exact hw3
    have hf4 := hf3.trans hF4.g
    have hql : q < rest.length := by omega
    simp [-ss_cons, kd_refl m1']
    rw [p_popat m1' (by rw [List.length_map]; exact hql) (by rw [List.length_map]; omega)]
    simp [-ss_cons]
    rw [map_erase' nD rest q]
    have hperm := perm_erase hql
    have hel := List.length_eraseIdx_of_lt hql
    generalize rest[q] = x at hperm
    generalize rest.eraseIdx q = rest2 at hperm hel
    have hlt1 := (List.getElem?_eq_some_iff.mp m1').1
    have k1 : (S4.set (S.length + 1) (.lst (rest2.map nD)))[S.length + 1]? = some (.lst (rest2.map nD)) := List.getElem?_set_self hlt1
    have fr5 : ∀ l, l ≠ S.length + 1 → (S4.set (S.length + 1) (.lst (rest2.map nD)))[l]? = S4[l]? := fun l hl => List.getElem?_set_ne (Ne.symm hl)
    have k2 : (S4.set (S.length + 1) (.lst (rest2.map nD)))[S.length + 1 + 1]? = some (.lst (l.map nD)) := by rw [fr5 _ (by omega)]; exact m2'
    have k3 : (S4.set (S.length + 1) (.lst (rest2.map nD)))[S.length + 1 + 1 + 1]? = some (.lst (r.map nD)) := by rw [fr5 _ (by omega)]; exact m3'
    have hw5 : Wl S.length ks (S4.set (S.length + 1) (.lst (rest2.map nD))) := by show _ = _; rw [fr5 _ (by omega)]; exact hw4
    have hj5 : Jr j (S4.set (S.length + 1) (.lst (rest2.map nD))) := hj4.eq (fr5 _ (by omega))
    have hf5 : FrG (· = j) S (S4.set (S.length + 1) (.lst (rest2.map nD))) := hf4.setNew (by omega)
    generalize S4.set (S.length + 1) (.lst (rest2.map nD)) = S5 at k1 k2 k3 hw5 hj5 hf5
    have hpall : (x :: (rest2 ++ (l ++ r))).Perm (rest ++ (l ++ r)) := by
      have := hperm.append_right (l ++ r)
      simpa using this
    have hnd2 : (x :: (rest2 ++ (l ++ r))).Nodup := hpall.nodup_iff.mpr hnd
    have hlt2 : ∀ k ∈ x :: (rest2 ++ (l ++ r)), k < ks.length := fun k hk => hlt3 k (hpall.mem_iff.mp hk)
    rw [List.nodup_cons] at hnd2
    rw [WpS_cons]
    simp [-ss_cons, dVar]
    refine w_draw hj5 (by decide) (by decide) fun q2 S6 hq6 hj6 hF6 => ?_
    have i0 := (Sq.lst (S := S6) [D.ref (S.length + 1 + 1), D.ref (S.length + 1 + 1 + 1)]).ix (k := 0) (by simp)
    have i1 := (Sq.lst (S := S6) [D.ref (S.length + 1 + 1), D.ref (S.length + 1 + 1 + 1)]).ix (k := 1) (by simp)
    simp at i0 i1
    have fr6 : ∀ l, j ≠ l → S6[l]? = S5[l]? := fun l hl => hF6.2 l (fun z => hl z.symm)
    have hw6 : Wl S.length ks S6 := by show _ = _; rw [fr6 _ (by omega)]; exact hw5
    have hf6 := hf5.trans hF6.g
    have g1 : S6[S.length + 1]? = some (.lst (rest2.map nD)) := by rw [fr6 _ (by omega)]; exact k1
    have g2 : S6[S.length + 1 + 1]? = some (.lst (l.map nD)) := by rw [fr6 _ (by omega)]; exact k2
    have g3 : S6[S.length + 1 + 1 + 1]? = some (.lst (r.map nD)) := by rw [fr6 _ (by omega)]; exact k3
    simp [-ss_cons, c_gt, i0, i1, (Sq.ref g2).len, (Sq.ref g3).len, b_add, c_lt]
    by_cases hz : 0 < q2
    · simp [-ss_cons, hz, c_lt]
      by_cases h4 : (l.length : Int) + r.length < 5
      · simp [-ss_cons, h4]
        have hl5 : l.length ≤ 5 := by omega
        have hr5 : r.length ≤ 5 := by omega
        rw [WpS_cons]
        simp [-ss_cons, dVar]
        refine w_draw hj6 (by decide) (by decide) fun q3 S7 hq7 hj7 hF7 => ?_
        have fr7 : ∀ l, j ≠ l → S7[l]? = S6[l]? := fun l hl => hF7.2 l (fun z => hl z.symm)
        have c1 : S7[S.length + 1]? = some (.lst (rest2.map nD)) := by rw [fr7 _ (by omega)]; exact g1
        have c2 : S7[S.length + 1 + 1]? = some (.lst (l.map nD)) := by rw [fr7 _ (by omega)]; exact g2
        have c3 : S7[S.length + 1 + 1 + 1]? = some (.lst (r.map nD)) := by rw [fr7 _ (by omega)]; exact g3
        have hw7 : Wl S.length ks S7 := by show _ = _; rw [fr7 _ (by omega)]; exact hw6
        have hf7 := hf6.trans hF7.g
        have t2 := (List.getElem?_eq_some_iff.mp c2).1
        have t3 := (List.getElem?_eq_some_iff.mp c3).1
        have ix := (Sq.lst (S := S7) [D.ref (S.length + 1 + 1), D.ref (S.length + 1 + 1 + 1)]).ix (k := q3) (by simp; omega)
        match q3, hq7, ix with
        | 0, _, ix =>
          have ix : Pw.index S7 (D.lst [D.ref (S.length + 1 + 1), D.ref (S.length + 1 + 1 + 1)]) (.int ((0 : Nat) : Int)) = some (.ref (S.length + 1 + 1)) := ix
          rw [ix]
          simp [-ss_cons, kd_refl c2, Pr.kindOk]
          rw [p_app c2 (by rw [sizeLine_eq, List.length_map]; omega)]
          simp
          have fr8 : ∀ k m, k ≠ S.length + 1 + 1 → (S7.set (S.length + 1 + 1) m)[k]? = S7[k]? := fun k m hk => List.getElem?_set_ne (Ne.symm hk)
          refine ⟨rest2.length, by omega, rest2, rfl, hj7.eq (fr8 _ _ (by omega)), by show _ = _; rw [fr8 _ _ (by omega)]; exact hw7, hf7.setNew (by omega), by first | exact c1 | (rw [fr8 _ _ (by omega)]; exact c1), l ++ [x], ?_, r, by first | exact c3 | (rw [fr8 _ _ (by omega)]; exact c3), ?_, ?_, by simp; omega, by omega⟩
          · rw [List.getElem?_set_self t2]; simp
          · have hp : (rest2 ++ (l ++ [x] ++ r)).Perm (x :: (rest2 ++ (l ++ r))) := by
              rw [show rest2 ++ (l ++ [x] ++ r) = (rest2 ++ l) ++ x :: r by simp, show x :: (rest2 ++ (l ++ r)) = x :: ((rest2 ++ l) ++ r) by simp]
              exact List.perm_middle
            exact hp.nodup_iff.mpr (List.nodup_cons.mpr hnd2)
          · intro k hk
            refine hlt2 k ?_
            simp at hk ⊢
            rcases hk with hk | (hk | hk) | hk
            · exact .inr (.inl hk)
            · exact .inr (.inr (.inl hk))
            · exact .inl hk
            · exact .inr (.inr (.inr hk))
        | 1, _, ix =>
          have ix : Pw.index S7 (D.lst [D.ref (S.length + 1 + 1), D.ref (S.length + 1 + 1 + 1)]) (.int ((1 : Nat) : Int)) = some (.ref (S.length + 1 + 1 + 1)) := ix
          rw [ix]
          simp [-ss_cons, kd_refl c3, Pr.kindOk]
          rw [p_app c3 (by rw [sizeLine_eq, List.length_map]; omega)]
          simp
          have fr8 : ∀ k m, k ≠ S.length + 1 + 1 + 1 → (S7.set (S.length + 1 + 1 + 1) m)[k]? = S7[k]? := fun k m hk => List.getElem?_set_ne (Ne.symm hk)
          refine ⟨rest2.length, by omega, rest2, rfl, hj7.eq (fr8 _ _ (by omega)), by show _ = _; rw [fr8 _ _ (by omega)]; exact hw7, hf7.setNew (by omega), by first | exact c1 | (rw [fr8 _ _ (by omega)]; exact c1), l, by first | exact c2 | (rw [fr8 _ _ (by omega)]; exact c2), r ++ [x], ?_, ?_, ?_, by simp; omega, by omega⟩
          · rw [List.getElem?_set_self t3]; simp
          · have hp : (rest2 ++ (l ++ (r ++ [x]))).Perm (x :: (rest2 ++ (l ++ r))) := by
              rw [show rest2 ++ (l ++ (r ++ [x])) = (rest2 ++ (l ++ r)) ++ x :: [] by simp, show x :: (rest2 ++ (l ++ r)) = x :: ((rest2 ++ (l ++ r)) ++ []) by simp]
              exact List.perm_middle
            exact hp.nodup_iff.mpr (List.nodup_cons.mpr hnd2)
          · intro k hk
            refine hlt2 k ?_
            simp at hk ⊢
            rcases hk with hk | hk | hk | hk
            · exact .inr (.inl hk)
            · exact .inr (.inr (.inl hk))
            · exact .inr (.inr (.inr hk))
            · exact .inl hk
      · simp [-ss_cons, h4]
        exact ⟨rest2.length, by omega, rest2, rfl, hj6, hw6, hf6, g1, l, g2, r, g3, hnd2.2, fun k hk => hlt2 k (List.mem_cons_of_mem _ (by simpa using hk)), by simpa using h5, by omega⟩
    · simp [-ss_cons, hz]
      exact ⟨rest2.length, by omega, rest2, rfl, hj6, hw6, hf6, g1, l, g2, r, g3, hnd2.2, fun k hk => hlt2 k (List.mem_cons_of_mem _ (by simpa using hk)), by simpa using h5, by omega⟩
end
end Pw.Lw

set_option Elab.async false
set_option linter.all false
set_option maxRecDepth 100000
set_option maxHeartbeats 1000000
namespace Pw.Lw
open PySem PySem.Spec PyProof.Rows L2 Pw
section
variable {n : Nat} {S : Sto} {X : Xc → Sto → Prop}
def wOf (st : List So) (ws : List Int) (w : Str) : Int := (((List.range st.length).filter fun k => decide ((st.map (·.w)).getD k ⟨#[]⟩ = w)).map (gt ws)).sum
def lawW (st : List So) (ws : List Int) (bs : List Bx) : Int := (bs.map fun b => wOf st ws b.w).sum
theorem s_lawweight (st : List So) (ws : List Int) (w : Wb) (hl : ws.length = st.length) (h1 : st.length ≤ 1000) (h2 : w.bs.length ≤ 1000) : cl (n + 1) 43 [encSt st, iT ws, encW w] S = .ok (.int (lawW st ws w.bs)) S := by
  refine eqn (Wp_call (F := f43) rfl rfl ?_)
  unfold f43
  rw [WpS_cons]
  simp [-ss_cons, dVar, ix_w1]
  refine Wp.of_eq (comp_map (enc := encB) (g := fun b => D.int (wOf st ws b.w)) (stays_nil _) w.bs [] (small (by simp; omega)) fun b hb => ⟨_, rfl, rfl, ?_⟩) ?_
  · have eL : prim .len false [encSt st] S = .ok (.int st.length) S := by rw [encSt, lTup, List.length_map]
    have ib : Pw.index S (encB b) (.int 0) = some (.str b.w) := rfl
    refine eqn ?_
    simp [dVar, eL]
    rw [rng1 (j := (st.length : Int)) (by omega) (by omega)]
    simp
    refine Wp.of_eq (comp_filter (enc := fun (k : Nat) => D.int (k : Int)) (g := fun k => D.int (gt ws k)) (p := fun k => decide ((st.map (·.w)).getD k ⟨#[]⟩ = b.w)) (stays_nil _) (List.range st.length) [] (small (by simp; omega)) fun k hk => ⟨_, rfl, ?_, fun _ => ?_⟩) ?_
    · have hk := List.mem_range.mp hk
      have hx : Pw.index S (encSt st) (.int (k : Int)) = some (encSo st[k]) := (Sq.tup (S := S) (st.map encSo)).ixm hk
      have hx2 : Pw.index S (encSo st[k]) (.int 0) = some (.str st[k].w) := rfl
      simp [tt_some, dVar, hx, hx2, ib, c_eqs, hk]
    · have hk := List.mem_range.mp hk
      have := ix_iT (S := S) (l := ws) (k := k) (by omega)
      simp [dVar, this]
    rw [List.nil_append]
    have q1 := List.length_filter_le (fun k => decide ((st.map (·.w)).getD k ⟨#[]⟩ = b.w)) (List.range st.length)
    rw [List.length_range] at q1
    refine ⟨small (by rw [List.length_map]; omega), ?_⟩
    have e := p_sum (S := S) (bx := false) (((List.range st.length).filter fun k => decide ((st.map (·.w)).getD k ⟨#[]⟩ = b.w)).map (gt ws))
    rw [List.map_map] at e
    have e' : prim .sum false [.lst (((List.range st.length).filter fun k => decide ((st.map (·.w)).getD k ⟨#[]⟩ = b.w)).map fun k => D.int (gt ws k))] S = .ok (.int (wOf st ws b.w)) S := e
    rw [e']
    simp
  rw [List.nil_append]
  refine ⟨small (by simp; omega), ?_⟩
  have e := p_sum (S := S) (bx := false) (w.bs.map fun b => wOf st ws b.w)
  rw [List.map_map] at e
  have e' : prim .sum false [.lst (w.bs.map fun b => D.int (wOf st ws b.w))] S = .ok (.int (lawW st ws w.bs)) S := e
  rw [e']
  simp
theorem sum_ge0 : ∀ {l : List Int}, (∀ x ∈ l, 0 ≤ x) → 0 ≤ l.sum
  | [], _ => Int.le_refl _
  | x :: l, h => by
    rw [List.sum_cons]
    have := sum_ge0 (l := l) fun y hy => h y (List.mem_cons_of_mem _ hy)
    have := h x (List.mem_cons_self ..)
    omega
theorem sum_ge1 : ∀ {l : List Int}, (∀ x ∈ l, 0 ≤ x) → (∃ x ∈ l, 1 ≤ x) → 1 ≤ l.sum
  | [], _, h => by obtain ⟨x, h, _⟩ := h; cases h
  | x :: l, h, he => by
    rw [List.sum_cons]
    have h0 := sum_ge0 (l := l) fun y hy => h y (List.mem_cons_of_mem _ hy)
    have h1 := h x (List.mem_cons_self ..)
    obtain ⟨y, hy, hy1⟩ := he
    rcases List.mem_cons.mp hy with e | e
    · subst e; omega
    · have := sum_ge1 (l := l) (fun y hy => h y (List.mem_cons_of_mem _ hy)) ⟨y, e, hy1⟩
      omega
structure WtOk (st : List So) (ws : List Int) : Prop where
  len : ws.length = st.length
  pos : ∀ k, k < st.length → 1 ≤ gt ws k ∧ gt ws k ≤ 3
theorem wOf_pos {st : List So} {ws : List Int} (h : WtOk st ws) {s : So} (hs : s ∈ st) : 1 ≤ wOf st ws s.w := by
  unfold wOf
  refine sum_ge1 (fun x hx => ?_) ?_
  · obtain ⟨k, hk, rfl⟩ := List.mem_map.mp hx
    have := h.pos k (List.mem_range.mp (List.mem_filter.mp hk).1)
    omega
  · obtain ⟨k, hk, rfl⟩ := List.getElem_of_mem hs
    exact ⟨gt ws k, List.mem_map.mpr ⟨k, List.mem_filter.mpr ⟨List.mem_range.mpr hk, by simp [hk]⟩, rfl⟩, (h.pos k hk).1⟩
theorem lawW_pos {st : List So} {ws : List Int} (h : WtOk st ws) {bs : List Bx} (hb : ∀ b ∈ bs, ∃ s ∈ st, s.w = b.w) (hne : bs ≠ []) : 1 ≤ lawW st ws bs := by
  unfold lawW
  refine sum_ge1 (fun x hx => ?_) ?_
  · obtain ⟨b, hb', rfl⟩ := List.mem_map.mp hx
    obtain ⟨s, hs, e⟩ := hb b hb'
    have := wOf_pos h hs
    rw [e] at this
    omega
  · cases bs with
    | nil => exact absurd rfl hne
    | cons b bs =>
      obtain ⟨s, hs, e⟩ := hb b (List.mem_cons_self ..)
      have := wOf_pos h hs
      rw [e] at this
      exact ⟨wOf st ws b.w, List.mem_map.mpr ⟨b, List.mem_cons_self .., rfl⟩, this⟩
end
end Pw.Lw

set_option Elab.async false
set_option linter.all false
set_option maxRecDepth 100000
set_option maxHeartbeats 1000000
namespace Pw.Lw
open PySem PySem.Spec PyProof.Rows L2 Pw
section
variable {n : Nat} {S : Sto} {X : Xc → Sto → Prop}
/-- a web of a size that can be shown -/
structure WbS (w : Wb) : Prop where
  ks : w.ks.length ≤ 60
  bs : w.bs.length ≤ 12
  l : w.l.length ≤ 5
  r : w.r.length ≤ 5
  ab : ∀ x ∈ w.ks, abk x
  me : ∀ b ∈ w.bs, b.w ∈ menu
structure RuW (st : List So) (r : Ru) : Prop where
  ok : RuOk st r
  a : WbS r.a
  b : WbS r.b
/-- .. as it is drawn -/
structure RuD (st : List So) (r : Ru) : Prop where
  w : RuW st r
  b6 : r.b.bs.length ≤ 6
  k40 : r.b.ks.length ≤ 40
theorem Boxes.wbok {st : List So} {bs : List Bx} {ks : List Str} (h : Boxes st [] bs ks) : ∀ x ∈ ks, abk x := fun x hx => by
  rcases h.el x hx with q | q
  · cases q
  · exact q
theorem LeftW.ok {st : List So} {many : Nat} {w : Wb} (hst : SkOk st) (h : LeftW st many w) (h1 : 1 ≤ many) (h4 : many ≤ 4) : WbOk st w ∧ LeftOk w ∧ WbS w := by
  have hl := h.bx.len
  have hb := h.len
  have h5 := h.l5
  simp at hl h5
  refine ⟨⟨by omega, by omega, by omega, by omega, fun k hk => abk_word (h.bx.wbok k hk), h.bx.ok, fun k hk => h.il k (List.mem_append_left _ hk), fun k hk => h.il k (List.mem_append_right _ hk)⟩, ⟨?_, h.nd, fun k hk => h.bx.new k (Nat.zero_le _) hk⟩, ⟨by omega, by omega, by omega, by omega, h.bx.wbok, h.bx.me⟩⟩
  intro z
  rw [z] at hb
  simp at hb
  omega
theorem WbOk.drop {st : List So} {w : Wb} (h : WbOk st w) (k : Nat) : WbOk st ⟨w.ks, w.bs.drop k, w.l, w.r⟩ :=
  ⟨h.kl, by have := h.bl; simp; omega, h.ll, h.rl, h.ks, fun b hb => h.bs b (List.mem_of_mem_drop hb), h.il, h.ir⟩
theorem WbS.drop {w : Wb} (h : WbS w) (k : Nat) : WbS ⟨w.ks, w.bs.drop k, w.l, w.r⟩ :=
  ⟨h.ks, by have := h.bs; simp; omega, h.l, h.r, h.ab, fun b hb => h.me b (List.mem_of_mem_drop hb)⟩
theorem slice_w (o : Wb) : slice false (encW o) (some 2) none S = .ok (.tup [nT o.l, nT o.r]) S := (rfl)
theorem w_rule {j : Nat} {st : List So} {ws : List Int} {mo : Nat} {Q : D → Sto → Prop} (h : Jr j S) (hst : SkOk st) (hws : WtOk st ws) (hm1 : 1 ≤ mo) (hm : mo ≤ 4)
    (hq : ∀ (r : Ru) (S2 : Sto), RuD st r → Jr j S2 → Fr (· = j) S S2 → Q (encR r) S2) :
    Wp (cl (n + 5) 44 [.ref j, encSt st, iT ws, .int (mo : Int)] S) Q X := by
  have hlt := h.lt
  have hl3 := hst.l3
  refine Wp_call (F := f44) rfl rfl ?_
  unfold f44
  rw [WpS_cons]
  simp [-ss_cons, dVar, sizeLine_eq]
  refine w_draw h (by omega) (by omega) fun k S1 hk hj1 hF1 => ?_
  simp [-ss_cons, b_add]
  rw [show (1 + (k : Int)) = ((1 + k : Nat) : Int) by omega]
  refine w_left hj1 hst (by omega) fun w S2 hw hj2 hF2 => ?_
  obtain ⟨hwo, hlo, hwS⟩ := hw.ok hst (by omega) (by omega)
  have hl2 : S2.length = S.length := by rw [hF2.1, hF1.1]
  have ww : Wl S.length [] (S2 ++ [MO.lst []]) := by show _ = _; rw [List.getElem?_append_right (by omega), hl2, Nat.sub_self]; rfl
  have hf2 : FrG (· = j) S (S2 ++ [MO.lst []]) := (hF1.g.trans hF2.g).trans (FrG.push _)
  have hj2' := hj2.push (.lst [])
  rw [WpS_cons]
  simp [-ss_cons, dVar, sizeLine_eq, slice_w]
  rw [hl2]
  generalize S2 ++ [MO.lst []] = S3 at ww hf2 hj2'
  refine Wp_comp (enc := nT) (fun q acc S' => ∃ ws3, Jr j S' ∧ Wl S.length ws3 S' ∧ Fr (JW j S.length) S3 S' ∧ ((q = 0 ∧ acc = [] ∧ ws3 = []) ∨ (q = 1 ∧ ∃ is, acc = [nT is] ∧ Feet [] (kindsAt w.ks w.l) is ws3) ∨ (q = 2 ∧ ∃ is os ws', acc = [nT is, nT os] ∧ Feet [] (kindsAt w.ks w.l) is ws' ∧ Feet ws' (kindsAt w.ks w.r) os ws3))) [w.l, w.r] 0 [] S3 (by simp [sizeLine_eq]) ⟨[], hj2', ww, Fr.refl, .inl ⟨rfl, rfl, rfl⟩⟩ ?_ ?_
  · rintro q acc S4 hq2 ⟨ws3, hj3, hw3, hF3, hcase⟩
    refine ⟨stays_nil _, _, rfl, ?_⟩
    simp only [Nat.zero_add] at hcase ⊢
    have hil := hwo.il
    have hir := hwo.ir
    have h5l := hwS.l
    have h5r := hwS.r
    rcases hcase with ⟨rfl, rfl, rfl⟩ | ⟨rfl, is, rfl, hft⟩ | ⟨rfl, _⟩
    · simp [tt_none, dVar, nT]
      refine w_feet (n := n + 2) (enc := nD) (kd := atK w.ks) w.l (tt_none (C := callN Fs Gn (n + 4)) (G := Gn)) hj3 hw3 (by omega) (by simp; omega) (fun y hy S' => ⟨_, rfl, by
        have e := Sq.ixd (S := S') (Y := sT w.ks) (enc := D.str) ⟨#[]⟩ (Sq.tup _) (hil y hy)
        simp [dVar, ix_w0, nD, e, atK]⟩) fun is ws4 S5 hft hil' hj4 hw4 hF4 => ?_
      refine ⟨small (by rw [List.length_map]; omega), ?_⟩
      simp [tLst]
      exact ⟨hj4, ws4, hw4, hF3.trans hF4, is, rfl, hft⟩
    · simp [tt_none, dVar, nT]
      have := hft.len
      simp [kindsAt] at this
      refine w_feet (n := n + 2) (enc := nD) (kd := atK w.ks) w.r (tt_none (C := callN Fs Gn (n + 4)) (G := Gn)) hj3 hw3 (by omega) (by omega) (fun y hy S' => ⟨_, rfl, by
        have e := Sq.ixd (S := S') (Y := sT w.ks) (enc := D.str) ⟨#[]⟩ (Sq.tup _) (hir y hy)
        simp [dVar, ix_w0, nD, e, atK]⟩) fun os ws4 S5 hft2 hil' hj4 hw4 hF4 => ?_
      refine ⟨small (by rw [List.length_map]; omega), ?_⟩
      simp [tLst]
      exact ⟨hj4, ws4, hw4, hF3.trans hF4, is, os, ⟨rfl, rfl⟩, ws3, hft, hft2⟩
    · simp at hq2
  · rintro acc S4 ⟨ws3, hj3, hw3, hF3, hcase⟩
    refine ⟨stays_nil _, ?_⟩
    rcases hcase with ⟨h0, _⟩ | ⟨h0, _⟩ | ⟨_, is, os, ws', rfl, hft, hft2⟩
    · simp at h0
    · simp at h0
    have hlen1 := hft.len
    have hlen2 := hft2.len
    have h5l := hwS.l
    have h5r := hwS.r
    have hb12 : w.bs.length = 1 + k := hw.len
    simp [kindsAt] at hlen1 hlen2
    simp [-ss_cons]
    rw [WpS_cons]
    simp [-ss_cons, dVar, ix_w1, lTup, b_add]
    refine w_draw hj3 (by omega) (by omega) fun k2 S5 hk2 hj5 hF5 => ?_
    have hw5 : Wl S.length ws3 S5 := by show _ = _; rw [hF5.2 _ (by omega)]; exact hw3
    refine w_boxes hj5 hw5 (by omega) hst (by omega) fun bs ks2 S6 hB hbl hj6 hw6 hF6 => ?_
    have hfl : FrG (· = j) S S6 := by
      refine ⟨by have := hf2.1; have := hF3.1; have := hF5.1; have := hF6.1; omega, fun l hl hA => ?_⟩
      rw [hF6.2 l (by rintro (q | q) <;> omega), hF5.2 l hA, hF3.2 l (by rintro (q | q) <;> omega)]
      exact hf2.2 l hl hA
    have hBl := hB.len
    have hBp := hB.pre
    -- the right side
    have iin : In ks2 is := In.pre (hft2.pre.trans hBp) hft.in_
    have oin : In ks2 os := In.pre hBp hft2.in_
    have ikd : kindsAt ks2 is = kindsAt w.ks w.l := by rw [kindsAt_pre (hft2.pre.trans hBp) hft.in_, hft.kd]
    have okd : kindsAt ks2 os = kindsAt w.ks w.r := by rw [kindsAt_pre hBp hft2.in_, hft2.kd]
    have isl : is.length = w.l.length := by have := congrArg List.length ikd; simpa [kindsAt] using this
    have osl : os.length = w.r.length := by have := congrArg List.length okd; simpa [kindsAt] using this
    have atab : ∀ is', In w.ks is' → ∀ x ∈ kindsAt w.ks is', abk x := by
      intro is' hi x hx
      obtain ⟨k, hk, rfl⟩ := List.mem_map.mp hx
      exact hwS.ab _ (getD_in _ (hi k hk))
    have kab : ∀ x ∈ ks2, abk x := by
      intro x hx
      rcases hB.el x hx with q | q
      · rcases hft2.el x q with q | q
        · rcases hft.el x q with q | q
          · cases q
          · exact atab _ hwo.il x q
        · exact atab _ hwo.ir x q
      · exact q
    have hR : WbOk st ⟨ks2, bs, is, os⟩ := ⟨by show ks2.length ≤ 1000; omega, by show bs.length ≤ 1000; omega, by show is.length ≤ 1000; omega, by show os.length ≤ 1000; omega, fun x hx => abk_word (kab x hx), hB.ok, iin, oin⟩
    have hRS : WbS ⟨ks2, bs, is, os⟩ := ⟨by show ks2.length ≤ 60; omega, by show bs.length ≤ 12; omega, by show is.length ≤ 5; omega, by show os.length ≤ 5; omega, kab, hB.me⟩
    rw [WpS_cons]
    have y0 := (Sq.lst (S := S6) [nT is, nT os]).ix (k := 0) (by simp)
    have y1 := (Sq.lst (S := S6) [nT is, nT os]).ix (k := 1) (by simp)
    simp at y0 y1
    simp [-ss_cons, dVar, (Sq.ref hw6).tuple, y0, y1, sizeLine_eq]
    rw [WpS_cons]
    simp only [s_while]
    refine WpS_while (fun μ e S' => S' = S6 ∧ ∃ m, μ = (bs.drop m).length ∧ e = [some (.ref j), some (encSt st), some (iT ws), some (.int (mo : Int)), some (encW w), some (.ref S.length), none, none, some (.lst [nT is, nT os]), some (.tup (bs.map encB)), some (encW ⟨ks2, bs.drop m, is, os⟩)]) ?_ bs.length _ _ ⟨rfl, 0, by simp, by simp [encW, sT]⟩
    rintro μ e S' ⟨rfl, m, rfl, rfl⟩
    have l1 := s_lawweight (n := n + 3) (S := S') st ws ⟨ks2, bs.drop m, is, os⟩ hws.len (by omega) (by simp; omega)
    have l2 := s_lawweight (n := n + 3) (S := S') st ws w hws.len (by omega) (by omega)
    simp only [cl] at l1 l2
    have p2 : 1 ≤ lawW st ws w.bs := lawW_pos hws (fun b hb => by obtain ⟨s, hs, e, _⟩ := (hwo.bs b hb).so; exact ⟨s, hs, e⟩) hlo.ne
    simp [-ss_cons, dVar, l1, l2, c_ge]
    by_cases hge : lawW st ws w.bs ≤ lawW st ws (bs.drop m)
    · have hne : bs.drop m ≠ [] := by
        intro z
        rw [z] at hge
        have : lawW st ws [] = 0 := rfl
        omega
      have hpos : 0 < (bs.drop m).length := List.length_pos_iff.mpr hne
      simp [-ss_cons, hge]
      rw [WpS_cons]
      have x0 := ix_w0 (S := S') ⟨ks2, bs.drop m, is, os⟩
      have x1 := ix_w1 (S := S') ⟨ks2, bs.drop m, is, os⟩
      have x2 := ix_w2 (S := S') ⟨ks2, bs.drop m, is, os⟩
      have x3 := ix_w3 (S := S') ⟨ks2, bs.drop m, is, os⟩
      have hsl : slice false (.tup ((bs.drop m).map encB)) (some 1) none S' = .ok (.tup ((bs.drop (m + 1)).map encB)) S' := by
        have c1 := cut_from ((bs.drop m).map encB) 1
        rw [sl_tup]
        rw [show ((1 : Nat) : Int) = 1 from rfl] at c1
        rw [c1, ← List.map_drop, List.drop_drop]
      simp only [List.map_drop] at x1 hsl
      simp [-ss_cons, dVar, x0, x1, x2, x3, hsl, sizeLine_eq]
      simp at hpos
      exact ⟨bs.length - (m + 1), by omega, m + 1, rfl, by simp [encW, List.map_drop]⟩
    · simp [-ss_cons, hge]
      rw [WpS_cons]
      simp [-ss_cons, dVar, sizeLine_eq]
      have hrule : RuOk st ⟨w, ⟨ks2, bs.drop m, is, os⟩⟩ := by
        refine ⟨hwo, hR.drop m, ikd.symm, okd.symm, hlo, ?_⟩
        show (w.l ++ w.r).length ≤ 1000
        simp; omega
      refine Wp_close hfl (fun l hl hA => hA ▸ hj6.low) (pure_encR ⟨w, ⟨ks2, bs.drop m, is, os⟩⟩) fun hF hg => hq ⟨w, ⟨ks2, bs.drop m, is, os⟩⟩ _ ⟨⟨hrule, hwS, hRS.drop m⟩, by show (bs.drop m).length ≤ 6; simp; omega, by show ks2.length ≤ 40; omega⟩ (hj6.eq (hg _ hlt)) hF
end
end Pw.Lw

set_option Elab.async false
set_option linter.all false
set_option maxRecDepth 100000
set_option maxHeartbeats 1000000
namespace Pw.Lw
open PySem PySem.Spec PyProof.Rows L2 Pw
section
variable {n : Nat} {S : Sto} {X : Xc → Sto → Prop}
def chBx (ws : List Str) (k : Nat) : Bx := ⟨ws.getD k ⟨#[]⟩, [k], [k + 1]⟩
def chain (ws : List Str) : Wb := ⟨List.replicate (ws.length + 1) "a", (List.range ws.length).map (chBx ws), [0], [ws.length]⟩
def cst (wds : List Str) : List So := wds.map fun w => ⟨w, ["a"], ["a"]⟩
theorem rep_tup (x : Str) (k : Nat) (h : k + 1 ≤ 1000) : binop .mul false (.tup [.str x]) (.int ((k : Int) + 1)) S = .ok (sT (List.replicate (k + 1) x)) S := by
  show bMul false S (.tup [.str x]) (.int ((k : Int) + 1)) = _
  unfold bMul
  simp only
  rw [if_pos ⟨by omega, by omega, by simp⟩]
  rw [show ((k : Int) + 1).toNat = k + 1 by omega]
  simp [sT]
theorem s_chain {X0 : D} (ws : List Str) (hS : Sq S X0 (ws.map .str)) (hl : ws.length ≤ 900) : cl (n + 1) 45 [X0] S = .ok (encW (chain ws)) S := by
  refine eqn (Wp_call (F := f45) rfl rfl ?_)
  unfold f45
  rw [WpS_cons]
  simp [-ss_cons, dVar, hS.len]
  rw [rng1 (j := (ws.length : Int)) (by omega) (by omega)]
  simp [-ss_cons]
  refine Wp.of_eq (comp_map (enc := fun (k : Nat) => D.int (k : Int)) (g := fun k => encB (chBx ws k)) (stays_nil _) (List.range ws.length) [] (small (by simp; omega)) fun k hk => ⟨_, rfl, rfl, ?_⟩) ?_
  · have hk := List.mem_range.mp hk
    have hx := Sq.ixd (S := S) (enc := D.str) ⟨#[]⟩ hS hk
    simp [dVar, hx, b_add, sizeLine_eq, encB, chBx, nT, nD]
  rw [List.nil_append]
  refine ⟨small (by simp; omega), ?_⟩
  have hr := rep_tup (S := S) "a" ws.length (by omega)
  simp [-ss_cons, tLst]
  rw [WpS_cons]
  simp [-ss_cons, dVar, hS.len, b_add, hr, sizeLine_eq]
  simp [encW, chain, nT, nD]
theorem atK_rep {m k : Nat} (h : k < m) : atK (List.replicate m ("a" : Str)) k = "a" := by
  simp [atK, h]
theorem chain_ok {wds ws : List Str} (h : ∀ w ∈ ws, w ∈ wds) (hl : ws.length ≤ 900) : WbOk (cst wds) (chain ws) := by
  refine ⟨by simp [chain]; omega, by simp [chain]; omega, by simp [chain], by simp [chain], fun k hk => ?_, fun b hb => ?_, fun k hk => ?_, fun k hk => ?_⟩
  · rw [(List.mem_replicate.mp hk).2]
    decide +kernel
  · obtain ⟨k, hk, rfl⟩ := List.mem_map.mp hb
    have hk := List.mem_range.mp hk
    refine ⟨by simp [chBx], by simp [chBx], fun i hi => ?_, fun i hi => ?_, ⟨ws.getD k ⟨#[]⟩, ["a"], ["a"]⟩, List.mem_map.mpr ⟨ws.getD k ⟨#[]⟩, h _ (getD_in _ hk), rfl⟩, rfl, ?_, ?_⟩
    · simp [chBx] at hi; simp [chain]; omega
    · simp [chBx] at hi; simp [chain]; omega
    · show ([("a" : Str)] : List Str) = [atK _ k]
      rw [chain, atK_rep (by omega)]
    · show ([("a" : Str)] : List Str) = [atK _ (k + 1)]
      rw [chain, atK_rep (by omega)]
  · simp [chain] at hk ⊢; omega
  · simp [chain] at hk ⊢; omega
theorem chain_left {ws : List Str} (hne : ws ≠ []) : LeftOk (chain ws) := by
  have hpos : 0 < ws.length := List.length_pos_iff.mpr hne
  refine ⟨?_, ?_, ?_⟩
  · simp [chain]; omega
  · simp [chain, Wb.ends]; omega
  · intro k hk
    simp [chain] at hk ⊢
    unfold placed
    rw [List.mem_flatMap]
    by_cases q : k < ws.length
    · exact ⟨chBx ws k, List.mem_map.mpr ⟨k, List.mem_range.mpr q, rfl⟩, by simp [chBx]⟩
    · refine ⟨chBx ws (k - 1), List.mem_map.mpr ⟨k - 1, List.mem_range.mpr (by omega), rfl⟩, by simp [chBx]; omega⟩
theorem chain_rule {wds ws os : List Str} (h : ∀ w ∈ ws, w ∈ wds) (h2 : ∀ w ∈ os, w ∈ wds) (hne : ws ≠ []) (hl : ws.length ≤ 900) (hl2 : os.length ≤ 900) : RuOk (cst wds) ⟨chain ws, chain os⟩ := by
  refine ⟨chain_ok h hl, chain_ok h2 hl2, ?_, ?_, chain_left hne, by simp [chain, Wb.ends]⟩
  · show [atK _ 0] = [atK _ 0]
    rw [chain, chain, atK_rep (by omega), atK_rep (by omega)]
  · show [atK _ ws.length] = [atK _ os.length]
    rw [chain, chain, atK_rep (by omega), atK_rep (by omega)]
theorem chain_s {ws : List Str} (hl : ws.length ≤ 12) (hm : ∀ w ∈ ws, w ∈ menu) : WbS (chain ws) := by
  refine ⟨by simp [chain]; omega, by simp [chain]; omega, by simp [chain], by simp [chain], fun x hx => ?_, fun b hb => ?_⟩
  · rw [(List.mem_replicate.mp hx).2]; exact .inl rfl
  · obtain ⟨k, hk, rfl⟩ := List.mem_map.mp hb
    exact hm _ (getD_in _ (List.mem_range.mp hk))
theorem cst_sk {wds : List Str} (h2 : 2 ≤ wds.length) (h3 : wds.length ≤ 3) (hn : wds.Nodup) (hm : ∀ w ∈ wds, w ∈ menu) : SkOk (cst wds) := by
  refine ⟨by simp [cst]; omega, by simp [cst]; omega, by simpa [cst, List.map_map, Function.comp_def] using hn, fun s hs => ?_⟩
  obtain ⟨w, hw, rfl⟩ := List.mem_map.mp hs
  exact ⟨hm w hw, by simp, by simp, .inl (by simp), by intro k hk; simp at hk; exact .inl hk, by intro k hk; simp at hk; exact .inl hk⟩
end
end Pw.Lw

set_option Elab.async false
set_option linter.all false
set_option maxRecDepth 100000
set_option maxHeartbeats 1000000
namespace Pw.Lw
open PySem PySem.Spec PyProof.Rows L2 Pw
section
variable {n : Nat} {S : Sto} {X : Xc → Sto → Prop}
theorem w_chainrule {j : Nat} {wds : List Str} {ws : List Int} {mo : Nat} {Q : D → Sto → Prop} (h : Jr j S) (hst : SkOk (cst wds)) (hws : WtOk (cst wds) ws) (hme : ∀ w ∈ wds, w ∈ menu) (hm1 : 1 ≤ mo) (hm : mo ≤ 4)
    (hq : ∀ (r : Ru) (S2 : Sto), RuD (cst wds) r → Jr j S2 → Fr (· = j) S S2 → Q (encR r) S2) :
    Wp (cl (n + 5) 46 [.ref j, encSt (cst wds), iT ws, .int (mo : Int)] S) Q X := by
  have hlt := h.lt
  have hl2 := hst.l2
  have hl3 := hst.l3
  have hcl : (cst wds).length = wds.length := by simp [cst]
  have eL : ∀ S, prim .len false [encSt (cst wds)] S = .ok (.int wds.length) S := fun S => by rw [encSt, lTup, List.length_map, hcl]
  have ixs : ∀ (S : Sto) (k : Nat) (hk : k < wds.length), Pw.index S (encSt (cst wds)) (.int (k : Int)) = some (encSo ⟨wds[k], ["a"], ["a"]⟩) := fun S k hk => by
    have := (Sq.tup (S := S) ((cst wds).map encSo)).ixm (k := k) (by rw [hcl]; exact hk)
    rw [show Pw.index S (encSt (cst wds)) (.int (k : Int)) = _ from this]
    simp [cst]
  have ix0 : ∀ (S : Sto) (w : Str), Pw.index S (encSo ⟨w, ["a"], ["a"]⟩) (.int 0) = some (.str w) := fun _ _ => rfl
  refine Wp_call (F := f46) rfl rfl ?_
  unfold f46
  rw [WpS_cons]
  simp [-ss_cons, dVar]
  refine w_draw h (by omega) (by omega) fun k S1 hk hj1 hF1 => ?_
  simp [-ss_cons, b_add]
  rw [rng1 (j := (1 + (k : Int))) (by omega) (by omega)]
  simp [-ss_cons]
  refine Wp_comp (fun i acc S' => ∃ us : List Str, us.length = i ∧ acc = us.map .str ∧ (∀ w ∈ us, w ∈ wds) ∧ Jr j S' ∧ Fr (· = j) S S') (List.range (1 + (k : Int)).toNat) 0 [] S1 (small (by simp; omega)) ⟨[], rfl, rfl, (fun _ h => nomatch h), hj1, hF1⟩ ?_ ?_
  · rintro i acc S2 hi ⟨us, hu, rfl, hus, hj2, hF2⟩
    refine ⟨stays_nil _, _, rfl, ?_⟩
    simp [tt_none, dVar, eL]
    refine w_draw hj2 (by omega) (by omega) fun q S3 hq3 hj3 hF3 => ?_
    have hql : q < wds.length := by omega
    simp [ixs S3 q hql, ix0]
    refine ⟨us ++ [wds[q]], by simp; omega, by simp, ?_, hj3, hF2.trans hF3⟩
    intro w hw
    rcases List.mem_append.mp hw with hw | hw
    · exact hus w hw
    · rw [List.mem_singleton.mp hw]; exact List.getElem_mem _
  · rintro acc S2 ⟨us, hu, rfl, hus, hj2, hF2⟩
    refine ⟨stays_nil _, ?_⟩
    simp at hu
    refine ⟨small (by simp; omega), ?_⟩
    rw [WpS_cons]
    simp [-ss_cons, dVar, lLst, b_add]
    refine w_draw hj2 (by omega) (by omega) fun k2 S3 hk2 hj3 hF3 => ?_
    rw [rng1 (j := (k2 : Int)) (by omega) (by omega)]
    simp [-ss_cons]
    refine Wp_comp (fun i acc S' => ∃ os : List Str, os.length = i ∧ acc = os.map .str ∧ (∀ w ∈ os, w ∈ wds) ∧ Jr j S' ∧ Fr (· = j) S S') (List.range k2) 0 [] S3 (small (by simp; omega)) ⟨[], rfl, rfl, (fun _ h => nomatch h), hj3, hF2.trans hF3⟩ ?_ ?_
    · rintro i acc S4 hi ⟨os, ho, rfl, hos, hj4, hF4⟩
      refine ⟨stays_nil _, _, rfl, ?_⟩
      simp [tt_none, dVar, eL]
      refine w_draw hj4 (by omega) (by omega) fun q S5 hq5 hj5 hF5 => ?_
      have hql : q < wds.length := by omega
      simp [ixs S5 q hql, ix0]
      refine ⟨os ++ [wds[q]], by simp; omega, by simp, ?_, hj5, hF4.trans hF5⟩
      intro w hw
      rcases List.mem_append.mp hw with hw | hw
      · exact hos w hw
      · rw [List.mem_singleton.mp hw]; exact List.getElem_mem _
    · rintro acc S4 ⟨os, ho, rfl, hos, hj4, hF4⟩
      refine ⟨stays_nil _, ?_⟩
      simp at ho
      refine ⟨small (by simp; omega), ?_⟩
      rw [WpS_cons]
      simp only [s_while]
      have hune : us ≠ [] := by intro z; rw [z] at hu; simp at hu; omega
      refine WpS_while (fun μ e S' => S' = S4 ∧ ∃ m, μ = (os.drop m).length ∧ e = [some (.ref j), some (encSt (cst wds)), some (iT ws), some (.int (mo : Int)), none, some (.lst (us.map .str)), some (.lst ((os.drop m).map .str))]) ?_ os.length _ _ ⟨rfl, 0, by simp, by simp⟩
      rintro μ e S' ⟨rfl, m, rfl, rfl⟩
      have c1 := s_chain (n := n + 3) (S := S') (os.drop m) (Sq.lst _) (by simp; omega)
      have c2 := s_chain (n := n + 3) (S := S') us (Sq.lst _) (by omega)
      have hosm : ∀ w ∈ os.drop m, w ∈ wds := fun w hw => hos w (List.mem_of_mem_drop hw)
      have k1 := chain_ok hosm (by simp; omega)
      have k2' := chain_ok hus (by omega)
      have l1 := s_lawweight (n := n + 3) (S := S') (cst wds) ws (chain (os.drop m)) hws.len (by omega) k1.bl
      have l2 := s_lawweight (n := n + 3) (S := S') (cst wds) ws (chain us) hws.len (by omega) k2'.bl
      simp only [cl] at l1 l2 c1 c2
      have p2 : 1 ≤ lawW (cst wds) ws (chain us).bs := lawW_pos hws (fun b hb => by obtain ⟨s, hs, e, _⟩ := (k2'.bs b hb).so; exact ⟨s, hs, e⟩) (chain_left hune).ne
      simp only [List.map_drop] at c1
      simp [-ss_cons, dVar, c1, c2, l1, l2, c_ge]
      by_cases hge : lawW (cst wds) ws (chain us).bs ≤ lawW (cst wds) ws (chain (os.drop m)).bs
      · have hne : os.drop m ≠ [] := by
          intro z
          rw [z] at hge
          have : lawW (cst wds) ws (chain []).bs = 0 := rfl
          omega
        have hpos : 0 < (os.drop m).length := List.length_pos_iff.mpr hne
        simp [-ss_cons, hge]
        rw [WpS_cons]
        have hsl : slice false (.lst ((os.drop m).map .str)) (some 1) none S' = .ok (.lst ((os.drop (m + 1)).map .str)) S' := by
          have cc := cut_from ((os.drop m).map .str) 1
          rw [sl_lst]
          rw [show ((1 : Nat) : Int) = 1 from rfl] at cc
          rw [cc, ← List.map_drop, List.drop_drop]
          unfold mkL
          rw [if_pos (small (by simp; omega))]
          rfl
        simp only [List.map_drop] at hsl
        simp [-ss_cons, dVar, hsl]
        simp at hpos
        exact ⟨os.length - (m + 1), by omega, m + 1, rfl, by simp [List.map_drop]⟩
      · simp [-ss_cons, hge]
        rw [WpS_cons]
        simp [-ss_cons, dVar, c1, c2, sizeLine_eq]
        refine Wp_close hF4.g (fun l hl hA => hA ▸ hj4.low) (pure_encR ⟨chain us, chain (os.drop m)⟩) fun hF hg => hq ⟨chain us, chain (os.drop m)⟩ _ ⟨⟨chain_rule hus hosm hune (by omega) (by simp; omega), chain_s (by omega) fun w hw => hme w (hus w hw), chain_s (by simp; omega) fun w hw => hme w (hosm w hw)⟩, by simp [chain]; omega, by simp [chain]; omega⟩ (hj4.eq (hg _ hlt)) hF
theorem w_heavier {j : Nat} {st : List So} {r : Ru} {Q : D → Sto → Prop} (h : Jr j S) (hst : SkOk st) (hd : RuD st r)
    (hq : ∀ (r2 : Ru) (S2 : Sto), RuW st r2 → Jr j S2 → Fr (· = j) S S2 → Q (encR r2) S2) :
    Wp (cl (n + 4) 48 [.ref j, encSt st, encR r] S) Q X := by
  have hlt := h.lt
  have hr := hd.w
  have hsz := And.intro hd.b6 hd.k40
  have hb := hr.ok.b
  refine Wp_call (F := f48) rfl rfl ?_
  unfold f48
  rw [WpS_cons]
  simp [-ss_cons, dVar, encR]
  rw [WpS_cons]
  have hL : ∀ S : Sto, prim .list true [sT r.b.ks] S = mkL true (r.b.ks.map .str) S := fun _ => rfl
  simp [-ss_cons, dVar, ix_w0, hL, sizeLine_eq]
  refine ⟨by have := hb.kl; omega, ?_⟩
  rw [WpS_cons]
  simp [-ss_cons, dVar]
  have ww : Wl S.length r.b.ks (S ++ [MO.lst (r.b.ks.map .str)]) := by show _ = _; simp
  refine w_draw (h.push _) (by decide) (by decide) fun k S1 hk hj1 hF1 => ?_
  have hw1 : Wl S.length r.b.ks S1 := by show _ = _; rw [hF1.2 _ (by omega)]; exact ww
  refine w_boxes hj1 hw1 (by omega) hst (by omega) fun bs ks2 S2 hB hbl hj2 hw2 hF2 => ?_
  have hfl : FrG (· = j) S S2 := by
    refine ⟨by have := hF1.1; have := hF2.1; simp at *; omega, fun l hl hA => ?_⟩
    rw [hF2.2 l (by rintro (q | q) <;> omega), hF1.2 l hA, List.getElem?_append_left hl]
  have hBl := hB.len
  rw [WpS_cons]
  simp [-ss_cons, dVar, (Sq.ref hw2).tuple, ix_w1, ix_w2, ix_w3, b_addt, sizeLine_eq]
  have hbb := hb.bl
  refine ⟨by omega, ?_⟩
  have hab : ∀ x ∈ ks2, abk x := fun x hx => by
    rcases hB.el x hx with q | q
    · exact hr.b.ab x q
    · exact q
  have hw' : WbOk st ⟨ks2, r.b.bs ++ bs, r.b.l, r.b.r⟩ := ⟨by show ks2.length ≤ 1000; omega, by show (r.b.bs ++ bs).length ≤ 1000; rw [List.length_append]; omega, hb.ll, hb.rl, fun x hx => abk_word (hab x hx), fun b hb' => by
    rcases List.mem_append.mp hb' with q | q
    · exact (hb.bs b q).pre hB.pre
    · exact hB.ok b q, In.pre hB.pre hb.il, In.pre hB.pre hb.ir⟩
  have hws : WbS ⟨ks2, r.b.bs ++ bs, r.b.l, r.b.r⟩ := ⟨by show ks2.length ≤ 60; omega, by show (r.b.bs ++ bs).length ≤ 12; rw [List.length_append]; omega, hr.b.l, hr.b.r, hab, fun b hb' => by
    rcases List.mem_append.mp hb' with q | q
    · exact hr.b.me b q
    · exact hB.me b q⟩
  have hro : RuOk st ⟨r.a, ⟨ks2, r.b.bs ++ bs, r.b.l, r.b.r⟩⟩ := ⟨hr.ok.a, hw', by rw [hr.ok.kl]; exact (kindsAt_pre hB.pre hb.il).symm, by rw [hr.ok.kr]; exact (kindsAt_pre hB.pre hb.ir).symm, hr.ok.lf, hr.ok.el⟩
  have e : D.tup [encW r.a, D.tup [D.tup (ks2.map .str), D.tup (r.b.bs.map encB ++ bs.map encB), nT r.b.l, nT r.b.r]] = encR ⟨r.a, ⟨ks2, r.b.bs ++ bs, r.b.l, r.b.r⟩⟩ := by
    simp [encR, encW, sT]
  rw [e]
  exact Wp_close hfl (fun l hl hA => hA ▸ hj2.low) (pure_encR _) fun hF hg => hq _ _ ⟨hro, hr.a, hws⟩ (hj2.eq (hg _ hlt)) hF
end
end Pw.Lw

set_option Elab.async false
set_option linter.all false
set_option maxRecDepth 100000
set_option maxHeartbeats 1000000
namespace Pw.Lw
open PySem PySem.Spec PyProof.Rows L2 Pw
section
variable {n : Nat} {S : Sto} {X : Xc → Sto → Prop}
theorem pure_encSt (st : List So) : D.pure (encSt st) = true := by
  show D.pures _ = true
  exact pures_map pure_encSo st
theorem pure_encBk (st : List So) (rs : List Ru) : D.pure (encBk st rs) = true := by
  have := pures_map pure_encR rs
  simp [encBk, D.pure, D.pures, pure_encSt, this]
theorem w_book {j : Nat} {rules mo : Nat} {Q : D → Sto → Prop} (h : Jr j S) (hr1 : 1 ≤ rules) (hr : rules ≤ 8) (hm1 : 1 ≤ mo) (hm : mo ≤ 3)
    (hq : ∀ (st : List So) (rs : List Ru) (ws : List Int) (S2 : Sto), SkOk st → 1 ≤ rs.length → rs.length ≤ rules → (∀ r ∈ rs, RuD st r) → WtOk st ws → Jr j S2 → Fr (· = j) S S2 → Q (.lst [encBk st rs, iT ws]) S2) :
    Wp (cl (n + 6) 47 [.ref j, .int (rules : Int), .int (mo : Int)] S) Q X := by
  have hlt := h.lt
  refine Wp_call (F := f47) rfl rfl ?_
  unfold f47
  rw [WpS_cons]
  simp [-ss_cons, dVar]
  refine w_stock h fun st0 S1 hst0 hj1 hF1 => ?_
  refine w_draw hj1 (by decide) (by decide) fun k0 S2 hk0 hj2 hF2 => ?_
  simp [-ss_cons, c_eqi, sizeLine_eq]
  have hF12 := hF1.trans hF2
  rw [WpS_cons]
  refine WpS.join (fun e S' => ∃ (st : List So) (b : Bool) (x5 : Option D), SkOk st ∧ (b = true → ∃ wds, st = cst wds ∧ ∀ w ∈ wds, w ∈ menu) ∧ e = [some (.ref j), some (.int (rules : Int)), some (.int (mo : Int)), some (encSt st), some (.bl b), x5, none, none, none, none] ∧ Jr j S' ∧ Fr (· = j) S S') ?_ ?_
  · simp [-ss_cons, dVar]
    by_cases hc : k0 = 0
    · simp [-ss_cons, hc]
      rw [WpS_cons]
      simp [-ss_cons, dVar]
      refine w_words hj2 fun wds S3 hwds hj3 hF3 => ?_
      refine w_draw hj3 (by decide) (by decide) fun k1 S4 hk1 hj4 hF4 => ?_
      have hsl : slice false (.lst (wds.map .str)) none (some (2 + (k1 : Int))) S4 = .ok (.lst ((wds.take (2 + k1)).map .str)) S4 := by
        rw [sl_lst, show (2 + (k1 : Int)) = ((2 + k1 : Nat) : Int) by omega, cut_to, ← List.map_take]
        unfold mkL
        rw [if_pos (small (by simp [hwds.len]; omega))]
        rfl
      simp only [List.map_take] at hsl
      simp [-ss_cons, b_add, hsl]
      rw [← List.map_take]
      have htl : (wds.take (2 + k1)).length = 2 + k1 := by rw [List.length_take, hwds.len]; omega
      have hnd : (wds.take (2 + k1)).Nodup := List.Sublist.nodup (List.take_sublist _ _) hwds.nd
      have hme : ∀ w ∈ wds.take (2 + k1), w ∈ menu := fun w hw => hwds.me w (List.mem_of_mem_take hw)
      generalize wds.take (2 + k1) = wd at htl hnd hme
      refine Wp.of_eq (comp_map (enc := D.str) (g := fun w => encSo ⟨w, ["a"], ["a"]⟩) (stays_nil _) wd [] (small (by simp; omega)) fun w hw => ⟨_, rfl, rfl, by simp [dVar, sizeLine_eq, encSo, sT]⟩) ?_
      rw [List.nil_append]
      refine ⟨small (by simp; omega), ?_⟩
      simp [tLst]
      refine ⟨cst wd, cst_sk (by omega) (by omega) hnd hme, ⟨wd, rfl, hme⟩, ?_, hj4, (hF12.trans hF3).trans hF4⟩
      simp [encSt, cst, List.map_map, Function.comp_def]
    · simp [-ss_cons, hc]
      exact ⟨st0, hst0, rfl, hj2, hF12⟩
  · rintro e S3 ⟨st, b, x5, hst, hb, rfl, hj3, hF3⟩
    have hl2 := hst.l2
    have hl3 := hst.l3
    rw [WpS_cons]
    simp [-ss_cons, dVar, encSt]
    refine Wp_comp (enc := encSo) (fun i acc S' => ∃ ws : List Int, ws.length = i ∧ acc = ws.map .int ∧ (∀ k, k < ws.length → 1 ≤ gt ws k ∧ gt ws k ≤ 3) ∧ Jr j S' ∧ Fr (· = j) S S') st 0 [] S3 (small (by simp; omega)) ⟨[], rfl, rfl, fun k hk => by simp at hk, hj3, hF3⟩ ?_ ?_
    · rintro i acc S4 hi ⟨ws, hw, rfl, hws, hj4, hF4⟩
      refine ⟨stays_nil _, _, rfl, ?_⟩
      simp [tt_none, dVar]
      refine w_draw hj4 (by decide) (by decide) fun k2 S5 hk2 hj5 hF5 => ?_
      simp [b_add]
      refine ⟨ws ++ [1 + (k2 : Int)], by simp; omega, by simp, ?_, hj5, hF4.trans hF5⟩
      intro k hk
      rw [gt_app]
      by_cases q : k < ws.length
      · rw [if_pos q]; exact hws k q
      · rw [if_neg q, if_pos (by simp at hk; omega)]; omega
    · rintro acc S4 ⟨ws, hw, rfl, hws, hj4, hF4⟩
      refine ⟨stays_nil _, ?_⟩
      refine ⟨small (by simp at hw; simp; omega), ?_⟩
      have hwt : WtOk st ws := ⟨by simpa using hw, fun k hk => hws k (by simp at hw; omega)⟩
      simp [-ss_cons, tLst, sizeLine_eq]
      rw [WpS_cons]
      simp [-ss_cons, dVar]
      refine w_draw (hj4.push _) (by omega) (by omega) fun k3 S5 hk3 hj5 hF5 => ?_
      simp [-ss_cons, b_add]
      rw [rng1 (j := (1 + (k3 : Int))) (by omega) (by omega)]
      simp [-ss_cons]
      have hl4 := hF4.1
      have hlt4 : j < S4.length := hj4.lt
      refine WpS_for (fun i e S' => ∃ (rs : List Ru) (x9 : Option D), rs.length = i ∧ (∀ r ∈ rs, RuD st r) ∧ e = [some (.ref j), some (.int (rules : Int)), some (.int (mo : Int)), some (encSt st), some (.bl b), x5, none, some (iT ws), some (.ref S4.length), x9] ∧ Jr j S' ∧ FrG (· = j) S S' ∧ S'[S4.length]? = some (.lst (rs.map encR))) (List.range (1 + (k3 : Int)).toNat) 0 _ _ ⟨[], none, rfl, (fun _ h => nomatch h), rfl, hj5, (hF4.g.trans (FrG.push _)).trans hF5.g, by rw [hF5.2 _ (by omega)]; simp⟩ ?_ ?_
      · rintro i e S6 hi ⟨rs, x9, hrl, hrs, rfl, hj6, hF6, hn6⟩
        refine ⟨stays_nil _, _, rfl, ?_⟩
        simp at hi
        simp only [Nat.zero_add] at hrl ⊢
        have step : ∀ (r : Ru) (S7 : Sto), RuD st r → Jr j S7 → Fr (· = j) S6 S7 → S7[S4.length]? = some (.lst (rs.map encR)) ∧ (Jr j (S7.set S4.length (.lst (rs.map encR ++ [encR r]))) ∧ FrG (· = j) S (S7.set S4.length (.lst (rs.map encR ++ [encR r]))) ∧ (S7.set S4.length (.lst (rs.map encR ++ [encR r])))[S4.length]? = some (.lst ((rs ++ [r]).map encR))) := by
          intro r S7 hr hj7 hF7
          have hn7 : S7[S4.length]? = some (.lst (rs.map encR)) := by rw [hF7.2 _ (by omega)]; exact hn6
          refine ⟨hn7, hj7.eq (List.getElem?_set_ne (by omega)), (hF6.trans hF7.g).setNew (by omega), ?_⟩
          rw [List.getElem?_set_self (List.getElem?_eq_some_iff.mp hn7).1]
          simp
        have app : ∀ r, RuD st r → ∀ q ∈ rs ++ [r], RuD st q := by
          intro r hr q hq'
          rcases List.mem_append.mp hq' with w | w
          · exact hrs q w
          · rw [List.mem_singleton.mp w]; exact hr
        have iTe : D.tup (ws.map .int) = iT ws := rfl
        have iSe : D.tup (st.map encSo) = encSt st := rfl
        rw [WpS_cons]
        cases b with
        | true =>
          obtain ⟨wds, rfl, hme⟩ := hb rfl
          simp [-ss_cons, dVar]
          rw [WpS_cons]
          simp [-ss_cons, dVar, kd_refl hn6, Pr.kindOk, b_add]
          rw [show ((mo : Int) + 1) = ((mo + 1 : Nat) : Int) by omega]
          refine w_chainrule hj6 hst hwt hme (by omega) (by omega) fun r S7 hr hj7 hF7 => ?_
          obtain ⟨hn7, s1, s2, s3⟩ := step r S7 hr hj7 hF7
          simp [kd_refl hn7]
          rw [p_app hn7 (by rw [sizeLine_eq, List.length_map]; omega)]
          simp
          exact ⟨rs ++ [r], by simp; omega, app r hr, s1, s2, s3⟩
        | false =>
          simp [-ss_cons, dVar]
          rw [WpS_cons]
          simp [-ss_cons, dVar, kd_refl hn6, Pr.kindOk]
          refine w_rule hj6 hst hwt hm1 (by omega) fun r S7 hr hj7 hF7 => ?_
          obtain ⟨hn7, s1, s2, s3⟩ := step r S7 hr hj7 hF7
          simp [kd_refl hn7]
          rw [p_app hn7 (by rw [sizeLine_eq, List.length_map]; omega)]
          simp
          exact ⟨rs ++ [r], by simp; omega, app r hr, s1, s2, s3⟩
      · rintro e S6 ⟨rs, x9, hrl, hrs, rfl, hj6, hF6, hn6⟩
        refine ⟨stays_nil _, ?_⟩
        rw [WpS_cons]
        simp [-ss_cons, dVar, (Sq.ref hn6).tuple, sizeLine_eq]
        simp at hrl
        refine Wp_close hF6 (fun l hl hA => hA ▸ hj6.low) (by simp [D.pure, D.pures, pure_encSt, pures_map pure_encR, pure_iT]) fun hF hg => hq st rs ws _ hst (by omega) (by omega) hrs hwt (hj6.eq (hg _ hlt)) hF
end
end Pw.Lw

set_option Elab.async false
set_option linter.all false
set_option maxRecDepth 100000
set_option maxHeartbeats 1000000
namespace Pw.Lw
open PySem PySem.Spec PyProof.Rows L2 Pw
section
variable {n : Nat} {S : Sto} {X : Xc → Sto → Prop}
theorem menu_sm : ∀ w ∈ menu, D.sm (.str w) = true := by decide +kernel
theorem abk_sm {k : Str} (h : abk k) : D.sm (.str k) = true ∧ D.wt (.str k) + 2 ≤ 20 := by
  rcases h with rfl | rfl <;> exact ⟨by decide +kernel, by decide +kernel⟩
theorem sm_sT {l : List Str} (h : ∀ k ∈ l, abk k) : D.sm (sT l) = true := sms_map (g := D.str) fun k hk => (abk_sm (h k hk)).1
theorem wt_sT {l : List Str} (h : ∀ k ∈ l, abk k) : D.wt (sT l) ≤ 3 + l.length * 20 := Nat.add_le_add_left (wts_map (g := D.str) fun k hk => (abk_sm (h k hk)).2) 3
theorem sm_nT {l : List Nat} (h : ∀ k ∈ l, k ≤ 100) : D.sm (nT l) = true := sms_map (g := nD) fun k hk => decide_eq_true (by have := h k hk; omega)
theorem wt_nT {l : List Nat} (h : ∀ k ∈ l, k ≤ 100) : D.wt (nT l) ≤ 3 + l.length * 104 := Nat.add_le_add_left (wts_map (g := nD) fun k hk => by
  have := h k hk
  show ((k : Int).natAbs + 2) + 2 ≤ 104
  omega) 3
theorem wt_tup (xs : List D) : D.wt (.tup xs) = 3 + D.wts xs := rfl
theorem wts_cons (x : D) (xs : List D) : D.wts (x :: xs) = D.wt x + 2 + D.wts xs := rfl
theorem wts_nil : D.wts [] = 0 := rfl
theorem sms_cons (x : D) (xs : List D) : D.sms (x :: xs) = (D.sm x && D.sms xs) := rfl
theorem sm_encSo {s : So} (h : SoOk s) : D.sm (encSo s) = true ∧ D.wt (encSo s) + 2 ≤ 300 := by
  have h1 := menu_sm _ h.w
  have h2 := menu_len _ h.w
  have h3 := sm_sT h.ki
  have h4 := sm_sT h.ko
  have h5 := wt_sT h.ki
  have h6 := wt_sT h.ko
  have h7 := h.i2
  have h8 := h.o2
  constructor
  · show D.sms _ = true
    simp [sms_cons, h1, h3, h4, D.sms]
  · unfold encSo
    have e : D.wt (.str s.w) = 10 * s.w.length + 2 := rfl
    rw [wt_tup, wts_cons, wts_cons, wts_cons, wts_nil, e]
    omega
theorem sm_encW {st : List So} {w : Wb} (h : WbOk st w) (hs : WbS w) : D.sm (encW w) = true ∧ D.wt (encW w) ≤ 20000 := by
  have hk := hs.ks
  have lt100 : ∀ is, In w.ks is → ∀ k ∈ is, k ≤ 100 := fun is hi k hk' => by have := hi k hk'; omega
  have h1 := sm_sT hs.ab
  have h2 := wt_sT hs.ab
  have h3 := sm_nT (lt100 _ h.il)
  have h4 := wt_nT (lt100 _ h.il)
  have h5 := sm_nT (lt100 _ h.ir)
  have h6 := wt_nT (lt100 _ h.ir)
  have hb : ∀ b ∈ w.bs, D.sm (encB b) = true ∧ D.wt (encB b) + 2 ≤ 1000 := fun b hb => by
    have hB := h.bs b hb
    have g1 := menu_sm _ (hs.me b hb)
    have g2 := menu_len _ (hs.me b hb)
    have g3 := sm_nT (lt100 _ hB.ii)
    have g4 := wt_nT (lt100 _ hB.ii)
    have g5 := sm_nT (lt100 _ hB.io)
    have g6 := wt_nT (lt100 _ hB.io)
    have g7 := hB.i4
    have g8 := hB.o4
    constructor
    · show D.sms _ = true
      simp [sms_cons, g1, g3, g5, D.sms]
    · unfold encB
      have e : D.wt (.str b.w) = 10 * b.w.length + 2 := rfl
      rw [wt_tup, wts_cons, wts_cons, wts_cons, wts_nil, e]
      omega
  have h7 : D.sms (w.bs.map encB) = true := sms_map fun b hb' => (hb b hb').1
  have h8 : D.wts (w.bs.map encB) ≤ w.bs.length * 1000 := wts_map fun b hb' => (hb b hb').2
  have hl := hs.l
  have hr := hs.r
  have hbs := hs.bs
  constructor
  · show D.sms _ = true
    have : D.sm (.tup (w.bs.map encB)) = true := h7
    simp [sms_cons, h1, h3, h5, this, D.sms]
  · unfold encW
    rw [wt_tup, wts_cons, wts_cons, wts_cons, wts_cons, wts_nil, wt_tup]
    omega
theorem dep_encSo (s : So) : D.dep (encSo s) ≤ 2 := by
  have := dep_sT s.i
  have := dep_sT s.o
  simp [encSo, D.dep, D.deps]; omega
theorem dep_nT (l : List Nat) : D.dep (nT l) ≤ 1 := by
  have : D.deps (l.map nD) ≤ 0 := deps_map (g := nD) (fun _ => Nat.le_refl 0) l
  show D.deps (l.map nD) + 1 ≤ 1
  omega
theorem dep_encB (b : Bx) : D.dep (encB b) ≤ 2 := by
  have := dep_nT b.i
  have := dep_nT b.o
  simp [encB, D.dep, D.deps]; omega
theorem dep_encW (w : Wb) : D.dep (encW w) ≤ 4 := by
  have := dep_nT w.l
  have := dep_nT w.r
  have := dep_sT w.ks
  have : D.deps (w.bs.map encB) ≤ 2 := deps_map (g := encB) dep_encB _
  simp [encW, D.dep, D.deps]; omega
theorem dep_encR (r : Ru) : D.dep (encR r) ≤ 5 := by
  have := dep_encW r.a
  have := dep_encW r.b
  simp [encR, D.dep, D.deps]; omega
theorem dep_encBk (st : List So) (rs : List Ru) : D.dep (encBk st rs) ≤ 7 := by
  have : D.deps (st.map encSo) ≤ 2 := deps_map (g := encSo) dep_encSo _
  have : D.deps (rs.map encR) ≤ 5 := deps_map (g := encR) dep_encR _
  simp [encBk, encSt, D.dep, D.deps]; omega
theorem sm_encBk {st : List So} {rs : List Ru} (hst : SkOk st) (h8 : rs.length ≤ 8) (h : ∀ r ∈ rs, RuW st r) : D.sm (encBk st rs) = true ∧ D.wt (encBk st rs) ≤ 1000000 := by
  have h1 : D.sms (st.map encSo) = true := sms_map fun s hs => (sm_encSo (hst.so s hs)).1
  have h2 : D.wts (st.map encSo) ≤ st.length * 300 := wts_map fun s hs => (sm_encSo (hst.so s hs)).2
  have hr : ∀ r ∈ rs, D.sm (encR r) = true ∧ D.wt (encR r) + 2 ≤ 50000 := fun r hr => by
    have q := h r hr
    have q1 := sm_encW q.ok.a q.a
    have q2 := sm_encW q.ok.b q.b
    constructor
    · show D.sms _ = true
      simp [sms_cons, q1.1, q2.1, D.sms]
    · unfold encR
      rw [wt_tup, wts_cons, wts_cons, wts_nil]
      omega
  have h3 : D.sms (rs.map encR) = true := sms_map fun r hr' => (hr r hr').1
  have h4 : D.wts (rs.map encR) ≤ rs.length * 50000 := wts_map fun r hr' => (hr r hr').2
  have hl3 := hst.l3
  constructor
  · show D.sms _ = true
    have a1 : D.sm (encSt st) = true := h1
    have a2 : D.sm (.tup (rs.map encR)) = true := h3
    simp [sms_cons, a1, a2, D.sms]
  · unfold encBk encSt
    rw [wt_tup, wts_cons, wts_cons, wts_nil, wt_tup, wt_tup]
    omega
/-- what the least weights are told by -/
theorem Least.sol {st : List So} {rs : List Ru} {w : List Int} (h : Least st rs (some w)) : w.length = st.length ∧ (∀ j, j < st.length → 0 ≤ gt w j ∧ gt w j ≤ 9) ∧ ∀ r ∈ rs, 1 ≤ dot st.length (gt (loss st r)) (gt w) := by
  refine ⟨h.1.len, fun j hj => ?_, fun r hr => h.1.pos _ (List.mem_map_of_mem hr)⟩
  have := h.1.btw j hj
  rwa [gt_rep hj, gt_rep hj] at this
theorem Least.smo {st : List So} {rs : List Ru} {r : Option (List Int)} (h : Least st rs r) (hl : st.length ≤ 1000) : SmO r := by
  cases r with
  | none => trivial
  | some w =>
    obtain ⟨h1, h2, _⟩ := h.sol
    refine ⟨by omega, fun j hj => ?_⟩
    have := h2 j (by omega)
    omega
theorem dot_loss (st : List So) (r : Ru) (w : List Int) : dot st.length (gt (loss st r)) (gt w) = sumOf st w r.a - sumOf st w r.b := by
  unfold dot sumOf
  rw [← sum_sub]
  congr 1
  apply tab_congr
  intro j hj
  unfold loss
  rw [tab_getD hj, Int.sub_mul]
theorem Least.fall {st : List So} {rs : List Ru} {w : List Int} (h : Least st rs (some w)) : (rs.all fun r => decide (sumOf st w r.b < sumOf st w r.a)) = true := by
  rw [List.all_eq_true]
  intro r hr
  have := h.sol.2.2 r hr
  rw [dot_loss] at this
  exact decide_eq_true (by omega)
/-- with fewer rules none is greater -/
theorem Least.less {st : List So} {rs rs2 : List Ru} {w : List Int} {r2 : Option (List Int)} (h : Least st rs (some w)) (hsub : ∀ r ∈ rs2, r ∈ rs) (h2 : Least st rs2 r2) : ∃ v, r2 = some v ∧ (v = w ∨ Lx st.length v w) := by
  have hS : Sol st.length (rs2.map (loss st)) (z09 st.length 0) (z09 st.length 9) w := ⟨h.1.len, h.1.btw, fun row hr => by
    obtain ⟨r, hr', rfl⟩ := List.mem_map.mp hr
    exact h.1.pos _ (List.mem_map_of_mem (hsub r hr'))⟩
  cases r2 with
  | none => exact absurd hS (h2 w)
  | some v => exact ⟨v, rfl, h2.2 w hS⟩
end
end Pw.Lw

set_option Elab.async false
set_option linter.all false
set_option maxRecDepth 100000
set_option maxHeartbeats 1000000
namespace Pw.Lw
open PySem PySem.Spec PyProof.Rows L2 Pw
section
variable {n : Nat} {S : Sto} {X : Xc → Sto → Prop}
theorem bk_ok {st : List So} {rs : List Ru} (hst : SkOk st) (h1 : 1 ≤ rs.length) (h8 : rs.length ≤ 8) (h : ∀ r ∈ rs, RuW st r) : BkOk st rs := ⟨hst.st, h1, h8, fun r hr => (h r hr).ok⟩
theorem w_right {j : Nat} {Q : D → Sto → Prop} (h : Jr j S) (hq : ∀ (S2 : Sto), Jr j S2 → Fr (· = j) S S2 → Q (.bl true) S2) :
    Wp (cl (n + 19) 52 [.ref j] S) Q X := by
  have hlt := h.lt
  refine Wp_call (F := f52) rfl rfl ?_
  unfold f52
  rw [WpS_cons]
  simp [-ss_cons, dVar]
  refine w_book (rules := 4) (mo := 3) h (by decide) (by decide) (by decide) (by decide) fun st rs ws S1 hst hr1 hr4 hrs hwt hj1 hF1 => ?_
  have i0 : ∀ rs S, Pw.index S (encBk st rs) (.int 0) = some (encSt st) := fun _ _ => rfl
  have i1 : ∀ rs S, Pw.index S (encBk st rs) (.int 1) = some (.tup (rs.map encR)) := fun _ _ => rfl
  have z0 := (Sq.lst (S := S1) [encBk st rs, iT ws]).ix (k := 0) (by simp)
  simp at z0
  simp [-ss_cons, z0]
  rw [WpS_cons]
  simp [-ss_cons, dVar, i1]
  refine Wp_comp (enc := encR) (fun i acc S' => ∃ rs2 : List Ru, rs2.length = i ∧ acc = rs2.map encR ∧ (∀ r ∈ rs2, RuW st r) ∧ Jr j S' ∧ Fr (· = j) S S') rs 0 [] S1 (small (by simp; omega)) ⟨[], rfl, rfl, (fun _ h => nomatch h), hj1, hF1⟩ ?_ ?_
  · rintro i acc S2 hi ⟨rs2, hr2, rfl, hrs2, hj2, hF2⟩
    refine ⟨stays_nil _, _, rfl, ?_⟩
    have hd := hrs _ (List.getElem_mem hi)
    generalize rs[i] = r at hd
    simp [tt_none, dVar]
    refine w_draw hj2 (by decide) (by decide) fun k S3 hk hj3 hF3 => ?_
    have app : ∀ r, RuW st r → ∀ q ∈ rs2 ++ [r], RuW st q := by
      intro r hr q hq'
      rcases List.mem_append.mp hq' with w | w
      · exact hrs2 q w
      · rw [List.mem_singleton.mp w]; exact hr
    simp [c_gt]
    by_cases hk0 : 0 < k
    · simp [hk0, i0]
      refine w_heavier (n := n + 14) hj3 hst hd fun r2 S4 hr2' hj4 hF4 => ?_
      exact ⟨rs2 ++ [r2], by simp; omega, by simp, app r2 hr2', hj4, (hF2.trans hF3).trans hF4⟩
    · simp [hk0]
      exact ⟨rs2 ++ [r], by simp; omega, by simp, app r hd.w, hj3, hF2.trans hF3⟩
  · rintro acc S2 ⟨rs2, hr2, rfl, hrs2, hj2, hF2⟩
    refine ⟨stays_nil _, ?_⟩
    rw [Nat.zero_add] at hr2
    have hbk := bk_ok hst (by omega) (by omega) hrs2
    have hl3 := hst.l3
    refine ⟨small (by simp; omega), ?_⟩
    simp [-ss_cons, tLst]
    rw [WpS_cons]
    simp [-ss_cons, dVar, i0, sizeLine_eq]
    have hbe : D.tup [encSt st, .tup (rs2.map encR)] = encBk st rs2 := rfl
    rw [hbe]
    obtain ⟨due, e1, hdue⟩ := s_lawleast (n := n + 16) (S := S2) st rs2 hbk (by omega)
    obtain ⟨r', e2, hr'⟩ := s_falling (n := n) (S := S2) st rs2 hbk
    have hrr : r' = due := IsLeast.uniq hr' hdue
    subst hrr
    have hsm := sm_encBk hst (by omega) hrs2
    have e3 := p_repr (S := S2) (bx := false) hsm.1 (by omega) (Nat.le_trans (dep_encBk st rs2) (by decide))
    have hso := hr'.smo (by omega)
    have e4 := same_T2 (n := n + 15) (S := S2) hso
    simp only [cl] at e1 e2 e4
    generalize (D.py (encBk st rs2)).shown = shn at e3
    rw [WpS_cons]
    simp [-ss_cons, dVar, e1, e3, sizeLine_eq]
    rw [WpS_cons]
    simp [-ss_cons, dVar, e2, e3, e4, sizeLine_eq, truth, c_nes]
    have fin : ∀ S', S' = S2 → Wp (closeR true S (SR.ret (.bl true) S')) Q X := by
      rintro S' rfl
      exact Wp_close hF2.g (fun l hl hA => hA ▸ hj2.low) rfl fun hF hg => hq _ (hj2.eq (hg _ hlt)) hF
    have eL : prim .len false [.tup (rs2.map encR)] S2 = .ok (.int rs2.length) S2 := by rw [lTup, List.length_map]
    have hdl : rs2.dropLast.length = rs2.length - 1 := by simp
    have hsl : slice false (.tup (rs2.map encR)) none (some (-1)) S2 = .ok (.tup (rs2.dropLast.map encR)) S2 := by
      rw [sl_tup, cut_m1, List.map_dropLast]
    have hbe2 : D.tup [encSt st, .tup (rs2.dropLast.map encR)] = encBk st rs2.dropLast := rfl
    cases r' with
    | none =>
      rw [WpS_cons]
      simp [-ss_cons, dVar, encT, isop]
      rw [WpS_cons]
      simp [-ss_cons, dVar, eL, c_gt]
      by_cases hone : (1 : Int) < rs2.length
      · have hbk2 := bk_ok hst (by omega) (by omega) fun r (hr : r ∈ rs2.dropLast) => hrs2 r ((List.dropLast_sublist _).subset hr)
        obtain ⟨r3, e5, _⟩ := s_falling (n := n) (S := S2) st rs2.dropLast hbk2
        simp only [cl] at e5
        simp only [List.map_dropLast] at hsl hbe2
        simp [-ss_cons, hone, i0, hsl, sizeLine_eq, dNeg, hbe2, e5]
        rw [WpS_cons]
        simp [dVar, isop, dOr, truth]
        exact fin _ rfl
      · simp [-ss_cons, hone]
        rw [WpS_cons]
        simp [dVar, isop, dOr, truth]
        exact fin _ rfl
    | some w =>
      have hsol := hr'.sol
      have e6 := s_allfall (n := n + 8) (S := S2) st rs2 w hbk hsol.1 (fun x hx => by
        obtain ⟨k, hk, rfl⟩ := List.getElem_of_mem hx
        have := hsol.2.1 k (by omega)
        simp [gt, hk] at this
        omega)
      rw [hr'.fall] at e6
      simp only [cl] at e6
      rw [WpS_cons]
      have hiso : ∀ w : List Int, isop (iT w) .non = some false := fun _ => rfl
      have hist : isop (.bl true) (.bl true) = some true := rfl
      simp [-ss_cons, dVar, encT, hiso, e6, hist]
      rw [WpS_cons]
      simp [-ss_cons, dVar, eL, c_gt]
      by_cases hone : (1 : Int) < rs2.length
      · have hsub : ∀ r ∈ rs2.dropLast, r ∈ rs2 := fun r hr => (List.dropLast_sublist _).subset hr
        have hbk2 := bk_ok hst (by omega) (by omega) fun r (hr : r ∈ rs2.dropLast) => hrs2 r (hsub r hr)
        obtain ⟨r3, e5, hr3⟩ := s_falling (n := n) (S := S2) st rs2.dropLast hbk2
        obtain ⟨v, rfl, hv⟩ := hr'.less hsub hr3
        have hle := c_leT (S := S2) hr3.sol.1 hsol.1 hv
        simp only [cl] at e5
        simp only [List.map_dropLast] at hsl hbe2
        simp [-ss_cons, hone, i0, hsl, sizeLine_eq, dNeg, hbe2, e5]
        rw [WpS_cons]
        simp [dVar, hiso, dOr, dAnd, truth, encT, hle]
        exact fin _ rfl
      · have hle := c_leT (S := S2) hsol.1 hsol.1 (.inl rfl)
        simp [-ss_cons, hone]
        rw [WpS_cons]
        simp [dVar, hiso, dOr, dAnd, truth, hle]
        exact fin _ rfl
end
end Pw.Lw

set_option Elab.async false
set_option linter.all false
set_option maxRecDepth 100000
set_option maxHeartbeats 1000000
namespace Pw.Lw
open PySem PySem.Spec PyProof.Rows L2 Pw
section
variable {n : Nat} {S : Sto} {X : Xc → Sto → Prop}
theorem place_nat (k : Nat) : ∀ ps : List Nat, k ∈ ps → (ps.map fun (k : Nat) => PyData.int (k : Int)).findIdx? (fun y => PyData.eqv y (.int (k : Int))) = some (ps.idxOf k)
  | [], h => by cases h
  | p :: ps, h => by
    rw [List.map_cons, List.findIdx?_cons, List.idxOf_cons]
    by_cases e : p = k
    · subst e
      simp [PyData.eqv]
    · have e2 : PyData.eqv (.int (p : Int)) (.int (k : Int)) = false := by
        simp only [PyData.eqv, beq_eq_false_iff_ne]
        omega
      have hm : k ∈ ps := by
        rcases List.mem_cons.mp h with h | h
        · exact absurd h.symm e
        · exact h
      rw [e2, place_nat k ps hm]
      have : (p == k) = false := by simpa using e
      simp [this]
theorem p_indexr {bx : Bool} {r : Nat} (k : Nat) (ps : List Nat) (hr : S[r]? = some (.lst (ps.map nD))) (h : k ∈ ps) : prim .indexOf bx [.ref r, .int (k : Int)] S = .ok (.int (ps.idxOf k : Nat)) S := by
  have e : idxOf S (.int (k : Int)) (ps.map nD) = some (ps.idxOf k) := by
    have h1 : pyd S (.int (k : Int)) = some (.int (k : Int)) := rfl
    unfold idxOf inSeq
    rw [h1, toPys_nats]
    simp only
    rw [if_pos (Nat.le_trans (Nat.min_le_right _ _) (by simp [PyData.depth]))]
    exact place_nat k ps h
  show R.o ((seqOf S (.ref r)).bind (idxOf S (.int (k : Int)))) (fun i => .ok (.int i) S) = _
  have es : seqOf S (.ref r) = some (ps.map nD) := by
    unfold seqOf
    rw [rd_ref, hr]
    rfl
  rw [es, Option.bind_some, e]
  rfl
def alf : Str := "abcdefghijkl"
def wd (k : Nat) : Str := "w" ++ ⟨#[alf.cps.toList.getD k 0]⟩
def wds (m : Nat) : List Str := (List.range m).map wd
theorem alf_len : alf.cps.toList.length = 12 := by decide +kernel
theorem wds12 : (wds 12).Nodup := by decide +kernel
theorem wd_word : ∀ k, k < 12 → wordB (wd k) = true := by decide +kernel
theorem wd_inj {a b : Nat} (ha : a < 12) (hb : b < 12) (h : wd a = wd b) : a = b := by
  have := (List.nodup_iff_pairwise_ne.mp wds12)
  have hn := wds12
  unfold wds at hn
  have e := (List.getElem_inj hn (h₀ := by simpa using ha) (h₁ := by simpa using hb)).mp (by simpa using h)
  exact e
theorem wds_ok {m : Nat} (h1 : 1 ≤ m) (h : m ≤ 12) : StOk (cst (wds m)) := by
  refine ⟨by simp [cst, wds]; omega, by simp [cst, wds]; omega, fun s hs => ?_, ?_⟩
  · obtain ⟨w, hw, rfl⟩ := List.mem_map.mp hs
    obtain ⟨k, hk, rfl⟩ := List.mem_map.mp hw
    have hk := List.mem_range.mp hk
    have ha : kindsB ["a"] = true := by decide +kernel
    unfold soB
    rw [wd_word k (by omega), ha]
    rfl
  · have e : (cst (wds m)).map (·.w) = wds m := by simp [cst, List.map_map, Function.comp_def]
    rw [e]
    have hs : List.Sublist (wds m) (wds 12) := by
      unfold wds
      refine List.Sublist.map _ ?_
      rw [show List.range m = (List.range 12).take m by rw [List.take_range]; congr 1; omega]
      exact List.take_sublist _ _
    exact hs.nodup wds12
def rl (o : List Nat) (k : Nat) : Ru := ⟨chain [wd (o.getD k 0)], chain [wd (o.getD (k + 1) 0)]⟩
def bk (o : List Nat) : Ru := ⟨chain [wd (o.getD (o.length - 1) 0)], chain [wd (o.getD 0 0)]⟩
theorem cnt_one {m a : Nat} (hm : m ≤ 12) (ha : a < m) {j : Nat} (hj : j < m) : (((cnt (cst (wds m)) (chain [wd a])).getD j 0 : Nat) : Int) = if a = j then 1 else 0 := by
  have e : (cnt (cst (wds m)) (chain [wd a])).getD j 0 = countB (chain [wd a]).bs (wd j) := by
    simp [cnt, cst, wds, hj]
  rw [e]
  have e2 : countB (chain [wd a]).bs (wd j) = if wd a = wd j then 1 else 0 := by
    unfold countB
    simp [chain, chBx, List.range_succ, List.count_cons]
  rw [e2]
  by_cases q : a = j
  · subst q; simp
  · rw [if_neg q, if_neg fun z => q (wd_inj (by omega) (by omega) z)]
    rfl
theorem sum_one {m a : Nat} (hm : m ≤ 12) (ha : a < m) (v : List Int) : sumOf (cst (wds m)) v (chain [wd a]) = gt v a := by
  unfold sumOf
  have hl : (cst (wds m)).length = m := by simp [cst, wds]
  rw [hl, ← sum_ind (v := gt v) ha]
  congr 1
  apply tab_congr
  intro j hj
  rw [cnt_one hm ha hj]
theorem dot_one {m a b : Nat} (hm : m ≤ 12) (ha : a < m) (hb : b < m) (v : List Int) : dot m (gt (loss (cst (wds m)) ⟨chain [wd a], chain [wd b]⟩)) (gt v) = gt v a - gt v b := by
  have := dot_loss (cst (wds m)) ⟨chain [wd a], chain [wd b]⟩ v
  have hl : (cst (wds m)).length = m := by simp [cst, wds]
  rw [hl] at this
  rw [this, sum_one hm ha, sum_one hm hb]
theorem getD_lt {o : List Nat} {m k : Nat} (ho : ∀ j ∈ o, j < m) (hk : k < o.length) : o.getD k 0 < m := ho _ (getD_in _ hk)
theorem rl_row {m : Nat} {o : List Nat} {rs : List Ru} (hm : m ≤ 12) (ho : ∀ j ∈ o, j < m) (hp : rs.Perm ((List.range (o.length - 1)).map (rl o))) (v : List Int) :
    (∀ row ∈ rs.map (loss (cst (wds m))), 1 ≤ dot m (gt row) (gt v)) ↔ Row o (gt v) := by
  constructor
  · intro h k hk
    have hr : rl o k ∈ rs := hp.mem_iff.mpr (List.mem_map.mpr ⟨k, List.mem_range.mpr (by omega), rfl⟩)
    have := h _ (List.mem_map_of_mem hr)
    unfold rl at this
    rw [dot_one hm (getD_lt ho (by omega)) (getD_lt ho hk)] at this
    omega
  · intro h row hrow
    obtain ⟨r, hr, rfl⟩ := List.mem_map.mp hrow
    obtain ⟨k, hk, rfl⟩ := List.mem_map.mp (hp.mem_iff.mp hr)
    have hk := List.mem_range.mp hk
    unfold rl
    rw [dot_one hm (getD_lt ho (by omega)) (getD_lt ho (by omega))]
    have := h k (by omega)
    omega
theorem rl_ok {m : Nat} {o : List Nat} (hm : m ≤ 12) {a b : Nat} (ha : a < m) (hb : b < m) : RuOk (cst (wds m)) ⟨chain [wd a], chain [wd b]⟩ := by
  refine chain_rule (fun w hw => ?_) (fun w hw => ?_) (by simp) (by simp) (by simp)
  · rw [List.mem_singleton.mp hw]; exact List.mem_map.mpr ⟨a, List.mem_range.mpr ha, rfl⟩
  · rw [List.mem_singleton.mp hw]; exact List.mem_map.mpr ⟨b, List.mem_range.mpr hb, rfl⟩
theorem many_bk {m : Nat} {o : List Nat} {rs : List Ru} (h1 : 1 ≤ m) (hm : m ≤ 12) (ho : ∀ j ∈ o, j < m) (h2 : 2 ≤ o.length) (h9 : o.length ≤ 9) (hp : rs.Perm ((List.range (o.length - 1)).map (rl o))) : BkOk (cst (wds m)) rs := by
  have hl : rs.length = o.length - 1 := by rw [hp.length_eq]; simp
  refine ⟨wds_ok h1 hm, by omega, by omega, fun r hr => ?_⟩
  obtain ⟨k, hk, rfl⟩ := List.mem_map.mp (hp.mem_iff.mp hr)
  have hk := List.mem_range.mp hk
  exact rl_ok (o := o) hm (getD_lt ho (by omega)) (getD_lt ho (by omega))
theorem many_least {m : Nat} {o : List Nat} {rs : List Ru} (hm : m ≤ 12) (hn : o.Nodup) (ho : ∀ j ∈ o, j < m) (h9 : o.length ≤ 9) (hp : rs.Perm ((List.range (o.length - 1)).map (rl o))) : Least (cst (wds m)) rs (some (tab m (dueF o))) := by
  have hl : (cst (wds m)).length = m := by simp [cst, wds]
  unfold Least
  rw [hl]
  exact due_least hn ho h9 (rl_row hm ho hp)
theorem many_none {m : Nat} {o : List Nat} {rs : List Ru} {r : Option (List Int)} (hm : m ≤ 12) (ho : ∀ j ∈ o, j < m) (h2 : 2 ≤ o.length) (hp : rs.Perm ((List.range (o.length - 1)).map (rl o))) (h : Least (cst (wds m)) (rs ++ [bk o]) r) : r = none := by
  cases r with
  | none => rfl
  | some v =>
    have hl : (cst (wds m)).length = m := by simp [cst, wds]
    obtain ⟨h1, h3, h4⟩ := h.sol
    rw [hl] at h1 h3 h4
    have hrow : Row o (gt v) := (rl_row hm ho hp v).mp fun row hr => by
      obtain ⟨r, hr', rfl⟩ := List.mem_map.mp hr
      exact h4 r (List.mem_append_left _ hr')
    have hb := h4 (bk o) (by simp)
    unfold bk at hb
    rw [dot_one hm (getD_lt ho (by omega)) (getD_lt ho (by omega))] at hb
    exact (back_none ho h2 hrow (fun j hj => (h3 j hj).1) (by omega)).elim
end
end Pw.Lw

set_option Elab.async false
set_option linter.all false
set_option maxRecDepth 100000
set_option maxHeartbeats 1000000
namespace Pw.Lw
open PySem PySem.Spec PyProof.Rows L2 Pw
section
variable {n : Nat} {S : Sto} {X : Xc → Sto → Prop}
theorem c_nenil_r {x : List Ru} : cmpop .ne (.lst (x.map encR)) (.lst []) S = some (!x.isEmpty) := by
  rw [c_ned (a := .lst (x.map encR)) (b := .lst []) (nbs_map (fun r => by
    have hb : ∀ w : Wb, D.nb (encW w) = true := fun w => by
      have := nbs_map nb_encB w.bs
      simp [encW, D.nb, D.nbs, nb_sT, nb_nT, this]
    simp [encR, D.nb, D.nbs, hb]) x) rfl (by
    have : D.deps (x.map encR) ≤ 5 := deps_map (g := encR) dep_encR _
    show D.deps _ + 1 ≤ 60
    omega)]
  cases x <;> simp
theorem w_many {j : Nat} {Q : D → Sto → Prop} (h : Jr j S) (hq : ∀ (S2 : Sto), Jr j S2 → Fr (· = j) S S2 → Q (.bl true) S2) :
    Wp (cl (n + 19) 53 [.ref j] S) Q X := by
  have hlt := h.lt
  refine Wp_call (F := f53) rfl rfl ?_
  unfold f53
  rw [WpS_cons]
  simp [-ss_cons, dVar]
  refine w_draw h (by decide) (by decide) fun k0 S1 hk0 hj1 hF1 => ?_
  simp [-ss_cons, b_add]
  rw [rng1 (j := (6 + (k0 : Int))) (by omega) (by omega)]
  simp [-ss_cons]
  obtain ⟨m, hm⟩ : ∃ m : Nat, (6 + (k0 : Int)).toNat = m := ⟨_, rfl⟩
  have hm6 : 6 ≤ m := by omega
  have hm12 : m ≤ 12 := by omega
  rw [hm]
  refine Wp.of_eq (comp_map (enc := fun (k : Nat) => D.int (k : Int)) (g := fun k => D.str (wd k)) (stays_nil _) (List.range m) [] (small (by simp; omega)) fun k hk => ⟨_, rfl, rfl, ?_⟩) ?_
  · have hk := List.mem_range.mp hk
    have hx := ix_str (S := S1) (z := alf) (k := k) (by rw [alf_len]; omega) (by rw [sizeLine_eq]; decide +kernel)
    have hx' : Pw.index S1 (D.str (Str.ofString "abcdefghijkl")) (D.int (k : Int)) = _ := hx
    have hd : alf.cps.toList.getD k 0 = alf.cps.toList[k]'(by rw [alf_len]; omega) := by
      rw [List.getD_eq_getElem?_getD, List.getElem?_eq_getElem (by rw [alf_len]; omega)]; rfl
    simp [dVar, hx']
    rw [b_adds, if_pos (by rw [sizeLine_eq]; show (Str.ofString "w").length + 1 ≤ _; have : (Str.ofString "w").length = 1 := by decide +kernel
                           omega)]
    unfold wd
    rw [hd]
    rfl
  rw [List.nil_append]
  have hwe : (List.range m).map (fun k => D.str (wd k)) = (wds m).map .str := by simp [wds, List.map_map, Function.comp_def]
  rw [hwe]
  have hwl : (wds m).length = m := by simp [wds]
  refine ⟨small (by simp [hwl]; omega), ?_⟩
  simp [-ss_cons, sizeLine_eq]
  have hl1 := hF1.1
  rw [hl1]
  rw [WpS_cons]
  simp [-ss_cons, dVar]
  refine Wp.of_eq (comp_map (enc := D.str) (g := fun w => encSo ⟨w, ["a"], ["a"]⟩) (stays_nil _) (wds m) [] (small (by simp [hwl]; omega)) fun w hw => ⟨_, rfl, rfl, by simp [dVar, sizeLine_eq, encSo, sT]⟩) ?_
  rw [List.nil_append]
  refine ⟨small (by simp [hwl]; omega), ?_⟩
  have hse : D.tup ((wds m).map fun w => encSo ⟨w, ["a"], ["a"]⟩) = encSt (cst (wds m)) := by simp [encSt, cst, List.map_map, Function.comp_def]
  simp [-ss_cons, tLst, lLst, hwl]
  rw [p_rngL (j := (m : Int)) (by omega)]
  simp [-ss_cons, sizeLine_eq]
  refine ⟨by omega, ?_⟩
  have hse' : D.tup ((wds m).map fun w => encSo ⟨w, [Str.ofString "a"], [Str.ofString "a"]⟩) = encSt (cst (wds m)) := hse
  rw [hse']
  rw [hl1]
  have n0 : (S1 ++ [MO.lst [], MO.lst ((List.range m).map fun (k : Nat) => D.int (k : Int))])[S.length]? = some (.lst []) := by
    rw [List.getElem?_append_right (by omega), hl1, Nat.sub_self]; rfl
  have n1 : (S1 ++ [MO.lst [], MO.lst ((List.range m).map fun (k : Nat) => D.int (k : Int))])[S.length + 1]? = some (.lst ((List.range m).map nD)) := by
    rw [List.getElem?_append_right (by omega), show S.length + 1 - S1.length = 1 by omega]; rfl
  have hjA : Jr j (S1 ++ [MO.lst [], MO.lst ((List.range m).map fun (k : Nat) => D.int (k : Int))]) := hj1.eq (List.getElem?_append_left hj1.lt)
  have hFA : FrG (· = j) S (S1 ++ [MO.lst [], MO.lst ((List.range m).map fun (k : Nat) => D.int (k : Int))]) := hF1.g.trans ⟨by simp, fun l hl _ => List.getElem?_append_left hl⟩
  have hlA : (S1 ++ [MO.lst [], MO.lst ((List.range m).map fun (k : Nat) => D.int (k : Int))]).length = S.length + 2 := by simp; omega
  generalize (S1 ++ [MO.lst [], MO.lst ((List.range m).map fun (k : Nat) => D.int (k : Int))]) = SA at n0 n1 hjA hFA hlA
  rw [WpS_cons]
  simp [-ss_cons, dVar, lLst, hwl, b_sub, p_mn]
  obtain ⟨mm, hmm, hmm0, hmm8, hmmm⟩ : ∃ mm : Int, (if (m : Int) - 1 < 8 then (m : Int) - 1 else 8) = mm ∧ 0 < mm ∧ mm ≤ 8 ∧ mm ≤ (m : Int) - 1 := by
    split
    · exact ⟨_, rfl, by omega, by omega, by omega⟩
    · exact ⟨_, rfl, by omega, by omega, by omega⟩
  rw [hmm]
  refine w_draw hjA (by omega) (by omega) fun k1 SB hk1 hjB hFB => ?_
  simp [-ss_cons, b_add]
  rw [rng1 (j := (2 + (k1 : Int))) (by omega) (by omega)]
  simp [-ss_cons]
  obtain ⟨t, ht⟩ : ∃ t : Nat, (2 + (k1 : Int)).toNat = t := ⟨_, rfl⟩
  have ht2 : 2 ≤ t := by omega
  have ht9 : t ≤ 9 := by omega
  have htm : t ≤ m := by omega
  rw [ht]
  refine WpS_for (fun i e S' => ∃ (o left : List Nat) (x7 : Option D), o.length = i ∧ (o ++ left).Perm (List.range m) ∧ e = [some (.ref j), none, some (.lst ((wds m).map .str)), some (.ref S.length), none, some (encSt (cst (wds m))), some (.ref (S.length + 1)), x7, none, none, none, none] ∧
    Jr j S' ∧ FrG (· = j) S S' ∧ S'.length = S.length + 2 ∧ S'[S.length]? = some (.lst (o.map nD)) ∧ S'[S.length + 1]? = some (.lst (left.map nD))) (List.range t) 0 _ _ ⟨[], List.range m, none, rfl, by simp, rfl, hjB, hFA.trans hFB.g, by rw [hFB.1]; exact hlA, by rw [hFB.2 _ (by omega)]; exact n0, by rw [hFB.2 _ (by omega)]; exact n1⟩ ?_ ?_
  · rintro i e S2 hi ⟨o, left, x7, hol, hp, rfl, hj2, hf2, hl2, m0, m1⟩
    refine ⟨stays_nil _, _, rfl, ?_⟩
    simp at hi
    simp only [Nat.zero_add] at hol
    have hpl := hp.length_eq
    simp at hpl
    rw [WpS_cons]
    simp [-ss_cons, dVar, kd_refl m0, kd_refl m1, Pr.kindOk, (Sq.ref m1).len]
    refine w_draw hj2 (by omega) (by omega) fun q S3 hq3 hj3 hF3 => ?_
    have g0 : S3[S.length]? = some (.lst (o.map nD)) := by rw [hF3.2 _ (by omega)]; exact m0
    have g1 : S3[S.length + 1]? = some (.lst (left.map nD)) := by rw [hF3.2 _ (by omega)]; exact m1
    have hql : q < left.length := by omega
    simp [-ss_cons, kd_refl g1]
    rw [p_popat g1 (by rw [List.length_map]; exact hql) (by rw [List.length_map]; omega)]
    simp [-ss_cons]
    rw [map_erase' nD left q]
    have hperm := perm_erase hql
    have hel := List.length_eraseIdx_of_lt hql
    generalize left[q] = x at hperm
    generalize left.eraseIdx q = left2 at hperm hel
    have b0 : (S3.set (S.length + 1) (.lst (left2.map nD)))[S.length]? = some (.lst (o.map nD)) := by rw [List.getElem?_set_ne (by omega)]; exact g0
    rw [kd_refl b0, p_app b0 (by rw [sizeLine_eq, List.length_map]; omega)]
    simp
    have hl3 := hF3.1
    refine ⟨o ++ [x], by simp; omega, left2, ?_, ?_, ?_, by omega, ?_, ?_⟩
    · rw [List.append_assoc]
      exact ((hperm.append_left o)).trans hp
    · exact (hj3.eq (List.getElem?_set_ne (by omega))).eq (List.getElem?_set_ne (by omega))
    · exact ((hf2.trans hF3.g).setNew (by omega)).setNew (Nat.le_refl _)
    · rw [List.getElem?_set_self (by simp; omega)]; simp
    · first
        | (rw [List.getElem?_set_ne (by omega), List.getElem?_set_self (by omega)])
        | (rw [List.getElem?_set_self (by omega)])
  · rintro e S2 ⟨o, left, x7, hol, hp, rfl, hj2, hf2, hl2, m0, m1⟩
    refine ⟨stays_nil _, ?_⟩
    simp at hol
    have hnd : o.Nodup := by
      have := hp.nodup_iff.mpr List.nodup_range
      exact (List.nodup_append.mp this).1
    have hom : ∀ x ∈ o, x < m := fun x hx => List.mem_range.mp (hp.mem_iff.mp (List.mem_append_left _ hx))
    clear hp m1
    have ixo : ∀ (S' : Sto) (k : Nat), S'[S.length]? = some (.lst (o.map nD)) → k < o.length → Pw.index S' (.ref S.length) (.int (k : Int)) = some (.int (o.getD k 0 : Nat)) := fun S' k h1 hk => Sq.ixd (enc := nD) 0 (Sq.ref h1) hk
    have ixw : ∀ (S' : Sto) (a : Nat), a < m → Pw.index S' (.lst ((wds m).map .str)) (.int (a : Int)) = some (.str (wd a)) := fun S' a ha => by
      have := Sq.ixd (S := S') (enc := D.str) ⟨#[]⟩ (Sq.lst ((wds m).map .str)) (k := a) (by rw [hwl]; exact ha)
      rw [this]
      simp [wds, ha]
    have chn : ∀ (S' : Sto) (a : Nat), callN Fs Gn (n + 18) 45 [.lst [.str (wd a)]] S' = .ok (encW (chain [wd a])) S' := fun S' a => s_chain (n := n + 17) [wd a] (Sq.lst [.str (wd a)]) (by simp)
    rw [WpS_cons]
    simp [-ss_cons, dVar, (Sq.ref m0).len, b_sub]
    rw [rng1 (j := ((o.length : Int) - 1)) (by omega) (by omega)]
    simp [-ss_cons]
    have htn : o.length - 1 = t - 1 := by omega
    refine Wp.of_eq (comp_map (enc := fun (k : Nat) => D.int (k : Int)) (g := fun k => encR (rl o k)) (stays_nil _) (List.range (o.length - 1)) [] (small (by simp; omega)) fun k hk => ⟨_, rfl, rfl, ?_⟩) ?_
    · have hk := List.mem_range.mp hk
      have y1 := ixo S2 k m0 (by omega)
      have y2 := ixo S2 (k + 1) m0 (by omega)
      have y2' : Pw.index S2 (.ref S.length) (.int ((k : Int) + 1)) = some (.int (o.getD (k + 1) 0 : Nat)) := y2
      have w1 := ixw S2 (o.getD k 0) (getD_lt hom (by omega))
      have w2 := ixw S2 (o.getD (k + 1) 0) (getD_lt hom (by omega))
      have c1 := chn S2 (o.getD k 0)
      have c2 := chn S2 (o.getD (k + 1) 0)
      unfold rl
      generalize o.getD k 0 = a at y1 w1 c1
      generalize o.getD (k + 1) 0 = b at y2' w2 c2
      have mk1 : ∀ x : D, mkL false [x] S2 = .ok (.lst [x]) S2 := fun x => by unfold mkL; rw [if_pos (by rw [sizeLine_eq]; simp)]; rfl
      simp [dVar, y1, y2', w1, w2, b_add, mk1, c1, c2, sizeLine_eq, encR]
    rw [List.nil_append]
    refine ⟨small (by simp; omega), ?_⟩
    have d0 : (S2 ++ [MO.lst ((List.range (o.length - 1)).map fun k => encR (rl o k))])[S.length]? = some (.lst (o.map nD)) := by rw [List.getElem?_append_left (by omega)]; exact m0
    have d2 : (S2 ++ [MO.lst ((List.range (o.length - 1)).map fun k => encR (rl o k))])[S.length + 2]? = some (.lst (((List.range (o.length - 1)).map (rl o)).map encR)) := by
      rw [List.getElem?_append_right (by omega), show S.length + 2 - S2.length = 0 by omega]
      simp [List.map_map, Function.comp_def]
    have hj3 : Jr j (S2 ++ [MO.lst ((List.range (o.length - 1)).map fun k => encR (rl o k))]) := hj2.push _
    have hf3 : FrG (· = j) S (S2 ++ [MO.lst ((List.range (o.length - 1)).map fun k => encR (rl o k))]) := hf2.trans (FrG.push _)
    have hl3 : (S2 ++ [MO.lst ((List.range (o.length - 1)).map fun k => encR (rl o k))]).length = S.length + 3 := by simp; omega
    generalize (S2 ++ [MO.lst ((List.range (o.length - 1)).map fun k => encR (rl o k))]) = S3 at d0 d2 hj3 hf3 hl3
    rw [hl2]
    rw [WpS_cons]
    simp [-ss_cons, dVar, lLst, hwl]
    rw [rng1 (j := (m : Int)) (by omega) (by omega)]
    simp [-ss_cons]
    refine Wp.of_eq (comp_map (enc := fun (k : Nat) => D.int (k : Int)) (g := fun k => D.int (dueF o k)) (stays_nil _) (List.range m) [] (small (by simp; omega)) fun k hk => ⟨_, rfl, rfl, ?_⟩) ?_
    · have hin := (Sq.ref d0).inN (w := k)
      by_cases hko : k ∈ o
      · have hpi := p_indexr (bx := false) k o d0 hko
        simp [dVar, hin, hko, kd_refl d0, Pr.kindOk, hpi, (Sq.ref d0).len, b_sub, dueF]
      · simp [dVar, hin, hko, dueF]
    rw [List.nil_append]
    refine ⟨small (by simp; omega), ?_⟩
    have hdt : D.tup ((List.range m).map fun k => D.int (dueF o k)) = iT (tab m (dueF o)) := by simp [iT, tab, List.map_map, Function.comp_def]
    simp [-ss_cons, tLst]
    rw [hdt]
    rw [WpS_cons]
    simp [-ss_cons, dVar, sizeLine_eq]
    rw [hl3]
    rw [WpS_cons]
    simp only [s_while]
    have d0' : (S3 ++ [MO.lst []])[S.length]? = some (.lst (o.map nD)) := by rw [List.getElem?_append_left (by omega)]; exact d0
    have d2' : (S3 ++ [MO.lst []])[S.length + 2]? = some (.lst (((List.range (o.length - 1)).map (rl o)).map encR)) := by rw [List.getElem?_append_left (by omega)]; exact d2
    have d3' : (S3 ++ [MO.lst []])[S.length + 3]? = some (.lst []) := by rw [List.getElem?_append_right (by omega), show S.length + 3 - S3.length = 0 by omega]; rfl
    have hj4 : Jr j (S3 ++ [MO.lst []]) := hj3.push _
    have hf4 : FrG (· = j) S (S3 ++ [MO.lst []]) := hf3.trans (FrG.push _)
    generalize (S3 ++ [MO.lst []]) = S4 at d0' d2' d3' hj4 hf4
    have hrl : ((List.range (o.length - 1)).map (rl o)).length = o.length - 1 := by simp
    generalize hrules : (List.range (o.length - 1)).map (rl o) = rules at d2' hrl
    refine WpS_while (fun μ e S' => ∃ (rest rows : List Ru), μ = rest.length ∧ e = [some (.ref j), none, some (.lst ((wds m).map .str)), some (.ref S.length), none, some (encSt (cst (wds m))), some (.ref (S.length + 1)), x7, some (.ref (S.length + 2)), some (iT (tab m (dueF o))), some (.ref (S.length + 3)), none] ∧
      (rows ++ rest).Perm rules ∧ Jr j S' ∧ FrG (· = j) S S' ∧ S'[S.length]? = some (.lst (o.map nD)) ∧ S'[S.length + 2]? = some (.lst (rest.map encR)) ∧ S'[S.length + 3]? = some (.lst (rows.map encR))) ?_ rules.length _ _ ⟨rules, [], rfl, rfl, by simp, hj4, hf4, d0', d2', d3'⟩
    rintro μ e S5 ⟨rest, rows, rfl, rfl, hp, hj5, hf5, q0, q2, q3⟩
    have hpl := hp.length_eq
    rw [List.length_append, hrl] at hpl
    simp [-ss_cons, dVar, sizeLine_eq, c_ne_ref q2, c_nenil_r]
    by_cases hre : rest = []
    · subst hre
      simp [-ss_cons]
      simp at hpl
      rw [List.append_nil] at hp
      have hp' : rows.Perm ((List.range (o.length - 1)).map (rl o)) := by rw [hrules]; exact hp
      have hbk := many_bk (by omega) hm12 hom (by omega) (by omega) hp'
      have hle := many_least hm12 hnd hom (by omega) hp'
      obtain ⟨r', e1, hr'⟩ := s_falling (n := n) (S := S5) (cst (wds m)) rows hbk
      have hrr := IsLeast.uniq hr' hle
      subst hrr
      have hcl : (cst (wds m)).length = m := by simp [cst, wds]
      have hsol := hle.sol
      have e2 := s_allfall (n := n + 8) (S := S5) (cst (wds m)) rows (tab m (dueF o)) hbk (by rw [hcl]; simp) (fun x hx => by
        obtain ⟨k, hk, rfl⟩ := List.mem_map.mp hx
        exact (due_bd o k).1)
      rw [hle.fall] at e2
      have hsmo : SmO (some (tab m (dueF o))) := hle.smo (by omega)
      have e3 := same_T (n := n + 16) (S := S5) hsmo
      simp only [cl] at e1 e2 e3
      have hbe : D.tup [encSt (cst (wds m)), .tup (rows.map encR)] = encBk (cst (wds m)) rows := rfl
      have e3' : callN Fs Gn (n + 18) 36 [encT (some (tab m (dueF o))), iT (tab m (dueF o))] S5 = .ok (.bl true) S5 := e3
      have hist : isop (.bl true) (.bl true) = some true := rfl
      have fin : Wp (closeR true S (SR.ret (.bl true) S5)) Q X := Wp_close hf5 (fun l hl hA => hA ▸ hj5.low) rfl fun hF hg => hq _ (hj5.eq (hg _ hlt)) hF
      rw [WpS_cons]
      simp [-ss_cons, dVar, (Sq.ref q3).tuple, sizeLine_eq, hbe, e1, e2, e3', truth, hist]
      have y1 := ixo S5 (o.length - 1) q0 (by omega)
      have y2 := ixo S5 0 q0 (by omega)
      rw [show ((o.length - 1 : Nat) : Int) = (o.length : Int) - 1 by omega] at y1
      rw [show ((0 : Nat) : Int) = 0 from rfl] at y2
      have w1 := ixw S5 (o.getD (o.length - 1) 0) (getD_lt hom (by omega))
      have w2 := ixw S5 (o.getD 0 0) (getD_lt hom (by omega))
      have c1 := chn S5 (o.getD (o.length - 1) 0)
      have c2 := chn S5 (o.getD 0 0)
      have hbkr : D.tup [encW (chain [wd (o.getD (o.length - 1) 0)]), encW (chain [wd (o.getD 0 0)])] = encR (bk o) := rfl
      generalize o.getD (o.length - 1) 0 = a at y1 w1 c1 hbkr
      generalize o.getD 0 0 = b at y2 w2 c2 hbkr
      have mk1 : ∀ x : D, mkL false [x] S5 = .ok (.lst [x]) S5 := fun x => by unfold mkL; rw [if_pos (by rw [sizeLine_eq]; simp)]; rfl
      rw [WpS_cons]
      simp [-ss_cons, dVar, (Sq.ref q0).len, b_sub, y1, y2, w1, w2, mk1, c1, c2, sizeLine_eq, hbkr]
      rw [WpS_cons]
      simp [-ss_cons, dVar, (Sq.ref q3).len, c_eqi]
      by_cases h8 : rows.length = 8
      · simp [h8, dOr, truth]
        exact fin
      · have hbk2 : BkOk (cst (wds m)) (rows ++ [bk o]) := by
          refine ⟨hbk.so, by simp, by simp; omega, fun r hr => ?_⟩
          rcases List.mem_append.mp hr with hr | hr
          · exact hbk.rs r hr
          · rw [List.mem_singleton.mp hr]
            exact rl_ok (o := o) hm12 (getD_lt hom (by omega)) (getD_lt hom (by omega))
        obtain ⟨r2, e4, hr2⟩ := s_falling (n := n) (S := S5) (cst (wds m)) (rows ++ [bk o]) hbk2
        have hnone := many_none hm12 hom (by omega) hp' hr2
        subst hnone
        simp only [cl] at e4
        have hbe2 : D.tup [encSt (cst (wds m)), .tup (rows.map encR ++ [encR (bk o)])] = encBk (cst (wds m)) (rows ++ [bk o]) := by simp [encBk]
        have h8' : ¬ (rows.length : Int) = 8 := by omega
        simp [h8', dOr, truth, (Sq.ref q3).tuple, b_addt, sizeLine_eq, hbe2, e4, encT, isop]
        exact ⟨by omega, fin⟩
    · have hrl2 : 0 < rest.length := List.length_pos_iff.mpr hre
      simp [-ss_cons, hre]
      rw [WpS_cons]
      simp [-ss_cons, dVar, kd_refl q2, kd_refl q3, Pr.kindOk, (Sq.ref q2).len]
      refine w_draw hj5 (by omega) (by omega) fun q S6 hq6 hj6 hF6 => ?_
      have g0 : S6[S.length]? = some (.lst (o.map nD)) := by rw [hF6.2 _ (by omega)]; exact q0
      have g2 : S6[S.length + 2]? = some (.lst (rest.map encR)) := by rw [hF6.2 _ (by omega)]; exact q2
      have g3 : S6[S.length + 3]? = some (.lst (rows.map encR)) := by rw [hF6.2 _ (by omega)]; exact q3
      have hql : q < rest.length := by omega
      simp [-ss_cons, kd_refl g2]
      rw [p_popat g2 (by rw [List.length_map]; exact hql) (by rw [List.length_map]; omega)]
      simp [-ss_cons]
      rw [map_erase' encR rest q]
      have hperm := perm_erase hql
      have hel := List.length_eraseIdx_of_lt hql
      generalize rest[q] = x at hperm
      generalize rest.eraseIdx q = rest2 at hperm hel
      have hlt2 := (List.getElem?_eq_some_iff.mp g2).1
      have hlt3 := (List.getElem?_eq_some_iff.mp g3).1
      have b3 : (S6.set (S.length + 2) (.lst (rest2.map encR)))[S.length + 3]? = some (.lst (rows.map encR)) := by rw [List.getElem?_set_ne (by omega)]; exact g3
      rw [kd_refl b3, p_app b3 (by rw [sizeLine_eq, List.length_map]; omega)]
      simp
      have k0' : ((S6.set (S.length + 2) (.lst (rest2.map encR))).set (S.length + 3) (.lst (rows.map encR ++ [encR x])))[S.length]? = some (.lst (o.map nD)) := by
        rw [List.getElem?_set_ne (by omega), List.getElem?_set_ne (by omega)]; exact g0
      have k2' : ((S6.set (S.length + 2) (.lst (rest2.map encR))).set (S.length + 3) (.lst (rows.map encR ++ [encR x])))[S.length + 2]? = some (.lst (rest2.map encR)) := by
        rw [List.getElem?_set_ne (by omega), List.getElem?_set_self hlt2]
      have k3' : ((S6.set (S.length + 2) (.lst (rest2.map encR))).set (S.length + 3) (.lst (rows.map encR ++ [encR x])))[S.length + 3]? = some (.lst ((rows ++ [x]).map encR)) := by
        rw [List.getElem?_set_self (by simpa using hlt3)]; simp
      have kj : Jr j ((S6.set (S.length + 2) (.lst (rest2.map encR))).set (S.length + 3) (.lst (rows.map encR ++ [encR x]))) :=
        Jr.eq (Jr.eq hj6 (List.getElem?_set_ne (by omega))) (List.getElem?_set_ne (by omega))
      have kf : FrG (· = j) S ((S6.set (S.length + 2) (.lst (rest2.map encR))).set (S.length + 3) (.lst (rows.map encR ++ [encR x]))) := ((hf5.trans hF6.g).setNew (by omega)).setNew (by omega)
      have kp : ((rows ++ [x]) ++ rest2).Perm rules := by
        rw [List.append_assoc]
        exact (hperm.append_left rows).trans hp
      generalize (S6.set (S.length + 2) (.lst (rest2.map encR))).set (S.length + 3) (.lst (rows.map encR ++ [encR x])) = S7 at k0' k2' k3' kj kf
      exact ⟨rest2.length, by omega, rest2, rfl, rows ++ [x], kp, kj, kf, by first | exact k0' | exact g0, by first | exact k2' | exact List.getElem?_set_self hlt2, k3'⟩
end
end Pw.Lw

set_option Elab.async false
set_option linter.all false
set_option maxRecDepth 100000
set_option maxHeartbeats 1000000
namespace Pw.Lw
open PySem PySem.Spec PyProof.Rows L2 Pw
section
variable {n : Nat} {S : Sto} {X : Xc → Sto → Prop}
theorem w_law (ns : List Int) (hns : ns.length ≤ 63) : Wp (cl (n + 20) 54 [.lst (ns.map .int)] S) (fun d S2 => d = .bl true) X := by
  refine Wp_call (F := f54) rfl rfl ?_
  unfold f54
  rw [WpS_cons]
  have hsl : slice false (.lst (ns.map D.int)) none (some 5) S = .ok (.lst ((ns.take 5).map .int)) S := by
    rw [sl_lst, show (5 : Int) = ((5 : Nat) : Int) from rfl, cut_to, ← List.map_take]
    unfold mkL
    rw [if_pos (small (by simp; omega))]
    rfl
  simp only [List.map_take] at hsl
  simp [-ss_cons, dVar, lLst, sizeLine_eq, hsl, b_addl]
  refine ⟨by omega, ?_⟩
  have he : D.int (ns.length : Int) :: (ns.map D.int).take 5 = (((ns.length : Int) :: ns.take 5)).map .int := by simp [List.map_take]
  rw [he]
  have hcells : ((ns.length : Int) :: ns.take 5).length ≤ 6 := by simp; omega
  generalize ((ns.length : Int) :: ns.take 5) = cells at hcells
  have fin : ∀ S2 : Sto, S.length ≤ S2.length → (∀ l, l < S.length → S2[l]? = S[l]?) → Wp (closeR true S (SR.ret (.bl true) S2)) (fun d S2 => d = .bl true) X := by
    intro S2 hl ho
    refine Wp_closeNp (S := S) ⟨hl, fun l h _ => ho l h⟩ rfl rfl
  refine WpS_for (enc := D.int) (fun i e S' => S.length ≤ S'.length ∧ (∀ l, l < S.length → S'[l]? = S[l]?) ∧ ∃ x1 x2 x3, e = [some (.lst (ns.map .int)), x1, x2, x3]) cells 0 _ _ ⟨Nat.le_refl _, fun _ _ => rfl, none, none, none, rfl⟩ ?_ ?_
  · rintro i e S1 hi ⟨hl1, ho1, x1, x2, x3, rfl⟩
    refine ⟨stays_nil _, _, rfl, ?_⟩
    generalize cells[i] = cell
    obtain ⟨a, b, es⟩ := w_source (n := n + 18) (S := S1) cell
    simp only [cl] at es
    rw [WpS_cons]
    simp [-ss_cons, dVar, es]
    rw [WpS_cons]
    simp [-ss_cons]
    rw [rng1 (j := 2) (by decide) (by decide)]
    simp [-ss_cons]
    have hj : Jr S1.length (S1 ++ [MO.lst [.int a, .int b, .int 0]]) := ⟨a, b, 0, by simp⟩
    have ho : ∀ l, l < S.length → (S1 ++ [MO.lst [.int a, .int b, .int 0]])[l]? = S[l]? := fun l hl => by rw [List.getElem?_append_left (by omega)]; exact ho1 l hl
    have hl : S.length ≤ (S1 ++ [MO.lst [.int a, .int b, .int 0]]).length := by simp; omega
    generalize (S1 ++ [MO.lst [.int a, .int b, .int 0]]) = S2 at hj ho hl
    refine WpS_for (fun i e S' => Jr S1.length S' ∧ S.length ≤ S'.length ∧ (∀ l, l < S.length → S'[l]? = S[l]?) ∧ ∃ x3, e = [some (.lst (ns.map .int)), some (.int cell), some (.ref S1.length), x3]) (List.range 2) 0 _ _ ⟨hj, hl, ho, x3, rfl⟩ ?_ ?_
    · rintro q e S3 hq ⟨hj3, hl3, ho3, x3, rfl⟩
      refine ⟨stays_nil _, _, rfl, ?_⟩
      rw [WpS_cons]
      simp [-ss_cons, dVar]
      refine w_right (n := n) hj3 fun S4 hj4 hF4 => ?_
      simp [-ss_cons, truth]
      refine w_many (n := n) hj4 fun S5 hj5 hF5 => ?_
      simp [truth]
      have hF := hF4.trans hF5
      exact ⟨hj5, by rw [hF.1]; exact hl3, fun l hl => by rw [hF.2 l (by omega)]; exact ho3 l hl⟩
    · rintro e S3 ⟨hj3, hl3, ho3, x3, rfl⟩
      refine ⟨stays_nil _, ?_⟩
      simp
      exact ⟨hl3, ho3⟩
  · rintro e S1 ⟨hl1, ho1, x1, x2, x3, rfl⟩
    refine ⟨stays_nil _, ?_⟩
    rw [WpS_cons]
    simp [-ss_cons]
    exact fin S1 hl1 ho1
theorem pure_law : ∀ ns : List Int, ns.length ≤ 63 → ∃ S, callN (fsOf L) (fun _ => none) 200 54 [.lst (ns.map .int)] [] = .ok (.bl true) S := by
  intro ns hns
  obtain ⟨d, S, h1, h2⟩ := Wp.ex (w_law (n := 180) (S := []) (X := NoX) ns hns)
  subst h2
  exact ⟨S, h1⟩
end
end Pw.Lw

set_option Elab.async false
set_option linter.all false
set_option maxRecDepth 100000
set_option maxHeartbeats 0
namespace Pw.Lw
open PySem PySem.Spec PyProof.Rows L2 Pw
theorem cAll : ∀ d ∈ L, fdB 40 L KS GL d = true := by
  intro d hd
  simp only [L, List.mem_cons, List.not_mem_nil, or_false] at hd
  rcases hd with rfl | rfl | rfl | rfl | rfl | rfl | rfl | rfl | rfl | rfl | rfl | rfl | rfl | rfl | rfl | rfl | rfl | rfl | rfl | rfl | rfl | rfl | rfl | rfl | rfl | rfl | rfl | rfl | rfl | rfl | rfl | rfl | rfl | rfl | rfl | rfl | rfl | rfl | rfl | rfl | rfl | rfl | rfl | rfl | rfl | rfl | rfl | rfl | rfl | rfl | rfl | rfl | rfl | rfl | rfl
  · exact c0
  · exact c1
  · exact c2
  · exact c3
  · exact c4
  · exact c5
  · exact c6
  · exact c7
  · exact c8
  · exact c9
  · exact c10
  · exact c11
  · exact c12
  · exact c13
  · exact c14
  · exact c15
  · exact c16
  · exact c17
  · exact c18
  · exact c19
  · exact c20
  · exact c21
  · exact c22
  · exact c23
  · exact c24
  · exact c25
  · exact c26
  · exact c27
  · exact c28
  · exact c29
  · exact c30
  · exact c31
  · exact c32
  · exact c33
  · exact c34
  · exact c35
  · exact c36
  · exact c37
  · exact c38
  · exact c39
  · exact c40
  · exact c41
  · exact c42
  · exact c43
  · exact c44
  · exact c45
  · exact c46
  · exact c47
  · exact c48
  · exact c49
  · exact c50
  · exact c51
  · exact c52
  · exact c53
  · exact c54
/-! ## the head -/
def fn : List He.DefD := fnD L
def fa : List He.Fa := faD L GL
abbrev RWR : PySem.W.OpenRow := PySem.W.OpenLaw.row PySem.Challenge.rw_wirewebs_k48_whole_least_weights
abbrev hk : PySem.W.Hook := He.hookD 4 fa fn
def ob (s : PySem.W.SharedT) : He.AlD := He.obsDG 4 fa fn (HandSHeadRun.getT s)
theorem ob_eq (s : PySem.W.SharedT) : ob s = hk.obs s.abs := He.obsDG_eq (HandSHeadRun.getT_eq s)
theorem run (w : World) : HandSHeadRun.RunEq RWR (PySem.W.view RWR.prog [69]) hk ob 4000 [("WebError" : PySem.Str), ("InvalidWeights" : PySem.Str), ("InvalidBook" : PySem.Str), ("LETTERS" : PySem.Str), ("MOST_LETTERS" : PySem.Str), ("is_integer" : PySem.Str), ("is_between" : PySem.Str), ("is_tuple_of" : PySem.Str), ("is_word" : PySem.Str), ("MOST_SORTS" : PySem.Str), ("MOST_PLACES" : PySem.Str), ("are_kinds" : PySem.Str), ("is_stock" : PySem.Str), ("sorts_in" : PySem.Str), ("are_wires" : PySem.Str), ("kinds_at" : PySem.Str), ("has_form" : PySem.Str), ("boxes_fault" : PySem.Str), ("wires_fault" : PySem.Str), ("ends_fault" : PySem.Str), ("fault_by" : PySem.Str), ("MOST_RULES" : PySem.Str), ("ends_of" : PySem.Str), ("wires_at_boxes" : PySem.Str), ("can_be_left" : PySem.Str), ("have_kinds_alike" : PySem.Str), ("fault_in_rule" : PySem.Str), ("book_fault" : PySem.Str), ("check_book" : PySem.Str), ("MOST_WEIGHT" : PySem.Str), ("is_number" : PySem.Str), ("check_weights" : PySem.Str), ("counts_of" : PySem.Str), ("sum_of" : PySem.Str), ("falls_by" : PySem.Str), ("all_fall" : PySem.Str), ("losses_of" : PySem.Str), ("most_of" : PySem.Str), ("narrowed" : PySem.Str), ("drawn_together" : PySem.Str), ("least_weights" : PySem.Str), ("weights_of" : PySem.Str), ("falling" : PySem.Str), ("_law_source" : PySem.Str), ("_law_draw" : PySem.Str), ("_law_same" : PySem.Str), ("_law_words" : PySem.Str), ("_law_stock" : PySem.Str), ("_law_wire" : PySem.Str), ("_law_boxes" : PySem.Str), ("_law_web" : PySem.Str), ("_law_left" : PySem.Str), ("_law_weight" : PySem.Str), ("_law_rule" : PySem.Str), ("_law_chain" : PySem.Str), ("_law_chain_rule" : PySem.Str), ("_law_book" : PySem.Str), ("_law_heavier" : PySem.Str), ("_law_all" : PySem.Str), ("_law_losses" : PySem.Str), ("_law_least" : PySem.Str), ("_law_right" : PySem.Str), ("_law_many_right" : PySem.Str)] w := by
  intro os
  kernel_rfl
theorem glk : ∀ p ∈ GL, (match p.2 with | .int _ => true | .str _ => true | _ => false) = true := by
  intro p hp
  simp only [GL, List.mem_cons, List.not_mem_nil, or_false] at hp
  rcases hp with rfl | rfl | rfl | rfl | rfl | rfl <;> rfl
end Pw.Lw

set_option Elab.async false
set_option linter.all false
set_option maxRecDepth 100000
set_option maxHeartbeats 0
open PySem PySem.W PySem.Calls PyProof.Rows
theorem PySem.Challenge.cw_wirewebs_k48_whole_least_weights_holds : PySem.Challenge.rw_wirewebs_k48_whole_least_weights.Holds := by
  w_on; o_law
  refine HandSHeadRun.head_any (r := OpenLaw.row PySem.Challenge.rw_wirewebs_k48_whole_least_weights) (q := view (OpenLaw.row PySem.Challenge.rw_wirewebs_k48_whole_least_weights).prog [69]) (H := Pw.Lw.hk) (ob := Pw.Lw.ob) (M := 4000) (loose := [("WebError" : PySem.Str), ("InvalidWeights" : PySem.Str), ("InvalidBook" : PySem.Str), ("LETTERS" : PySem.Str), ("MOST_LETTERS" : PySem.Str), ("is_integer" : PySem.Str), ("is_between" : PySem.Str), ("is_tuple_of" : PySem.Str), ("is_word" : PySem.Str), ("MOST_SORTS" : PySem.Str), ("MOST_PLACES" : PySem.Str), ("are_kinds" : PySem.Str), ("is_stock" : PySem.Str), ("sorts_in" : PySem.Str), ("are_wires" : PySem.Str), ("kinds_at" : PySem.Str), ("has_form" : PySem.Str), ("boxes_fault" : PySem.Str), ("wires_fault" : PySem.Str), ("ends_fault" : PySem.Str), ("fault_by" : PySem.Str), ("MOST_RULES" : PySem.Str), ("ends_of" : PySem.Str), ("wires_at_boxes" : PySem.Str), ("can_be_left" : PySem.Str), ("have_kinds_alike" : PySem.Str), ("fault_in_rule" : PySem.Str), ("book_fault" : PySem.Str), ("check_book" : PySem.Str), ("MOST_WEIGHT" : PySem.Str), ("is_number" : PySem.Str), ("check_weights" : PySem.Str), ("counts_of" : PySem.Str), ("sum_of" : PySem.Str), ("falls_by" : PySem.Str), ("all_fall" : PySem.Str), ("losses_of" : PySem.Str), ("most_of" : PySem.Str), ("narrowed" : PySem.Str), ("drawn_together" : PySem.Str), ("least_weights" : PySem.Str), ("weights_of" : PySem.Str), ("falling" : PySem.Str), ("_law_source" : PySem.Str), ("_law_draw" : PySem.Str), ("_law_same" : PySem.Str), ("_law_words" : PySem.Str), ("_law_stock" : PySem.Str), ("_law_wire" : PySem.Str), ("_law_boxes" : PySem.Str), ("_law_web" : PySem.Str), ("_law_left" : PySem.Str), ("_law_weight" : PySem.Str), ("_law_rule" : PySem.Str), ("_law_chain" : PySem.Str), ("_law_chain_rule" : PySem.Str), ("_law_book" : PySem.Str), ("_law_heavier" : PySem.Str), ("_law_all" : PySem.Str), ("_law_losses" : PySem.Str), ("_law_least" : PySem.Str), ("_law_right" : PySem.Str), ("_law_many_right" : PySem.Str)]) (d := HandSHeadRun.topDef (OpenLaw.row PySem.Challenge.rw_wirewebs_k48_whole_least_weights).prog 69) (kwd := []) Pw.Lw.ob_eq
    (by kernel_rfl) (fun s => by kernel_rfl) Pw.Lw.run (by kernel_rfl) (by kernel_rfl) (by kernel_rfl) (by rfl) (by first | assumption | decide +kernel) (by decide +kernel) ⟨rfl, rfl, rfl, rfl, rfl, by decide +kernel⟩ ?hw ?hc
  case hw => w_witness2
  case hc =>
    refine Pw.walk_ofX (l := PySem.Challenge.rw_wirewebs_k48_whole_least_weights) (n := 63) (k := 200) (x := "script") rfl (by decide) (by kernel_rfl) ⟨rfl, by decide, by decide⟩ ?F
    intro w mg fa h Y G hmg0
    obtain ⟨K, KX, c⟩ := Y
    have hmg : mg ("law" : PySem.Str) = some (.ref fa) := by
      have e : (HandSHeadRun.topDef (OpenLaw.row PySem.Challenge.rw_wirewebs_k48_whole_least_weights).prog 69).name = ("law" : PySem.Str) := by kernel_rfl
      rw [← e]
      exact hmg0
    exact Pw.walk_pure (L := Pw.Lw.L) (KS := Pw.Lw.KS) (GL := Pw.Lw.GL) (G := fun _ => none) (nf := 40) (fl := 54) (dl := Pw.Lw.d54) rfl rfl Pw.Lw.glk KX G hmg c Pw.Lw.cAll Pw.Lw.bAll Pw.Lw.kAll Pw.Lw.pure_law

