import PyProof.Rows.All
import Wide.All
import OpenK.AllK
import Wide.FinOn
import HandS.ForMost
import HandS.ForExc
import HandS.ExcInit
import HandS.CallSlots
import HandS.IsInst
import HandS.TupLe
import HandS.TupAny
import HandS.TupMul
import HandS.Conv
import HandS.SetKeys
import HandS.HeadHook3
import HandS.Lambda
import KE.KDictPairs
import HandS.Zip
import KE.GoesRaise
import HandS.ExcField
import HandS.ExcIs
import HandS.MapJoin
import HandS.HeadNt
import HandS.HeadWalk
import KE.KNestM
import HandS.Head0
import HandS.Head1
import HandS.Head2
import HandS.HeadEnd
import PySem.Challenge.RW_nestrows_k22_corners_told_by_hand
set_option Elab.async false
set_option linter.all false
set_option maxRecDepth 100000
set_option maxHeartbeats 1000000
namespace Mi
open PySem L2

/-! ## values, objects, results -/
inductive D where
  | non | bl (b : Bool) | int (i : Int) | str (x : Str) | tup (ds : List D) | ref (n : Nat) | scr (ns : List Int)
inductive O where
  | lst (ds : List D)
  | dct (kvs : List (D × D))
  | ins (c : Nat) (fs : List (Nat × D))
abbrev S := List O
inductive R (α : Type) where
  | ok (a : α) (s : S)
  | ex (c : Nat) (fs : List (Nat × D)) (s : S)
  | bad
abbrev M (α : Type) := S → R α
@[inline] def R.bind {α β : Type} (r : R α) (f : α → S → R β) : R β :=
  match r with
  | .ok a s => f a s
  | .ex c fs s => .ex c fs s
  | .bad => .bad

/-! ## what represents what -/
/-- a tuple whose object is known to have no dict of its own -/
def TupN (K : PySem.W.Frag) (H : Hp) (a : Addr) (vs : List V) : Prop :=
  (∃ o : Obj, H a = some (.frz o (.tup vs)) ∧ o.dict = none) ∨
    ∃ (o : Obj) (its : Array Value) (n : Nat), K.lookup a = some o ∧ o.cls = .type "tuple" ∧ o.dict = none ∧ o.data = .seq its n ∧ its.size ≤ sizeLine ∧ Vals vs its.toList
theorem TupN.sq {K : PySem.W.Frag} {H : Hp} {a : Addr} {vs : List V} (h : TupN K H a vs) : SqT K H a vs := by
  rcases h with ⟨o, h, _⟩ | ⟨o, its, n, h1, h2, _, h3, h4, h5⟩
  · exact .inl (.inr ⟨o, h⟩)
  · exact .inr ⟨o, its, n, h1, h2, h3, h4, h5⟩
section
variable (K : PySem.W.Frag) (ρ : List Addr) (H : Hp)
mutual
def Rep : D → V → Prop
  | .non, v => v = .non
  | .bl b, v => v = .bl b
  | .int i, v => v = .int i
  | .str x, v => v = .str x
  | .tup ds, v => ∃ a vs, v = .ref a ∧ TupN K H a vs ∧ Reps ds vs
  | .ref n, v => ∃ a, ρ[n]? = some a ∧ v = .ref a
  | .scr ns, v => ∃ a, v = .ref a ∧ ((∃ o, H a = some (.frz o (.lst (ns.map V.int)))) ∨
      ∃ (o : Obj) (its : Array Value) (n : Nat), K.lookup a = some o ∧ o.cls = .type "list" ∧ o.dict = none ∧ o.data = .seq its n ∧ its.size ≤ sizeLine ∧ Vals (ns.map V.int) its.toList)
def Reps : List D → List V → Prop
  | [], vs => vs = []
  | d :: ds, vs => ∃ v r, vs = v :: r ∧ Rep d v ∧ Reps ds r
end
end
/-- a key of a dict -/
def KeyRel : D → Key → Prop
  | .int i, k => k = .inl i
  | .str x, k => k = .inr x
  | _, _ => False
/-- an exception that is being handled: the name's slot, the exception, its dict, its class and fields -/
structure Zx where
  slot : Nat
  a : Addr
  d : Option Addr
  c : Nat
  fs : List (Nat × D)
/-- class and attribute names; the exception at hand; the tables of code objects -/
structure Nm where
  cn : List Str
  an : List Str
  z : Option Zx := none
  tb : List (Addr × Str) := []
  xs : List Nat := []
def Nm.cl (N : Nm) (K : PySem.W.Frag) (c : Nat) : Addr := He.ga K (N.cn.getD c Str.empty)
/-- a class whose instances are plain, and none of the attributes is the class's own -/
structure ClsG (N : Nm) (K : PySem.W.Frag) (c : Nat) : Prop where
  cls : Cls K (N.cl K c)
  noat : ∀ (n : Nat) (x : Str), N.an[n]? = some x → NoAttr K (N.cl K c) x
section
variable (N : Nm) (K : PySem.W.Frag) (ρ : List Addr) (H : Hp)
def KVs : List (D × D) → List (Key × V) → Prop
  | [], l => l = []
  | (k, d) :: r, l => ∃ k' v l', l = (k', v) :: l' ∧ KeyRel k k' ∧ Rep K ρ H d v ∧ KVs r l'
def Fls : List (Nat × D) → List (Str × V) → Prop
  | [], l => l = []
  | (n, d) :: r, l => ∃ x v l', l = (x, v) :: l' ∧ N.an[n]? = some x ∧ Rep K ρ H d v ∧ Fls r l'
def ORel (a : Addr) : O → Prop
  | .lst ds => ∃ vs, H a = some (.lst vs) ∧ Reps K ρ H ds vs
  | .dct kvs => ∃ l, H a = some (.dK l) ∧ KVs K ρ H kvs l
  | .ins c fs => ∃ dx l, H a = some (.ins (N.cl K c) dx l) ∧ Fls N K ρ H fs l ∧ ClsG N K c
/-- an exception's own dict -/
def XD (fs : List (Nat × D)) (dx : Option Addr) : Prop :=
  (fs = [] ∧ dx = none) ∨ ∃ a l, dx = some a ∧ H a = some (.xd l) ∧ ∀ n d, fs.lookup n = some d → ∃ x v, N.an[n]? = some x ∧ l.lookup x = some v ∧ Rep K ρ H d v
structure Rel (st : S) : Prop where
  len : ρ.length = st.length
  nd : ρ.Nodup
  obj : ∀ (i : Nat) (a : Addr) (o : O), ρ[i]? = some a → st[i]? = some o → ORel N K ρ H a o
  zz : ∀ z, N.z = some z → XD N K ρ H z.fs z.d
  tabs : LamX.Tabs N.tb H
end
def IsTbl (o : HO) : Prop := ∃ ps, o = .tbl ps
/-- a later state: all known objects still known, tuples and the script as they were, what is not known untouched -/
structure Ext (ρ : List Addr) (H : Hp) (ρ' : List Addr) (H' : Hp) : Prop where
  pre : ρ <+: ρ'
  new : ∀ b ∈ ρ', b ∉ ρ → ∀ o, H b = some o → IsTbl o
  tup : ∀ b xs, H b = some (.tup xs) → H' b = some (.tup xs)
  frz : ∀ b o u, H b = some (.frz o u) → H' b = some (.frz o u)
  out : ∀ b o, H b = some o → b ∉ ρ → ¬ IsTbl o → H' b = some o
theorem Ext.refl (ρ : List Addr) (H : Hp) : Ext ρ H ρ H := ⟨List.prefix_rfl, fun _ h n => absurd h n, fun _ _ h => h, fun _ _ _ h => h, fun _ _ h _ _ => h⟩
theorem Ext.trans {ρ ρ1 ρ2 : List Addr} {H H1 H2 : Hp} (a : Ext ρ H ρ1 H1) (b : Ext ρ1 H1 ρ2 H2) : Ext ρ H ρ2 H2 where
  pre := a.pre.trans b.pre
  new := fun x h n o e => by
    by_cases h1 : x ∈ ρ1
    · exact a.new x h1 n o e
    · exact Classical.byContradiction fun ht => ht (b.new x h h1 o (a.out x o e n ht))
  tup := fun x xs h => b.tup x xs (a.tup x xs h)
  frz := fun x o u h => b.frz x o u (a.frz x o u h)
  out := fun x o h n ht => b.out x o (a.out x o h n ht) (fun h1 => ht (a.new x h1 n o h)) ht
theorem get_pre {ρ ρ' : List Addr} (h : ρ <+: ρ') {i : Nat} {a : Addr} (e : ρ[i]? = some a) : ρ'[i]? = some a := by
  obtain ⟨t, rfl⟩ := h
  have hi : i < ρ.length := (List.getElem?_eq_some_iff.mp e).1
  rw [List.getElem?_append_left hi]; exact e
theorem TupN.ext {K : PySem.W.Frag} {ρ ρ' : List Addr} {H H' : Hp} {a : Addr} {xs : List V} (x : Ext ρ H ρ' H') (h : TupN K H a xs) : TupN K H' a xs := by
  rcases h with ⟨o, h, d⟩ | h
  · exact .inl ⟨o, x.frz _ _ _ h, d⟩
  · exact .inr h
section
variable {N : Nm} {K : PySem.W.Frag} {ρ ρ' : List Addr} {H H' : Hp}
mutual
theorem Rep.ext (x : Ext ρ H ρ' H') : ∀ (d : D) (v : V), Rep K ρ H d v → Rep K ρ' H' d v
  | .non, _, h => h
  | .bl _, _, h => h
  | .int _, _, h => h
  | .str _, _, h => h
  | .tup ds, v, h => by
    obtain ⟨a, vs, e, s, r⟩ := h
    exact ⟨a, vs, e, TupN.ext x s, Reps.ext x ds vs r⟩
  | .ref n, v, h => by
    obtain ⟨a, e, r⟩ := h
    exact ⟨a, get_pre x.pre e, r⟩
  | .scr ns, v, h => by
    obtain ⟨a, e, h | h⟩ := h
    · obtain ⟨o, h⟩ := h
      exact ⟨a, e, .inl ⟨o, x.frz _ _ _ h⟩⟩
    · exact ⟨a, e, .inr h⟩
theorem Reps.ext (x : Ext ρ H ρ' H') : ∀ (ds : List D) (vs : List V), Reps K ρ H ds vs → Reps K ρ' H' ds vs
  | [], _, h => h
  | d :: ds, vs, h => by
    obtain ⟨v, r, e, h1, h2⟩ := h
    exact ⟨v, r, e, Rep.ext x d v h1, Reps.ext x ds r h2⟩
end
theorem KVs.ext (x : Ext ρ H ρ' H') : ∀ (kvs : List (D × D)) (l : List (Key × V)), KVs K ρ H kvs l → KVs K ρ' H' kvs l
  | [], _, h => h
  | (k, d) :: r, l, h => by
    obtain ⟨k', v, l', e, h1, h2, h3⟩ := h
    exact ⟨k', v, l', e, h1, Rep.ext x d v h2, KVs.ext x r l' h3⟩
theorem Fls.ext (x : Ext ρ H ρ' H') : ∀ (fs : List (Nat × D)) (l : List (Str × V)), Fls N K ρ H fs l → Fls N K ρ' H' fs l
  | [], _, h => h
  | (k, d) :: r, l, h => by
    obtain ⟨k', v, l', e, h1, h2, h3⟩ := h
    exact ⟨k', v, l', e, h1, Rep.ext x d v h2, Fls.ext x r l' h3⟩
/-- an object whose place is as it was -/
theorem ORel.ext (x : Ext ρ H ρ' H') {a : Addr} (e : H' a = H a) : ∀ {o : O}, ORel N K ρ H a o → ORel N K ρ' H' a o
  | .lst ds, h => by
    obtain ⟨vs, h1, h2⟩ := h
    exact ⟨vs, e.trans h1, Reps.ext x _ _ h2⟩
  | .dct kvs, h => by
    obtain ⟨vs, h1, h2⟩ := h
    exact ⟨vs, e.trans h1, KVs.ext x _ _ h2⟩
  | .ins c fs, h => by
    obtain ⟨dx, vs, h1, h2, h3⟩ := h
    exact ⟨dx, vs, e.trans h1, Fls.ext x _ _ h2, h3⟩
/-- what may stand at a known place -/
def Known (u : HO) : Prop := (∃ xs, u = .lst xs) ∨ (∃ l, u = .dK l) ∨ ∃ C dx fs, u = .ins C dx fs
theorem Known.tup {u : HO} (h : Known u) : ∀ xs, u ≠ .tup xs := fun xs e => by
  subst e
  rcases h with ⟨_, z⟩ | ⟨_, z⟩ | ⟨_, _, _, z⟩ <;> cases z
theorem Known.frz {u : HO} (h : Known u) : ∀ p q, u ≠ .frz p q := fun p q e => by
  subst e
  rcases h with ⟨_, z⟩ | ⟨_, z⟩ | ⟨_, _, _, z⟩ <;> cases z
theorem Known.tbl {u : HO} (h : Known u) : ¬ IsTbl u := fun ⟨p, e⟩ => by
  subst e
  rcases h with ⟨_, z⟩ | ⟨_, z⟩ | ⟨_, _, _, z⟩ <;> cases z
theorem Known.xd {u : HO} (h : Known u) : ∀ xs, u ≠ .xd xs := fun xs e => by
  subst e
  rcases h with ⟨_, z⟩ | ⟨_, z⟩ | ⟨_, _, _, z⟩ <;> cases z
theorem Known.ext {u : HO} (h : Known u) : ∀ φ, u ≠ .ext φ := fun xs e => by
  subst e
  rcases h with ⟨_, z⟩ | ⟨_, z⟩ | ⟨_, _, _, z⟩ <;> cases z
theorem ORel.has {a : Addr} : ∀ {o : O}, ORel N K ρ H a o → ∃ u, H a = some u ∧ Known u
  | .lst ds, h => by
    obtain ⟨vs, h1, h2⟩ := h
    exact ⟨_, h1, .inl ⟨_, rfl⟩⟩
  | .dct kvs, h => by
    obtain ⟨vs, h1, h2⟩ := h
    exact ⟨_, h1, .inr (.inl ⟨_, rfl⟩)⟩
  | .ins c fs, h => by
    obtain ⟨dx, vs, h1, h2⟩ := h
    exact ⟨_, h1, .inr (.inr ⟨_, _, _, rfl⟩)⟩
theorem Rel.mem {st : S} (r : Rel N K ρ H st) {a : Addr} (h : a ∈ ρ) : ∃ (i : Nat) (o : O), ρ[i]? = some a ∧ st[i]? = some o ∧ ORel N K ρ H a o := by
  obtain ⟨i, hi⟩ := List.mem_iff_getElem?.mp h
  have hlt : i < st.length := by rw [← r.len]; exact (List.getElem?_eq_some_iff.mp hi).1
  exact ⟨i, st[i], hi, List.getElem?_eq_getElem hlt, r.obj i a _ hi (List.getElem?_eq_getElem hlt)⟩
theorem Rel.notin {st : S} (r : Rel N K ρ H st) {a : Addr} (h : H a = none) : a ∉ ρ := fun hm => by
  obtain ⟨i, o, _, _, h3⟩ := r.mem hm
  obtain ⟨u, hu, _⟩ := h3.has
  rw [h] at hu; cases hu
theorem Rel.at {st : S} (r : Rel N K ρ H st) {i : Nat} {a : Addr} {o : O} (h1 : ρ[i]? = some a) (h2 : st[i]? = some o) : ORel N K ρ H a o := r.obj i a o h1 h2
theorem Rel.outKnown {st : S} (r : Rel N K ρ H st) {a : Addr} {o : HO} (h : H a = some o) (hk : ¬ Known o) : a ∉ ρ := fun hm => by
  obtain ⟨i, o', _, _, h3⟩ := r.mem hm
  obtain ⟨u, hu, k⟩ := h3.has
  rw [h] at hu; cases hu
  exact hk k
theorem XD.ext {st : S} (r : Rel N K ρ H st) (x : Ext ρ H ρ' H') {fs : List (Nat × D)} {dx : Option Addr} (h : XD N K ρ H fs dx) : XD N K ρ' H' fs dx := by
  rcases h with h | ⟨a, l, e, h1, h2⟩
  · exact .inl h
  · refine .inr ⟨a, l, e, x.out a _ h1 (r.outKnown h1 fun k => k.xd _ rfl) (fun ⟨_, z⟩ => by cases z), fun n d hn => ?_⟩
    obtain ⟨y, v, g1, g2, g3⟩ := h2 n d hn
    exact ⟨y, v, g1, g2, Rep.ext x d v g3⟩
theorem tabs_upd {T : List (Addr × Str)} {p : Addr} {o : HO} (t : LamX.Tabs T H) (hp : ∀ u, H p = some u → Known u) : LamX.Tabs T (upd H p o) := fun q hq => by
  obtain ⟨ps, h1, h2, h3⟩ := t q hq
  have ne : ∀ {b : Addr} {u : HO}, H b = some u → ¬ Known u → b ≠ p := fun {b u} e k z => k (hp u (z ▸ e))
  refine ⟨ps, by rw [upd_ne (ne h1 fun k => k.tbl ⟨_, rfl⟩)]; exact h1, h2, fun pos cv hc => ?_⟩
  obtain ⟨c, e1, e2⟩ := h3 pos cv hc
  exact ⟨c, e1, by rw [upd_ne (ne e2 fun k => k.ext _ rfl)]; exact e2⟩
theorem known_none {p : Addr} (hp : H p = none) : ∀ u, H p = some u → Known u := fun u e => by rw [hp] at e; cases e
/-- a new tuple, or anything that is laid at a free place and is not to be known -/
theorem Ext.fresh {st : S} (r : Rel N K ρ H st) {p : Addr} {o : HO} (hp : H p = none) : Ext ρ H ρ (upd H p o) where
  pre := List.prefix_rfl
  new := fun _ h n => absurd h n
  tup := fun b xs h => by rw [upd_ne (ne_of_none h hp)]; exact h
  frz := fun b o' u h => by rw [upd_ne (ne_of_none h hp)]; exact h
  out := fun b o' h _ _ => by rw [upd_ne (ne_of_none h hp)]; exact h
theorem Rel.fresh {st : S} (r : Rel N K ρ H st) {p : Addr} {o : HO} (hp : H p = none) : Rel N K ρ (upd H p o) st where
  len := r.len
  nd := r.nd
  obj := fun i a ob h1 h2 => by
    have hm : a ∈ ρ := List.mem_of_getElem? h1
    have hne : a ≠ p := fun e => r.notin hp (e ▸ hm)
    exact ORel.ext (Ext.fresh r hp) (upd_ne hne) (r.obj i a ob h1 h2)
  zz := fun z hz => (r.zz z hz).ext r (Ext.fresh r hp)
  tabs := tabs_upd r.tabs (known_none hp)
/-- a new object that is known from now on -/
theorem Ext.push {st : S} (r : Rel N K ρ H st) {p : Addr} {o : HO} (hp : H p = none) : Ext ρ H (ρ ++ [p]) (upd H p o) where
  pre := List.prefix_append _ _
  new := fun b h n o e => by
    rcases List.mem_append.mp h with h | h
    · exact absurd h n
    · rw [List.mem_singleton.mp h, hp] at e; cases e
  tup := fun b xs h => by rw [upd_ne (ne_of_none h hp)]; exact h
  frz := fun b o' u h => by rw [upd_ne (ne_of_none h hp)]; exact h
  out := fun b o' h _ _ => by rw [upd_ne (ne_of_none h hp)]; exact h
theorem Rel.push {st : S} (r : Rel N K ρ H st) {p : Addr} {o : HO} {ob : O} (hp : H p = none) (h : ORel N K (ρ ++ [p]) (upd H p o) p ob) : Rel N K (ρ ++ [p]) (upd H p o) (st ++ [ob]) where
  len := by simp [r.len]
  nd := by
    refine List.nodup_append.mpr ⟨r.nd, by simp, fun a ha b hb e => ?_⟩
    rw [List.mem_singleton.mp hb] at e
    exact r.notin hp (e ▸ ha)
  obj := fun i a ob' h1 h2 => by
    by_cases hi : i < ρ.length
    · rw [List.getElem?_append_left hi] at h1
      rw [List.getElem?_append_left (by rw [← r.len]; exact hi)] at h2
      have hm : a ∈ ρ := List.mem_of_getElem? h1
      have hne : a ≠ p := fun e => r.notin hp (e ▸ hm)
      exact ORel.ext (Ext.push r hp) (upd_ne hne) (r.obj i a ob' h1 h2)
    · rw [List.getElem?_append_right (Nat.le_of_not_lt hi)] at h1
      rw [List.getElem?_append_right (by rw [← r.len]; exact Nat.le_of_not_lt hi)] at h2
      rw [r.len] at h1
      have hz : i - st.length = 0 := by
        have := (List.getElem?_eq_some_iff.mp h1).1
        simp at this; omega
      rw [hz] at h1 h2
      simp at h1 h2
      subst h1 h2
      exact h
  zz := fun z hz => (r.zz z hz).ext r (Ext.push r hp)
  tabs := tabs_upd r.tabs (known_none hp)
/-- a known object is written -/
theorem Ext.set {st : S} (r : Rel N K ρ H st) {i : Nat} {a : Addr} {o : HO} (ha : ρ[i]? = some a) : Ext ρ H ρ (upd H a o) where
  pre := List.prefix_rfl
  new := fun _ h n => absurd h n
  tup := fun b xs h => by
    obtain ⟨j, o', h1, h2, h3⟩ := r.mem (List.mem_of_getElem? ha)
    obtain ⟨u, hu, h4⟩ := h3.has
    rw [upd_ne]
    · exact h
    · rintro rfl; rw [h] at hu; cases hu; exact h4.tup _ rfl
  frz := fun b o' u h => by
    obtain ⟨j, o', h1, h2, h3⟩ := r.mem (List.mem_of_getElem? ha)
    obtain ⟨u', hu, h4⟩ := h3.has
    rw [upd_ne]
    · exact h
    · rintro rfl; rw [h] at hu; cases hu; exact h4.frz _ _ rfl
  out := fun b o' h n _ => by
    rw [upd_ne]
    · exact h
    · rintro rfl; exact n (List.mem_of_getElem? ha)
theorem Rel.set {st : S} (r : Rel N K ρ H st) {i : Nat} {a : Addr} {o : HO} {ob : O} (ha : ρ[i]? = some a) (h : ORel N K ρ (upd H a o) a ob) : Rel N K ρ (upd H a o) (st.set i ob) where
  len := by simp [r.len]
  nd := r.nd
  obj := fun j b ob' h1 h2 => by
    by_cases hj : j = i
    · subst hj
      rw [ha] at h1; cases h1
      have hlt : j < st.length := by rw [← r.len]; exact (List.getElem?_eq_some_iff.mp ha).1
      rw [List.getElem?_set_self hlt] at h2; cases h2
      exact h
    · rw [List.getElem?_set_ne (Ne.symm hj)] at h2
      have hne : b ≠ a := by
        rintro rfl
        obtain ⟨h3, e3⟩ := List.getElem?_eq_some_iff.mp h1
        obtain ⟨h4, e4⟩ := List.getElem?_eq_some_iff.mp ha
        exact hj ((List.getElem_inj r.nd).mp (e3.trans e4.symm))
      exact ORel.ext (Ext.set r ha) (upd_ne hne) (r.obj j b ob' h1 h2)
  zz := fun z hz => (r.zz z hz).ext r (Ext.set r ha)
  tabs := tabs_upd r.tabs fun u hu => by
    obtain ⟨j, o', h1, h2, h3⟩ := r.mem (List.mem_of_getElem? ha)
    obtain ⟨u', hu', h4⟩ := h3.has
    rw [hu] at hu'; cases hu'; exact h4
end
end Mi
set_option Elab.async false
set_option linter.all false
set_option maxRecDepth 100000
set_option maxHeartbeats 2000000
namespace Mi
open PySem PySem.Spec PyProof.Rows L2
/-! ## tuples whose objects are known -/
abbrev tupO (us : List Value) : Obj := { cls := .type "tuple", data := .seq us.toArray }
theorem laid_tup {X : Cx} {pins : List (Addr × Obj)} {σ : L2.St} {H : Hp} {s : Shared} {us : List Value} {xs : List V} {Q : VK} (I : Inv X pins σ H s) (r : Vals xs us) (z : xs.length ≤ sizeLine)
    (q : ∀ (p : Addr) (o : Obj), H p = none → o.dict = none → Q (.ref p) (upd H p (.frz o (.tup xs)))) : EP X pins σ Q (.ref s.heap.objs.size) { s with heap := s.heap.push (tupO us) } := by
  refine ⟨.ref s.heap.objs.size, upd H s.heap.objs.size (.frz (tupO us) (.tup xs)), ?_, rfl, q _ (tupO us) (I.hok.fresh (Nat.le_refl _)) rfl⟩
  have g : (s.heap.push (tupO us)).get? s.heap.objs.size = some (tupO us) := Heap.get?_push_size _ rfl
  exact I.laid (t' := s.toks) (fun b u e => Heap.get?_push_of_some _ e) (Nat.le_refl _) ⟨g, z, us, r, ⟨_, g, rfl, _, rfl⟩⟩
def tTupF (t : TA) : TE := fun σ H Q => t σ H fun xs H1 => xs.length ≤ sizeLine ∧ ∀ (p : Addr) (o : Obj), H1 p = none → o.dict = none → Q (.ref p) (upd H1 p (.frz o (.tup xs)))
section
variable {X : Cx} {es : List Expr} {t : TA} {pos : Pos}
theorem pe_tupF {x1} (h : PA X es t) : PE X (.Tuple es x1 pos) (tTupF t) :=
  ⟨fun pins s σ H Q I hq => wpAny_Tuple_spliced (thn (h.run pos pins s σ H _ I hq) fun us s1 ⟨xs, H1, I1, r, z, q⟩ => ⟨by rw [← r.length]; exact z, laid_tup I1 r z q⟩)⟩
/-- t + u -/
def rCatF (K : PySem.W.Frag) : R2 := fun x y H Q => ∃ a b xs ys, x = .ref a ∧ y = .ref b ∧ TupN K H a xs ∧ TupN K H b ys ∧ xs.length + ys.length ≤ sizeLine ∧
  (xs = [] → Q (.ref b) H) ∧ (xs ≠ [] → ys = [] → Q (.ref a) H) ∧ (xs ≠ [] → ys ≠ [] → ∀ (p : Addr) (o : Obj), H p = none → o.dict = none → Q (.ref p) (upd H p (.frz o (.tup (xs ++ ys)))))
theorem op_catF : OpR X (binaryOp .Add) (rCatF X.K) := fun pins s σ H x y v u Q I rx ry h => by
  obtain ⟨a, b, xs, ys, rfl, rfl, ha, hb, hz, q0, q1, q2⟩ := h
  cases rx
  cases ry
  obtain ⟨its, r1, p1, _⟩ := I.tuple ha.sq
  obtain ⟨its2, r2, p2, _⟩ := I.tuple hb.sq
  by_cases hx : xs = []
  · have e : its = [] := r1.nil_iff.mpr hx
    subst e
    exact cat_tup0 p1 p2 ⟨.ref b, H, I, rfl, q0 hx⟩
  · refine HT.cat_tup p1 p2 (fun z => hx (r1.nil_iff.mp z)) (fun z => ⟨.ref a, H, I, rfl, q1 hx (r2.nil_iff.mp z)⟩) (fun z => ?_) (by rw [← r1.length, ← r2.length]; exact hz)
    exact laid_tup I (r1.append r2) (by rw [List.length_append]; exact hz) (q2 hx fun w => z (r2.nil_iff.mpr w))
/-- t[lo:hi] -/
def rSlF (K : PySem.W.Frag) : V → Option Int → Option Int → Hp → VK → Prop := fun x lo hi H Q => ∃ a xs, x = .ref a ∧ TupN K H a xs ∧
  (HT.sIx xs.length 0 lo = 0 ∧ HT.sIx xs.length xs.length hi = xs.length → Q (.ref a) H) ∧
  (¬ (HT.sIx xs.length 0 lo = 0 ∧ HT.sIx xs.length xs.length hi = xs.length) → ∀ (p : Addr) (o : Obj), H p = none → o.dict = none → Q (.ref p) (upd H p (.frz o (.tup (cutV xs lo hi)))))
theorem sl_tupF : SlR X (rSlF X.K) := fun pins s σ H x v vl vu lo hi sl Q I rx hs pl pu h => by
  obtain ⟨a, xs, rfl, hx, q1, q2⟩ := h
  cases rx
  obtain ⟨its, r, ht, hz⟩ := I.tuple hx.sq
  have hlen : its.toArray.size = xs.length := by rw [List.size_toArray]; exact r.length.symm
  refine ⟨"tuple", _, PyProof.Rows.slot_tuple_getitem.lookup, ht.typeIs, ?_⟩
  by_cases hw : HT.sIx xs.length 0 lo = 0 ∧ HT.sIx xs.length xs.length hi = xs.length
  · exact getItem_tuple_whole ht hs pl pu (by rw [hlen]; exact hw) ⟨.ref a, H, I, rfl, q1 hw⟩
  · refine HT.getItem_tuple_cut ht hs pl pu (by rw [hlen]; exact hw) ?_ (by rw [hlen]; exact hz)
    rw [hlen]
    have rr : Vals (cutV xs lo hi) ((its.drop (HT.sIx xs.length 0 lo)).take (HT.sIx xs.length xs.length hi - HT.sIx xs.length 0 lo)) := Vals.take _ (Vals.drop _ r)
    exact laid_tup I rr (Nat.le_trans (cutV_length _ _ _) hz) (q2 hw)
/-- tuple(xs) -/
theorem call_tupleF : CallR X (.type "tuple") (fun xs H Q => ∃ p ys, xs = [.ref p] ∧ ((SqL X.K H p ys ∧ ∀ (l : Addr) (o : Obj), H l = none → o.dict = none → Q (.ref l) (upd H l (.frz o (.tup ys)))) ∨ (TupN X.K H p ys ∧ Q (.ref p) H))) := fun pins s σ H xs us Q I r h => by
  obtain ⟨p, ys, rfl, h⟩ := h
  obtain ⟨u, rfl, rx⟩ := vals1 r
  cases rx
  rcases h with ⟨hq, q⟩ | ⟨hq, q⟩
  · obtain ⟨its, r', pl, hz⟩ := I.list hq
    have hlen := r'.length
    refine call_tuple_list pl.isList (fun h' kp => ?_) (by simp only [List.size_toArray] <;> omega)
    exact laid_tup (I.kept (t' := s.toks) kp) r' hz q
  · obtain ⟨its, r', pl, hz⟩ := I.tuple hq.sq
    exact call_tuple_same pl ⟨.ref p, H, I, rfl, q⟩
end
/-! ### t * n -/
theorem tuple_mul1 (l : Addr) (items : Array Value) (n : Nat) (dd : Option Addr) (sl : Array (Option Value)) (x : Int) (u : Tok) (c0 : (decide (x < -(2 ^ 63)) || decide (x ≥ 2 ^ 63)) = false) (c1 : (items.isEmpty || x == 1) = true) :
    Meets (Builtin.«tuple.__mul__» ⟨[.ref l, .int x u], []⟩) (fun _ R s => s.heap.get? l = some { cls := .type "tuple", dict := dd, data := .seq items n, slots := sl } ∧ R (.ok (.ret (Value.ref l))) s) :=
  .of_wp fun prog w A R s h => by
    obtain ⟨hp, g, d, tk, os⟩ := s
    obtain ⟨hl, h⟩ := h
    have f1 := AutoSeq1.idx_int
    wp_walk using wpAny_loadPart' hl
    repeat (first
      | (refine wpAny_ite_false (decide_eq_false (by rw [c0]; exact Bool.false_ne_true)) ?_; wp_walk using wpAny_loadPart' hl)
      | (refine wpAny_ite_true (decide_eq_true c1) ?_; wp_walk using wpAny_loadPart' hl))
    exact ⟨_, rfl, h⟩
theorem tuple_mul0 (l : Addr) (items : Array Value) (n : Nat) (dd : Option Addr) (sl : Array (Option Value)) (x : Int) (u : Tok) (c0 : (decide (x < -(2 ^ 63)) || decide (x ≥ 2 ^ 63)) = false) (c1 : (items.isEmpty || x == 1) = false) (c2 : (decide (x ≤ 0) || items.isEmpty) = true) :
    Meets (Builtin.«tuple.__mul__» ⟨[.ref l, .int x u], []⟩) (fun _ R s => s.heap.get? l = some { cls := .type "tuple", dict := dd, data := .seq items n, slots := sl } ∧
      R (.ok (.ret (Value.ref s.heap.objs.size))) { s with heap := s.heap.push { cls := Value.type "tuple", data := Data.seq #[] }, toks := s.toks }) :=
  .of_wp fun prog w A R s h => by
    obtain ⟨hp, g, d, tk, os⟩ := s
    obtain ⟨hl, h⟩ := h
    have f1 := AutoSeq1.idx_int
    wp_walk using wpAny_loadPart' hl
    repeat (first
      | (refine wpAny_ite_false (decide_eq_false (by rw [c0]; exact Bool.false_ne_true)) ?_; wp_walk using wpAny_loadPart' hl)
      | (refine wpAny_ite_false (decide_eq_false (by rw [c1]; exact Bool.false_ne_true)) ?_; wp_walk using wpAny_loadPart' hl)
      | (refine wpAny_ite_true (decide_eq_true c2) ?_; wp_walk using wpAny_loadPart' hl)
      | (refine wpAny_ite_false (decide_eq_false (by show ¬ (0 > sizeLine); decide)) ?_; wp_walk using wpAny_loadPart' hl))
    exact ⟨_, rfl, h⟩
def rRepF (K : PySem.W.Frag) : R2 := fun x y H Q => ∃ l k xs, x = .ref l ∧ y = .int k ∧ TupN K H l xs ∧ -1000 ≤ k ∧ k ≤ 1000 ∧ xs.length ≤ 1000 ∧ ((List.replicate k.toNat xs).flatten = xs → Q (.ref l) H) ∧
  ∀ (p : Addr) (o : Obj), H p = none → o.dict = none → Q (.ref p) (upd H p (.frz o (.tup (List.replicate k.toNat xs).flatten)))
theorem rep_one {α : Type} (xs : List α) : (List.replicate 1 xs).flatten = xs := by simp
theorem rep_run {prog : Program} {w : World} {A : Around} {E : Value → Shared → Prop} {s : Shared} {l : Addr} {items : Array Value} {n : Nat} {dd : Option Addr} {sl : Array (Option Value)} {k : Int} {t : Tok} {Q : Value → Shared → Prop} {Sp : PySem.Spec}
    (ho : s.heap.get? l = some { cls := .type "tuple", dict := dd, data := .seq items n, slots := sl }) (m : Meets (Builtin.«tuple.__mul__» ⟨[.ref l, .int k t], []⟩) Sp)
    (h : Sp A (wants Q E) s) : wpAny (model prog w) A (binaryOp .Mult (.ref l) (.int k t)) Q E s := by
  have two : wpAny (model prog w) A (call (.builtin "tuple.__mul__") [.ref l, .int k t]) Q E s :=
    call_meets F.slot_tuple_mul ⟨_, ho, rfl⟩ F.entry_tuple_mul (F.args_tuple_mul_2 _ _) m h
  have one := call_meets (A := A) (s := s) (E := E) (Q := fun v s' => v = .notImplemented ∧ s'.TypeIs (.ref l) "tuple" ∧ wpAny (model prog w) A (call (.builtin "tuple.__mul__") [.ref l, .int k t]) Q E s') (prog := prog) (w := w)
    F.slot_int_rmul (typeIs_int s k t) F.entry_int_rmul (F.args_int_rmul_2 _ _) (int_rmul_tuple k t l items n dd sl) ⟨ho, rfl, ⟨_, ho, rfl⟩, two⟩
  exact wpAny_binaryOp_repeat_ref (U := "int") (by decide) ⟨_, ho, rfl⟩ (fun s' => typeIs_int s' k t) noFill_tuple_mul
    F.fills_int_mul F.slot_int_rmul repeat_tuple F.slot_int_index.lookup one
theorem op_repF {X : Cx} : OpR X (binaryOp .Mult) (rRepF X.K) := fun pins s σ H x y v u Q I rx ry h => by
  obtain ⟨l, k, xs, rfl, rfl, hT, h1, h2, hz, qs, q⟩ := h
  cases rx
  obtain ⟨t, rfl⟩ := ry
  obtain ⟨its, r, ⟨⟨cls, dd, data, sl⟩, ho, hc, n, hd⟩, hs⟩ := I.tuple hT.sq
  simp only at hc hd
  subst hc hd
  have hle : its.length = xs.length := r.length.symm
  have c0 : (decide (k < -(2 ^ 63)) || decide (k ≥ 2 ^ 63)) = false := by
    rw [decide_eq_false (by omega), decide_eq_false (by omega)] <;> rfl
  cases hb : (its.toArray.isEmpty || k == 1) with
  | true =>
    refine rep_run ho (tuple_mul1 l its.toArray n dd sl k t c0 hb) ⟨ho, ?_⟩
    refine ⟨.ref l, H, I, rfl, qs ?_⟩
    rcases Bool.or_eq_true_iff.mp hb with e | e
    · have e1 : its = [] := by simpa using e
      have e2 : xs = [] := r.nil_iff.mp e1
      subst e2
      simp
    · rw [beq_iff_eq.mp e]
      exact rep_one xs
  | false =>
    obtain ⟨hi, hk⟩ := Bool.or_eq_false_iff.mp hb
    have hk1 : k ≠ 1 := beq_eq_false_iff_ne.mp hk
    by_cases hk0 : k ≤ 0
    · have c2 : (decide (k ≤ 0) || its.toArray.isEmpty) = true := by rw [decide_eq_true hk0]; rfl
      refine rep_run ho (tuple_mul0 l its.toArray n dd sl k t c0 hb c2) ⟨ho, ?_⟩
      have e0 : k.toNat = 0 := by omega
      have q' : ∀ (p : Addr) (o : Obj), H p = none → o.dict = none → Q (.ref p) (upd H p (.frz o (.tup []))) := fun p o hp hd => by
        have := q p o hp hd
        rw [e0] at this
        simpa using this
      exact laid_tup I (us := []) (xs := []) .nil (Nat.zero_le _) q'
    · have hsz0 : its.toArray.size = xs.length := by rw [List.size_toArray, hle]
      have hm : ((its.toArray.size : Nat) : Int) * k ≤ 1000000 := by
        rw [hsz0]
        have a1 : ((xs.length : Nat) : Int) * k ≤ 1000 * k := Int.mul_le_mul_of_nonneg_right (by omega) (by omega)
        omega
      have flen : (List.replicate k.toNat its).flatten.length ≤ sizeLine := by
        rw [PyProof.Rows.lm_len_rep_flat, hle, sizeLine_eq]
        have a1 : k.toNat * xs.length ≤ 1000 * 1000 := Nat.mul_le_mul (by omega) hz
        omega
      have c2 : (decide (k ≤ 0) || its.toArray.isEmpty) = false := by
        rw [hi, Bool.or_false]
        exact decide_eq_false hk0
      have c4 : Builtin.Tuple.tupleTooMany (((its.toArray.size : Nat) : Int) * k) = false := by
        unfold Builtin.Tuple.tupleTooMany
        rw [sizeLine_eq]
        exact decide_eq_false (by omega)
      refine rep_run ho (tuple_mulW l its.toArray n dd sl k t c0 hb c2 (by omega) c4 (by rw [size_rep, List.size_toArray]; exact flen)) ⟨ho, ?_⟩
      rw [size_rep]
      refine laid_tup I (r.rep k.toNat) ?_ q
      rw [PyProof.Rows.lm_len_rep_flat, sizeLine_eq]
      have a1 : k.toNat * xs.length ≤ 1000 * 1000 := Nat.mul_le_mul (by omega) hz
      omega
end Mi
set_option Elab.async false
set_option linter.all false
set_option maxRecDepth 100000
set_option maxHeartbeats 1000000
namespace Mi
open PySem L2

abbrev Ev := List (Option D)
/-- the slot is not that of the exception at hand -/
def Nm.off (N : Nm) (i : Nat) : Prop := ∀ z, N.z = some z → z.slot ≠ i
structure ERel (N : Nm) (K : PySem.W.Frag) (ρ : List Addr) (H : Hp) (η : Ev) (σ : St) : Prop where
  len : σ.length = η.length
  val : ∀ (i : Nat) (d : D), η[i]? = some (some d) → ∃ v, σ[i]? = some (some v) ∧ Rep K ρ H d v
  zs : ∀ z, N.z = some z → σ[z.slot]? = some (some (.ref z.a))
section
variable {N : Nm} {K : PySem.W.Frag} {ρ ρ' : List Addr} {H H' : Hp} {η : Ev} {σ : St}
theorem ERel.ext (x : Ext ρ H ρ' H') (h : ERel N K ρ H η σ) : ERel N K ρ' H' η σ :=
  ⟨h.len, fun i d e => by
    obtain ⟨v, h1, h2⟩ := h.val i d e
    exact ⟨v, h1, Rep.ext x d v h2⟩, h.zs⟩
theorem ERel.set (h : ERel N K ρ H η σ) {i : Nat} {d : D} {v : V} (hz : N.off i) (r : Rep K ρ H d v) : ERel N K ρ H (η.set i (some d)) (σ.set i (some v)) :=
  ⟨by simp [h.len], fun j e q => by
    by_cases hj : i = j
    · subst hj
      by_cases hl : i < η.length
      · rw [List.getElem?_set_self hl] at q
        have q' : d = e := Option.some.inj (Option.some.inj q)
        subst q'
        exact ⟨v, List.getElem?_set_self (by rw [h.len]; exact hl), r⟩
      · rw [List.getElem?_eq_none (by simpa using hl)] at q; cases q
    · rw [List.getElem?_set_ne hj] at q
      rw [List.getElem?_set_ne hj]
      exact h.val j e q, fun z e => by rw [List.getElem?_set_ne (Ne.symm (hz z e))]; exact h.zs z e⟩
theorem ERel.unset (h : ERel N K ρ H η σ) {i : Nat} {o : Option V} (hz : N.off i) : ERel N K ρ H (η.set i none) (σ.set i o) :=
  ⟨by simp [h.len], fun j e q => by
    by_cases hj : i = j
    · subst hj
      by_cases hl : i < η.length
      · rw [List.getElem?_set_self hl] at q; cases q
      · rw [List.getElem?_eq_none (by simpa using hl)] at q; cases q
    · rw [List.getElem?_set_ne hj] at q
      rw [List.getElem?_set_ne hj]
      exact h.val j e q, fun z e => by rw [List.getElem?_set_ne (Ne.symm (hz z e))]; exact h.zs z e⟩
end
abbrev XW := Value → Option Addr → Hp → Prop
section
variable (N : Nm) (K : PySem.W.Frag)
def Post {α : Type} (ρ : List Addr) (H : Hp) (r : R α) (k : α → List Addr → Hp → Prop) (W : XW) : Prop :=
  match r with
  | .ok a st => ∀ ρ' H', Ext ρ H ρ' H' → Rel N K ρ' H' st → k a ρ' H'
  | .ex c fs st => ∀ ρ' H' dx, Ext ρ H ρ' H' → Rel N K ρ' H' st → XD N K ρ' H' fs dx → W (.ref (N.cl K c)) dx H'
  | .bad => False
def kD (Q : VK) : D → List Addr → Hp → Prop := fun d ρ' H' => ∀ v, Rep K ρ' H' d v → Q v H'
def kDs (Q : List V → Hp → Prop) : List D → List Addr → Hp → Prop := fun d ρ' H' => ∀ v, Reps K ρ' H' d v → Q v H'
def kB (Q : Bool → Hp → Prop) : Bool → List Addr → Hp → Prop := fun b _ H' => Q b H'
end
section
variable {N : Nm} {K : PySem.W.Frag} {ρ ρ1 : List Addr} {H H1 : Hp} {α β : Type} {W : XW}
theorem Post.ext {r : R α} {k : α → List Addr → Hp → Prop} (x : Ext ρ H ρ1 H1) (h : Post N K ρ H r k W) : Post N K ρ1 H1 r k W := by
  cases r with
  | ok a st => exact fun ρ' H' e r => h ρ' H' (x.trans e) r
  | ex c fs st => exact fun ρ' H' dx e r => h ρ' H' dx (x.trans e) r
  | bad => exact h
theorem Post.imp {r : R α} {k k' : α → List Addr → Hp → Prop} {W' : XW} (h : Post N K ρ H r k W) (hk : ∀ a ρ' H', Ext ρ H ρ' H' → k a ρ' H' → k' a ρ' H') (hW : ∀ c d H', W c d H' → W' c d H') : Post N K ρ H r k' W' := by
  cases r with
  | ok a st => exact fun ρ' H' e r => hk _ _ _ e (h ρ' H' e r)
  | ex c fs st => exact fun ρ' H' dx e r q => hW _ _ _ (h ρ' H' dx e r q)
  | bad => exact h
theorem Post.bind {r : R α} {f : α → S → R β} {k : β → List Addr → Hp → Prop} {k1 : α → List Addr → Hp → Prop} (h : Post N K ρ H (r.bind f) k W)
    (hk : ∀ a st ρ1 H1, Ext ρ H ρ1 H1 → Rel N K ρ1 H1 st → Post N K ρ1 H1 (f a st) k W → k1 a ρ1 H1) : Post N K ρ H r k1 W := by
  cases r with
  | ok a st => exact fun ρ' H' e r => hk a st ρ' H' e r (Post.ext e h)
  | ex c fs st => exact h
  | bad => exact h
theorem Post.ok {a : α} {st : S} {k : α → List Addr → Hp → Prop} (h : Post N K ρ H (.ok a st) k W) (r : Rel N K ρ H st) : k a ρ H := h ρ H (Ext.refl _ _) r
end
/-! ## judgements -/
def tOf (N : Nm) (W : WX) (K : PySem.W.Frag) (f : Ev → M D) : TE := fun σ H Q => ∃ η st ρ, ERel N K ρ H η σ ∧ Rel N K ρ H st ∧ Post N K ρ H (f η st) (kD K Q) (fun c d H' => W c d σ H')
def tOfB (N : Nm) (W : WX) (K : PySem.W.Frag) (f : Ev → M Bool) : TT := fun σ H Q => ∃ η st ρ, ERel N K ρ H η σ ∧ Rel N K ρ H st ∧ Post N K ρ H (f η st) (kB Q) (fun c d H' => W c d σ H')
def tOfA (N : Nm) (W : WX) (K : PySem.W.Frag) (f : Ev → M (List D)) : TA := fun σ H Q => ∃ η st ρ, ERel N K ρ H η σ ∧ Rel N K ρ H st ∧ Post N K ρ H (f η st) (kDs K Q) (fun c d H' => W c d σ H')
abbrev SE (N : Nm) (W : WX) (X : Cx) (e : Expr) (f : Ev → M D) : Prop := PE X e (tOf N W X.K f)
abbrev SB (N : Nm) (W : WX) (X : Cx) (e : Expr) (f : Ev → M Bool) : Prop := PT X e (tOfB N W X.K f)
abbrev SA (N : Nm) (W : WX) (X : Cx) (es : List Expr) (f : Ev → M (List D)) : Prop := PA X es (tOfA N W X.K f)
theorem PE.imp {X : Cx} {e : Expr} {t t' : TE} (h : PE X e t) (hi : ∀ σ H Q, t' σ H Q → t σ H Q) : PE X e t' := ⟨fun pins s σ H Q I q => h.run pins s σ H Q I (hi σ H Q q)⟩
theorem PT.imp {X : Cx} {e : Expr} {t t' : TT} (h : PT X e t) (hi : ∀ σ H Q, t' σ H Q → t σ H Q) : PT X e t' := ⟨fun pins s σ H Q I q => h.run pins s σ H Q I (hi σ H Q q)⟩
theorem PA.imp {X : Cx} {e : List Expr} {t t' : TA} (h : PA X e t) (hi : ∀ σ H Q, t' σ H Q → t σ H Q) : PA X e t' := ⟨fun pos pins s σ H Q I q => h.run pos pins s σ H Q I (hi σ H Q q)⟩
theorem PSs.imp {X : Cx} {e : List Stmt} {t t' : TS} (h : PSs X e t) (hi : ∀ D σ H, t' D σ H → t D σ H) : PSs X e t' := ⟨fun pins s σ H D I q => h.run pins s σ H D I (hi D σ H q)⟩
theorem PS.imp {X : Cx} {e : Stmt} {t t' : TS} (h : PS X e t) (hi : ∀ D σ H, t' D σ H → t D σ H) : PS X e t' := ⟨fun pins s σ H D I q => h.run pins s σ H D I (hi D σ H q)⟩

/-! ## names and constants -/
def cE (d : D) : Ev → M D := fun _ st => .ok d st
def vE (i : Nat) : Ev → M D := fun η st => match η[i]? with
  | some (some d) => .ok d st
  | _ => .bad
section
variable {N : Nm} {W : WX} {X : Cx} {pos : Pos}
theorem se_const {e : Expr} {v : V} {d : D} (h : PE X e (tC v)) (r : ∀ ρ H, Rep X.K ρ H d v) : SE N W X e (cE d) := PE.imp h fun σ H Q ⟨η, st, ρ, hE, hR, hP⟩ => hP.ok hR v (r ρ H)
theorem se_int {i j} : SE N W X (.Constant (.int i) j pos) (cE (.int i)) := se_const pe_int fun _ _ => rfl
theorem se_bl {i j} : SE N W X (.Constant (.bool i) j pos) (cE (.bl i)) := se_const pe_bl fun _ _ => rfl
theorem se_non {j} : SE N W X (.Constant .none j pos) (cE .non) := se_const pe_non fun _ _ => rfl
theorem se_str {i j} : SE N W X (.Constant (.str i) j pos) (cE (.str i)) := se_const pe_str fun _ _ => rfl
/-- a global constant -/
theorem se_glob {x : Str} {d : D} {v : V} {u : Value} (hg : Gl X x) (hm : X.mg x = some u) (r : RelV v u) (hr : ∀ ρ H, Rep X.K ρ H d v) (hd : (x == ("__debug__" : Str)) = false := by decide) : SE N W X (.Name x pos) (cE d) := se_const (pe_glob hg hm r hd) hr
theorem se_var (i : Nat) {x : Str} (hN : X.N[i]? = some x := by rfl) (hv : Vis X.env.scope x := by first | exact Or.inl rfl | exact Or.inr (Or.inl rfl) | exact Or.inr (Or.inr rfl)) (hd : (x == ("__debug__" : Str)) = false := by decide)
    (hcd : (x == ("__classdict__" : Str)) = false := by decide) : SE N W X (.Name x pos) (vE i) := PE.imp (pe_var hN hv hd hcd) fun σ H Q ⟨η, st, ρ, hE, hR, hP⟩ => by
  unfold vE at hP
  split at hP
  · rename_i d e
    obtain ⟨v, h1, h2⟩ := hE.2 i d e
    exact ⟨v, h1, hP.ok hR v h2⟩
  · exact hP.elim
end
/-! ## two-place operations -/
def binE (g : D → D → M D) (a b : Ev → M D) : Ev → M D := fun η st => (a η st).bind fun d s1 => (b η s1).bind fun e s2 => g d e s2
/-- what the operation on values asks of the operation here -/
def OpS (N : Nm) (K : PySem.W.Frag) (g : D → D → M D) (r : R2) : Prop :=
  ∀ (ρ : List Addr) (H : Hp) (st : S) (d e : D) (x y : V) (Q : VK) (W : XW), Rel N K ρ H st → Rep K ρ H d x → Rep K ρ H e y → Post N K ρ H (g d e st) (kD K Q) W → r x y H Q
section
variable {N : Nm} {W : WX} {X : Cx} {pos : Pos} {a b c : Expr} {fa fb fc : Ev → M D} {g g' : D → D → M D} {r r' : R2}
theorem tOp_of (hg : OpS N X.K g r) {σ : St} {H : Hp} {Q : VK} (h : tOf N W X.K (binE g fa fb) σ H Q) : tOp r (tOf N W X.K fa) (tOf N W X.K fb) σ H Q := by
  obtain ⟨η, st, ρ, hE, hR, hP⟩ := h
  refine ⟨η, st, ρ, hE, hR, Post.bind hP fun d s1 ρ1 H1 e1 r1 p1 x rx => ?_⟩
  refine ⟨η, s1, ρ1, hE.ext e1, r1, Post.bind p1 fun e s2 ρ2 H2 e2 r2 p2 y ry => ?_⟩
  exact hg ρ2 H2 s2 d e x y Q _ r2 (Rep.ext e2 d x rx) ry p2
theorem se_op {op : Operator} (ho : OpR X (binaryOp op) r) (hg : OpS N X.K g r) (ha : SE N W X a fa) (hb : SE N W X b fb) : SE N W X (.BinOp a op b pos) (binE g fa fb) :=
  PE.imp (pe_op ho ha hb) fun _ _ _ => tOp_of hg
theorem se_cmp {op : CmpOp} (ho : OpR X (compareOp op) r) (hg : OpS N X.K g r) (ha : SE N W X a fa) (hb : SE N W X b fb) (hm : behindInMarks op b = false) : SE N W X (.Compare a [op] [b] pos) (binE g fa fb) :=
  PE.imp (pe_cmpR ho ha hb hm) fun _ _ _ => tOp_of hg
end
def toB : D → M Bool
  | .bl b, s => .ok b s
  | _, _ => .bad
/-- an expression whose value is a bool, as a test -/
def tstE (f : Ev → M D) : Ev → M Bool := fun η st => (f η st).bind toB
theorem toB_post {N : Nm} {K : PySem.W.Frag} {ρ : List Addr} {H : Hp} {d : D} {st : S} {k : Bool → List Addr → Hp → Prop} {W : XW} (h : Post N K ρ H (toB d st) k W) (r : Rel N K ρ H st) {v : V} (rv : Rep K ρ H d v) : ∃ b, v = .bl b ∧ k b ρ H := by
  cases d with
  | bl b => exact ⟨b, rv, h.ok r⟩
  | _ => exact h.elim
section
variable {N : Nm} {W : WX} {X : Cx} {pos : Pos} {a b c : Expr} {fa fb fc : Ev → M D} {g g' : D → D → M D} {r r' : R2}
theorem sb_val (ha : SE N W X a fa) (he : ∀ whole, isTrue a X.env whole = (do let v ← whole; standAt a.pos; holding [v] (truthy v)) := by intro _; rfl) : SB N W X a (tstE fa) :=
  PT.imp (pt_val ha he) fun σ H Q ⟨η, st, ρ, hE, hR, hP⟩ => ⟨η, st, ρ, hE, hR, Post.bind hP fun d s1 ρ1 H1 e1 r1 p1 v rv => toB_post p1 r1 rv⟩
theorem sb_cmp {op : CmpOp} (ho : OpR X (compareOp op) r) (hg : OpS N X.K g r) (ha : SE N W X a fa) (hb : SE N W X b fb) (hm : behindInMarks op b = false) : SB N W X (.Compare a [op] [b] pos) (tstE (binE g fa fb)) :=
  PT.imp (pt_cmpR ho ha hb hm) fun σ H Q ⟨η, st, ρ, hE, hR, hP⟩ => tOp_of hg ⟨η, st, ρ, hE, hR, Post.bind hP fun d s1 ρ1 H1 e1 r1 p1 v rv => by
    obtain ⟨b, e, q⟩ := toB_post p1 r1 rv
    exact ⟨b, e, q⟩⟩
/-- a < b < c -/
def chE (g g' : D → D → M D) (a b c : Ev → M D) : Ev → M D := fun η st => (a η st).bind fun d s1 => (b η s1).bind fun e s2 => (g d e s2).bind fun z s3 => (toB z s3).bind fun k s4 => if k = true then (c η s4).bind fun f s5 => g' e f s5 else .ok (.bl false) s4
theorem tChain_of (hg : OpS N X.K g r) (hg' : OpS N X.K g' r') {σ : St} {H : Hp} {Q : VK} (h : tOf N W X.K (chE g g' fa fb fc) σ H Q) : tChain r r' (tOf N W X.K fa) (tOf N W X.K fb) (tOf N W X.K fc) σ H Q := by
  obtain ⟨η, st, ρ, hE, hR, hP⟩ := h
  refine ⟨η, st, ρ, hE, hR, Post.bind hP fun d s1 ρ1 H1 e1 r1 p1 x rx => ?_⟩
  refine ⟨η, s1, ρ1, hE.ext e1, r1, Post.bind p1 fun e s2 ρ2 H2 e2 r2 p2 y ry => ?_⟩
  refine hg ρ2 H2 s2 d e x y _ (fun c d H' => W c d σ H') r2 (Rep.ext e2 d x rx) ry (Post.bind p2 fun z s3 ρ3 H3 e3 r3 p3 zv rz => ?_)
  cases z with
  | bl k =>
    refine ⟨k, rz, ?_⟩
    have p4 : Post N X.K ρ3 H3 (if k = true then (fc η s3).bind fun f s5 => g' e f s5 else .ok (.bl false) s3) (kD X.K Q) (fun c d H' => W c d σ H') := p3
    cases k with
    | true => exact ⟨η, s3, ρ3, (hE.ext e1).ext (e2.trans e3), r3, Post.bind p4 fun f s5 ρ5 H5 e5 r5 p5 w rw' => hg' ρ5 H5 s5 e f y w Q _ r5 (Rep.ext (e3.trans e5) e y ry) rw' p5⟩
    | false => exact p4.ok r3 _ rfl
  | _ => exact p3.elim
theorem se_chain {op op' : CmpOp} (ho : OpR X (compareOp op) r) (ho' : OpR X (compareOp op') r') (hg : OpS N X.K g r) (hg' : OpS N X.K g' r') (ha : SE N W X a fa) (hb : SE N W X b fb) (hc : SE N W X c fc)
    (h : PE X (.Compare a [op, op'] [b, c] pos) (tChain r r' (tOf N W X.K fa) (tOf N W X.K fb) (tOf N W X.K fc))) : SE N W X (.Compare a [op, op'] [b, c] pos) (chE g g' fa fb fc) :=
  PE.imp h fun _ _ _ => tChain_of hg hg'
/-! ## and, or, not, if -/
variable {ba bb : Ev → M Bool} {rest : List Expr}
def andB (a b : Ev → M Bool) : Ev → M Bool := fun η st => (a η st).bind fun k s1 => if k = true then b η s1 else .ok false s1
def orB (a b : Ev → M Bool) : Ev → M Bool := fun η st => (a η st).bind fun k s1 => if k = true then .ok true s1 else b η s1
def notB (a : Ev → M Bool) : Ev → M Bool := fun η st => (a η st).bind fun k s1 => .ok (!k) s1
abbrev SW (N : Nm) (W : WX) (X : Cx) (e : Expr) (f : Ev → M Bool) : Prop := PW X e (tOfB N W X.K f)
theorem PW.imp {X : Cx} {e : Expr} {t t' : TT} (h : PW X e t) (hi : ∀ σ H Q, t' σ H Q → t σ H Q) : PW X e t' := ⟨fun wh pins s σ H Q I q => h.run wh pins s σ H Q I (hi σ H Q q)⟩
theorem sw_and (ha : SB N W X a ba) (hb : SW N W X (.BoolOp .And (b :: rest) pos) bb) : SW N W X (.BoolOp .And (a :: b :: rest) pos) (andB ba bb) :=
  PW.imp (pw_and ha hb) fun σ H Q ⟨η, st, ρ, hE, hR, hP⟩ => ⟨η, st, ρ, hE, hR, Post.bind hP fun k s1 ρ1 H1 e1 r1 p1 => by
    cases k with
    | true => exact ⟨η, s1, ρ1, hE.ext e1, r1, p1⟩
    | false => exact p1.ok r1⟩
theorem sw_or (ha : SB N W X a ba) (hb : SW N W X (.BoolOp .Or (b :: rest) pos) bb) : SW N W X (.BoolOp .Or (a :: b :: rest) pos) (orB ba bb) :=
  PW.imp (pw_or ha hb) fun σ H Q ⟨η, st, ρ, hE, hR, hP⟩ => ⟨η, st, ρ, hE, hR, Post.bind hP fun k s1 ρ1 H1 e1 r1 p1 => by
    cases k with
    | true => exact p1.ok r1
    | false => exact ⟨η, s1, ρ1, hE.ext e1, r1, p1⟩⟩
theorem sw_and1 (ha : SB N W X a ba) : SW N W X (.BoolOp .And [a] pos) ba := pw_and1 ha
theorem sw_or1 (ha : SB N W X a ba) : SW N W X (.BoolOp .Or [a] pos) ba := pw_or1 ha
theorem sb_w (h : SW N W X a ba) : SB N W X a ba := PW.pt h
theorem sb_not (ha : SB N W X a ba) : SB N W X (.UnaryOp .Not a pos) (notB ba) :=
  PT.imp (pt_not ha) fun σ H Q ⟨η, st, ρ, hE, hR, hP⟩ => ⟨η, st, ρ, hE, hR, Post.bind hP fun k s1 ρ1 H1 e1 r1 p1 => p1.ok r1⟩
def andV (a b : Ev → M D) : Ev → M D := fun η st => (a η st).bind fun d s1 => (toB d s1).bind fun k s2 => if k = true then b η s2 else .ok (.bl false) s2
def orV (a b : Ev → M D) : Ev → M D := fun η st => (a η st).bind fun d s1 => (toB d s1).bind fun k s2 => if k = true then .ok (.bl true) s2 else b η s2
def notV (a : Ev → M D) : Ev → M D := fun η st => (a η st).bind fun d s1 => (toB d s1).bind fun k s2 => .ok (.bl (!k)) s2
theorem se_one {op} (h : SE N W X a fa) : SE N W X (.BoolOp op [a] pos) fa := pe_one h
theorem se_and (ha : SE N W X a fa) (hb : SE N W X (.BoolOp .And (b :: rest) pos) fb) : SE N W X (.BoolOp .And (a :: b :: rest) pos) (andV fa fb) :=
  PE.imp (pe_and ha hb) fun σ H Q ⟨η, st, ρ, hE, hR, hP⟩ => ⟨η, st, ρ, hE, hR, Post.bind hP fun d s1 ρ1 H1 e1 r1 p1 v rv => by
    cases d with
    | bl k =>
      refine ⟨k, rv, ?_⟩
      cases k with
      | true => exact ⟨η, s1, ρ1, hE.ext e1, r1, p1⟩
      | false => exact Post.ok (a := D.bl false) (st := s1) p1 r1 _ rfl
    | _ => exact p1.elim⟩
theorem se_or (ha : SE N W X a fa) (hb : SE N W X (.BoolOp .Or (b :: rest) pos) fb) : SE N W X (.BoolOp .Or (a :: b :: rest) pos) (orV fa fb) :=
  PE.imp (pe_or ha hb) fun σ H Q ⟨η, st, ρ, hE, hR, hP⟩ => ⟨η, st, ρ, hE, hR, Post.bind hP fun d s1 ρ1 H1 e1 r1 p1 v rv => by
    cases d with
    | bl k =>
      refine ⟨k, rv, ?_⟩
      cases k with
      | true => exact Post.ok (a := D.bl true) (st := s1) p1 r1 _ rfl
      | false => exact ⟨η, s1, ρ1, hE.ext e1, r1, p1⟩
    | _ => exact p1.elim⟩
theorem se_not (ha : SE N W X a fa) : SE N W X (.UnaryOp .Not a pos) (notV fa) :=
  PE.imp (pe_not ha) fun σ H Q ⟨η, st, ρ, hE, hR, hP⟩ => ⟨η, st, ρ, hE, hR, Post.bind hP fun d s1 ρ1 H1 e1 r1 p1 v rv => by
    cases d with
    | bl k => exact ⟨k, rv, Post.ok (a := D.bl (!k)) (st := s1) p1 r1 _ rfl⟩
    | _ => exact p1.elim⟩
def ifE (c : Ev → M Bool) (a b : Ev → M D) : Ev → M D := fun η st => (c η st).bind fun k s1 => if k = true then a η s1 else b η s1
theorem se_if (hc : SB N W X c ba) (ha : SE N W X a fa) (hb : SE N W X b fb) : SE N W X (.IfExp c a b pos) (ifE ba fa fb) :=
  PE.imp (pe_ifExp hc ha hb) fun σ H Q ⟨η, st, ρ, hE, hR, hP⟩ => ⟨η, st, ρ, hE, hR, Post.bind hP fun k s1 ρ1 H1 e1 r1 p1 => by
    cases k with
    | true => exact ⟨η, s1, ρ1, hE.ext e1, r1, p1⟩
    | false => exact ⟨η, s1, ρ1, hE.ext e1, r1, p1⟩⟩
/-! ## arguments, displays -/
variable {fs : Ev → M (List D)} {es : List Expr} {e : Expr}
def nilA : Ev → M (List D) := fun _ st => .ok [] st
def consA (a : Ev → M D) (r : Ev → M (List D)) : Ev → M (List D) := fun η st => (a η st).bind fun d s1 => (r η s1).bind fun ds s2 => .ok (d :: ds) s2
theorem sa_nil : SA N W X [] nilA := PA.imp pa_nil fun σ H Q ⟨η, st, ρ, hE, hR, hP⟩ => hP.ok hR _ rfl
theorem sa_cons (ha : SE N W X e fa) (hr : SA N W X es fs) (hs : starEach (e :: es) X.env = (false, eval e X.env) :: starEach es X.env := by rfl) : SA N W X (e :: es) (consA fa fs) :=
  PA.imp (pa_cons ha hr hs) fun σ H Q ⟨η, st, ρ, hE, hR, hP⟩ => ⟨η, st, ρ, hE, hR, Post.bind hP fun d s1 ρ1 H1 e1 r1 p1 v rv =>
    ⟨η, s1, ρ1, hE.ext e1, r1, Post.bind p1 fun ds s2 ρ2 H2 e2 r2 p2 vs rs => p2.ok r2 _ ⟨v, vs, rfl, Rep.ext e2 d v rv, rs⟩⟩⟩
theorem Reps.length {K : PySem.W.Frag} {ρ : List Addr} {H : Hp} : ∀ {ds : List D} {vs : List V}, Reps K ρ H ds vs → vs.length = ds.length
  | [], _, h => by
    have h' : _ = [] := h
    subst h'; rfl
  | d :: ds, vs, h => by
    obtain ⟨v, r, e, _, h2⟩ := h
    subst e
    simp [Reps.length h2]
def tupE (a : Ev → M (List D)) : Ev → M D := fun η st => (a η st).bind fun ds s1 => if ds.length ≤ sizeLine then .ok (.tup ds) s1 else .bad
def lstE (a : Ev → M (List D)) : Ev → M D := fun η st => (a η st).bind fun ds s1 => if ds.length ≤ sizeLine then .ok (.ref s1.length) (s1 ++ [.lst ds]) else .bad
theorem Post.ite {N : Nm} {K : PySem.W.Frag} {ρ : List Addr} {H : Hp} {α : Type} {c : Prop} [Decidable c] {r : R α} {k : α → List Addr → Hp → Prop} {W : XW} (h : Post N K ρ H (if c then r else .bad) k W) : c ∧ Post N K ρ H r k W := by
  by_cases hc : c
  · rw [if_pos hc] at h; exact ⟨hc, h⟩
  · rw [if_neg hc] at h; exact h.elim
theorem Post.tup {N : Nm} {K : PySem.W.Frag} {ρ : List Addr} {H : Hp} {ds : List D} {vs : List V} {st : S} {Q : VK} {W : XW} {p : Addr} (h : Post N K ρ H (.ok (.tup ds) st) (kD K Q) W) (r : Rel N K ρ H st) (rs : Reps K ρ H ds vs) {o : Obj} (hp : H p = none) (ho : o.dict = none) : Q (.ref p) (upd H p (.frz o (.tup vs))) := by
  refine h ρ _ (Ext.fresh r hp) (r.fresh hp) (.ref p) ⟨p, vs, rfl, .inl ⟨o, upd_same, ho⟩, Reps.ext (Ext.fresh r hp) _ _ rs⟩
theorem get_last {ρ : List Addr} {p : Addr} {n : Nat} (h : ρ.length = n) : (ρ ++ [p])[n]? = some p := by subst h; simp
theorem Post.lst {N : Nm} {K : PySem.W.Frag} {ρ : List Addr} {H : Hp} {ds : List D} {vs : List V} {st : S} {Q : VK} {W : XW} {p : Addr} (h : Post N K ρ H (.ok (.ref st.length) (st ++ [.lst ds])) (kD K Q) W) (r : Rel N K ρ H st) (rs : Reps K ρ H ds vs) (hp : H p = none) : Q (.ref p) (upd H p (.lst vs)) := by
  have x := Ext.push (o := .lst vs) r hp
  exact h _ _ x (r.push hp ⟨vs, upd_same, Reps.ext x _ _ rs⟩) (.ref p) ⟨p, get_last r.len, rfl⟩
theorem se_tup {x1} (h : SA N W X es fs) : SE N W X (.Tuple es x1 pos) (tupE fs) :=
  PE.imp (pe_tupF h) fun σ H Q ⟨η, st, ρ, hE, hR, hP⟩ => ⟨η, st, ρ, hE, hR, Post.bind hP fun ds s1 ρ1 H1 e1 r1 p1 vs rs => by
    obtain ⟨hl, p2⟩ := p1.ite
    exact ⟨by rw [Reps.length rs]; exact hl, fun p o hp ho => p2.tup r1 rs hp ho⟩⟩
theorem se_lst (h : SA N W X es fs) : SE N W X (.List es pos) (lstE fs) :=
  PE.imp (pe_lst h) fun σ H Q ⟨η, st, ρ, hE, hR, hP⟩ => ⟨η, st, ρ, hE, hR, Post.bind hP fun ds s1 ρ1 H1 e1 r1 p1 vs rs => by
    obtain ⟨hl, p2⟩ := p1.ite
    exact ⟨by rw [Reps.length rs]; exact hl, fun p hp => p2.lst r1 rs hp⟩⟩
end
end Mi
set_option Elab.async false
set_option linter.all false
set_option maxRecDepth 100000
set_option maxHeartbeats 1000000
namespace Mi
open PySem L2

/-! ## facts on Reps -/
section
variable {K : PySem.W.Frag} {ρ : List Addr} {H : Hp}
theorem Reps.get : ∀ {ds : List D} {vs : List V} {i : Nat} {d : D}, Reps K ρ H ds vs → ds[i]? = some d → ∃ v, vs[i]? = some v ∧ Rep K ρ H d v
  | [], _, _, _, _, h => by simp at h
  | d :: ds, vs, 0, e, h, q => by
    obtain ⟨v, r, rfl, h1, h2⟩ := h
    simp at q; subst q
    exact ⟨v, rfl, h1⟩
  | d :: ds, vs, i + 1, e, h, q => by
    obtain ⟨v, r, rfl, h1, h2⟩ := h
    obtain ⟨v', a, b⟩ := Reps.get (i := i) h2 (by simpa using q)
    exact ⟨v', by simpa using a, b⟩
theorem Reps.atI {ds : List D} {vs : List V} {i : Int} {d : D} (h : Reps K ρ H ds vs) (q : L2.atI ds i = some d) : ∃ v, L2.atI vs i = some v ∧ Rep K ρ H d v := by
  unfold L2.atI at q ⊢
  rw [Reps.length h]
  cases e : ixN ds.length i with
  | none => rw [e] at q; cases q
  | some j =>
    rw [e] at q
    exact Reps.get h q
theorem Reps.append : ∀ {ds es : List D} {vs ws : List V}, Reps K ρ H ds vs → Reps K ρ H es ws → Reps K ρ H (ds ++ es) (vs ++ ws)
  | [], _, _, _, h, q => by
    have h' : _ = [] := h
    subst h'; exact q
  | d :: ds, es, vs, ws, h, q => by
    obtain ⟨v, r, rfl, h1, h2⟩ := h
    exact ⟨v, r ++ ws, rfl, h1, Reps.append h2 q⟩
theorem Reps.take : ∀ {ds : List D} {vs : List V} (n : Nat), Reps K ρ H ds vs → Reps K ρ H (ds.take n) (vs.take n)
  | _, _, 0, _ => by simp [Reps]
  | [], _, n + 1, h => by
    have h' : _ = [] := h
    subst h'; simp [Reps]
  | d :: ds, vs, n + 1, h => by
    obtain ⟨v, r, rfl, h1, h2⟩ := h
    exact ⟨v, r.take n, by simp, h1, Reps.take n h2⟩
theorem Reps.drop : ∀ {ds : List D} {vs : List V} (n : Nat), Reps K ρ H ds vs → Reps K ρ H (ds.drop n) (vs.drop n)
  | _, _, 0, h => by simpa using h
  | [], _, n + 1, h => by
    have h' : _ = [] := h
    subst h'; simp [Reps]
  | d :: ds, vs, n + 1, h => by
    obtain ⟨v, r, rfl, h1, h2⟩ := h
    simpa using Reps.drop n h2
theorem Reps.nil_iff {ds : List D} {vs : List V} (h : Reps K ρ H ds vs) : vs = [] ↔ ds = [] := by
  cases ds with
  | nil => simp [show vs = [] from h]
  | cons d ds => obtain ⟨v, r, rfl, _⟩ := h; simp
theorem Reps.set : ∀ {ds : List D} {vs : List V} (n : Nat) {d : D} {v : V}, Reps K ρ H ds vs → Rep K ρ H d v → Reps K ρ H (ds.set n d) (vs.set n v)
  | [], _, n, _, _, h, _ => by
    have h' : _ = [] := h
    subst h'; simp [Reps]
  | d :: ds, vs, 0, e, w, h, q => by
    obtain ⟨v, r, rfl, h1, h2⟩ := h
    exact ⟨w, r, rfl, q, h2⟩
  | d :: ds, vs, n + 1, e, w, h, q => by
    obtain ⟨v, r, rfl, h1, h2⟩ := h
    exact ⟨v, r.set n w, rfl, h1, Reps.set n h2 q⟩
theorem Reps.ints : ∀ (ns : List Int), Reps K ρ H (ns.map D.int) (ns.map V.int)
  | [] => rfl
  | n :: ns => ⟨_, _, rfl, rfl, Reps.ints ns⟩
theorem Reps.rep : ∀ (n : Nat) {ds : List D} {vs : List V}, Reps K ρ H ds vs → Reps K ρ H (List.replicate n ds).flatten (List.replicate n vs).flatten
  | 0, _, _, _ => by simp [Reps]
  | n + 1, ds, vs, h => by
    simp only [List.replicate_succ, List.flatten_cons]
    exact Reps.append h (Reps.rep n h)
end

/-! ## arithmetic -/
def addD : D → D → M D
  | .int i, .int j => fun s => .ok (.int (i + j)) s
  | .str x, .str y => fun s => if x.length + y.length ≤ sizeLine then .ok (.str (x ++ y)) s else .bad
  | .tup xs, .tup ys => fun s => if xs.length + ys.length ≤ sizeLine then .ok (.tup (xs ++ ys)) s else .bad
  | .ref i, .ref j => fun s => match s[i]?, s[j]? with
    | some (.lst xs), some (.lst ys) => if xs.length + ys.length ≤ sizeLine then .ok (.ref s.length) (s ++ [.lst (xs ++ ys)]) else .bad
    | _, _ => .bad
  | _, _ => fun _ => .bad
def subD : D → D → M D
  | .int i, .int j => fun s => .ok (.int (i - j)) s
  | _, _ => fun _ => .bad
def mulOk (i j : Int) : Bool := (decide (-18446744073709551616 < i) && decide (i < 18446744073709551616)) || (decide (-18446744073709551616 < j) && decide (j < 18446744073709551616))
def mulD : D → D → M D
  | .int i, .int j => fun s => if mulOk i j = true then .ok (.int (i * j)) s else .bad
  | .ref i, .int k => fun s => match s[i]? with
    | some (.lst xs) => if -9223372036854775808 ≤ k ∧ k < 9223372036854775808 ∧ xs.length * k.toNat ≤ sizeLine then .ok (.ref s.length) (s ++ [.lst (List.replicate k.toNat xs).flatten]) else .bad
    | _ => .bad
  | .tup xs, .int k => fun s => if -1000 ≤ k ∧ k ≤ 1000 ∧ xs.length ≤ 1000 then .ok (.tup (List.replicate k.toNat xs).flatten) s else .bad
  | _, _ => fun _ => .bad
def fdivD : D → D → M D
  | .int i, .int j => fun s => if 0 < j ∧ j < 1073741824 then .ok (.int (i / j)) s else .bad
  | _, _ => fun _ => .bad
def modD : D → D → M D
  | .int i, .int j => fun s => if 0 < j then .ok (.int (i % j)) s else .bad
  | _, _ => fun _ => .bad
def powD : D → D → M D
  | .int i, .int j => fun s => if 0 ≤ j ∧ j ≤ 1000 ∧ i.natAbs < 1000 then .ok (.int (i ^ j.toNat)) s else .bad
  | _, _ => fun _ => .bad
section
variable {N : Nm} {X : Cx}
abbrev rAddA (K : PySem.W.Frag) : R2 := fun x y H Q => rI0 (fun i j => .int (i + j)) x y H Q ∨ ((∃ i j, x = .str i ∧ y = .str j ∧ i.length + j.length ≤ sizeLine ∧ Q (.str (i ++ j)) H) ∨ (rCatF K x y H Q ∨ rCat x y H Q))
theorem op_addA : OpR X (binaryOp .Add) (rAddA X.K) := OpR.or op_add (OpR.or op_add_str (OpR.or op_catF op_cat))
theorem ref_lst {N : Nm} {K : PySem.W.Frag} {ρ : List Addr} {H : Hp} {st : S} {n : Nat} {a : Addr} {ds : List D} (r : Rel N K ρ H st) (ha : ρ[n]? = some a) (hs : st[n]? = some (.lst ds)) : ∃ vs, H a = some (.lst vs) ∧ Reps K ρ H ds vs := r.obj n a _ ha hs
theorem ops_add : OpS N X.K addD (rAddA X.K) := fun ρ H st d e x y Q W hR rx ry h => by
  unfold addD at h
  split at h
  · exact .inl ⟨_, _, rx, ry, h.ok hR _ rfl⟩
  · obtain ⟨hl, h⟩ := h.ite
    exact .inr (.inl ⟨_, _, rx, ry, hl, h.ok hR _ rfl⟩)
  · rename_i xs ys
    obtain ⟨hl, h⟩ := h.ite
    obtain ⟨a, vs, rfl, sa, ra⟩ := rx
    obtain ⟨b, ws, rfl, sb, rb⟩ := ry
    refine .inr (.inr (.inl ⟨a, b, vs, ws, rfl, rfl, sa, sb, by rw [Reps.length ra, Reps.length rb]; exact hl, fun z => ?_, fun _ z => ?_, fun _ _ p o hp ho => ?_⟩))
    · have e := (Reps.nil_iff ra).mp z
      subst e
      exact h.ok hR _ ⟨b, ws, rfl, sb, rb⟩
    · have e := (Reps.nil_iff rb).mp z
      subst e
      rw [List.append_nil] at h
      exact h.ok hR _ ⟨a, vs, rfl, sa, ra⟩
    · exact h.tup hR (Reps.append ra rb) hp ho
  · rename_i i j
    obtain ⟨a, ha, rfl⟩ := rx
    obtain ⟨b, hb, rfl⟩ := ry
    split at h
    · rename_i xs ys h1 h2
      obtain ⟨hl, h⟩ := h.ite
      obtain ⟨vs, e1, r1⟩ := ref_lst hR ha h1
      obtain ⟨ws, e2, r2⟩ := ref_lst hR hb h2
      exact .inr (.inr (.inr ⟨a, b, vs, ws, rfl, rfl, e1, e2, by rw [Reps.length r1, Reps.length r2]; exact hl, fun p hp => h.lst hR (Reps.append r1 r2) hp⟩))
    · exact h.elim
  · exact h.elim
theorem ops_sub : OpS N X.K subD (rI0 fun i j => .int (i - j)) := fun ρ H st d e x y Q W hR rx ry h => by
  unfold subD at h
  split at h
  · exact ⟨_, _, rx, ry, h.ok hR _ rfl⟩
  · exact h.elim
abbrev rMulA (K : PySem.W.Frag) : R2 := fun x y H Q => rI CMul (fun i j => .int (i * j)) x y H Q ∨ (rRep x y H Q ∨ rRepF K x y H Q)
theorem op_mulA : OpR X (binaryOp .Mult) (rMulA X.K) := OpR.or op_mul (OpR.or op_rep op_repF)
theorem ops_mul : OpS N X.K mulD (rMulA X.K) := fun ρ H st d e x y Q W hR rx ry h => by
  unfold mulD at h
  split at h
  · obtain ⟨hl, h⟩ := h.ite
    refine .inl ⟨_, _, rx, ry, ?_, h.ok hR _ rfl⟩
    unfold mulOk at hl
    simp only [Bool.or_eq_true, Bool.and_eq_true, decide_eq_true_eq] at hl
    exact hl
  · obtain ⟨a, ha, rfl⟩ := rx
    have ry : y = .int _ := ry
    subst ry
    split at h
    · rename_i xs h1
      obtain ⟨⟨h2, h3, h4⟩, h⟩ := h.ite
      obtain ⟨vs, e1, r1⟩ := ref_lst hR ha h1
      exact .inr (.inl ⟨a, _, vs, rfl, rfl, e1, h2, h3, by rw [Reps.length r1]; exact h4, fun p hp => h.lst hR (Reps.rep _ r1) hp⟩)
    · exact h.elim
  · rename_i ds k
    obtain ⟨a, vs, rfl, sa, ra⟩ := rx
    obtain ⟨⟨h1, h2, h3⟩, h⟩ := h.ite
    refine .inr (.inr ⟨a, _, vs, rfl, ry, sa, h1, h2, by rw [Reps.length ra]; exact h3, fun e => ?_, fun p o hp ho => h.tup hR (Reps.rep _ ra) hp ho⟩)
    refine h.ok hR _ ⟨a, vs, rfl, sa, ?_⟩
    have h5 := Reps.rep (K := X.K) (ρ := ρ) (H := H) k.toNat ra
    rw [e] at h5
    exact h5
  · exact h.elim
theorem ops_fdiv : OpS N X.K fdivD (rI CDiv fun i j => .int (i / j)) := fun ρ H st d e x y Q W hR rx ry h => by
  unfold fdivD at h
  split at h
  · obtain ⟨hl, h⟩ := h.ite
    exact ⟨_, _, rx, ry, hl, h.ok hR _ rfl⟩
  · exact h.elim
theorem ops_mod : OpS N X.K modD (rI (fun _ j => 0 < j) fun i j => .int (i % j)) := fun ρ H st d e x y Q W hR rx ry h => by
  unfold modD at h
  split at h
  · obtain ⟨hl, h⟩ := h.ite
    exact ⟨_, _, rx, ry, hl, h.ok hR _ rfl⟩
  · exact h.elim
theorem ops_pow : OpS N X.K powD (rI CPow fun i j => .int (i ^ j.toNat)) := fun ρ H st d e x y Q W hR rx ry h => by
  unfold powD at h
  split at h
  · obtain ⟨⟨h1, h2, h3⟩, h⟩ := h.ite
    refine ⟨_, _, rx, ry, ⟨h1, by omega, ?_⟩, h.ok hR _ rfl⟩
    exact Nat.lt_trans h3 (by decide)
  · exact h.elim
/-! ## comparisons -/
def ltD : D → D → M D
  | .int i, .int j => fun s => .ok (.bl (decide (i < j))) s
  | _, _ => fun _ => .bad
def leD : D → D → M D
  | .int i, .int j => fun s => .ok (.bl (decide (i ≤ j))) s
  | _, _ => fun _ => .bad
def gtD : D → D → M D
  | .int i, .int j => fun s => .ok (.bl (decide (j < i))) s
  | _, _ => fun _ => .bad
def geD : D → D → M D
  | .int i, .int j => fun s => .ok (.bl (decide (j ≤ i))) s
  | _, _ => fun _ => .bad
theorem ops_lt : OpS N X.K ltD (rI0 fun i j => .bl (decide (i < j))) := fun ρ H st d e x y Q W hR rx ry h => by
  unfold ltD at h
  split at h
  · exact ⟨_, _, rx, ry, h.ok hR _ rfl⟩
  · exact h.elim
theorem ops_le : OpS N X.K leD (rI0 fun i j => .bl (decide (i ≤ j))) := fun ρ H st d e x y Q W hR rx ry h => by
  unfold leD at h
  split at h
  · exact ⟨_, _, rx, ry, h.ok hR _ rfl⟩
  · exact h.elim
theorem ops_gt : OpS N X.K gtD (rI0 fun i j => .bl (decide (j < i))) := fun ρ H st d e x y Q W hR rx ry h => by
  unfold gtD at h
  split at h
  · exact ⟨_, _, rx, ry, h.ok hR _ rfl⟩
  · exact h.elim
theorem ops_ge : OpS N X.K geD (rI0 fun i j => .bl (decide (j ≤ i))) := fun ρ H st d e x y Q W hR rx ry h => by
  unfold geD at h
  split at h
  · exact ⟨_, _, rx, ry, h.ok hR _ rfl⟩
  · exact h.elim
/-- is None -/
def isND : D → D → M D
  | .non, .non => fun s => .ok (.bl true) s
  | _, .non => fun s => .ok (.bl false) s
  | _, _ => fun _ => .bad
def notND : D → D → M D
  | .non, .non => fun s => .ok (.bl false) s
  | _, .non => fun s => .ok (.bl true) s
  | _, _ => fun _ => .bad
theorem rep_non {K : PySem.W.Frag} {ρ : List Addr} {H : Hp} {d : D} {v : V} (h : Rep K ρ H d v) : (v = .non) = (d = .non) := by
  cases d with
  | non => simp [show v = .non from h]
  | bl b => simp [show v = .bl b from h]
  | int b => simp [show v = .int b from h]
  | str b => simp [show v = .str b from h]
  | tup ds => obtain ⟨a, vs, rfl, _⟩ := h; simp
  | ref n => obtain ⟨a, _, rfl⟩ := h; simp
  | scr ns => obtain ⟨a, rfl, _⟩ := h; simp
theorem ops_isN : OpS N X.K isND (fun x y H Q => y = .non ∧ Q (.bl (decide (x = .non))) H) := fun ρ H st d e x y Q W hR rx ry h => by
  unfold isND at h
  split at h
  · have rx : x = .non := rx
    subst rx
    exact ⟨ry, h.ok hR _ rfl⟩
  · rename_i h1
    refine ⟨ry, ?_⟩
    have : ¬ x = .non := fun z => by rw [rep_non rx] at z; exact h1 z
    rw [decide_eq_false this]
    exact h.ok hR _ rfl
  · exact h.elim
theorem ops_notN : OpS N X.K notND (fun x y H Q => y = .non ∧ Q (.bl (!decide (x = .non))) H) := fun ρ H st d e x y Q W hR rx ry h => by
  unfold notND at h
  split at h
  · have rx : x = .non := rx
    subst rx
    exact ⟨ry, h.ok hR _ rfl⟩
  · rename_i h1
    refine ⟨ry, ?_⟩
    have : ¬ x = .non := fun z => by rw [rep_non rx] at z; exact h1 z
    rw [decide_eq_false this]
    exact h.ok hR _ rfl
  · exact h.elim
/-! ## equality -/
def toPy : Nat → S → D → Option PyData
  | 0, _, _ => none
  | n + 1, st, .non => some .none
  | n + 1, st, .bl b => some (.bool b)
  | n + 1, st, .int i => some (.int i)
  | n + 1, st, .str x => some (.str x)
  | n + 1, st, .tup ds => (ds.mapM (toPy n st)).map PyData.tuple
  | n + 1, st, .ref i => match st[i]? with
    | some (.lst ds) => (ds.mapM (toPy n st)).map PyData.list
    | _ => none
  | n + 1, st, .scr ns => some (.list (ns.map PyData.int))
theorem mapM_dp {K : PySem.W.Frag} {ρ : List Addr} {H : Hp} {f : D → Option PyData} (hf : ∀ d v pd, f d = some pd → Rep K ρ H d v → Dp K H v pd) : ∀ (ds : List D) (vs : List V) (pds : List PyData), ds.mapM f = some pds → Reps K ρ H ds vs → DpAll K H vs pds
  | [], vs, pds, h, r => by
    have r' : vs = [] := r
    subst r'
    simp at h; subst h
    exact .nil
  | d :: ds, vs, pds, h, r => by
    obtain ⟨v, r0, rfl, h1, h2⟩ := r
    rw [List.mapM_cons] at h
    cases e : f d with
    | none => rw [e] at h; cases h
    | some p =>
      rw [e] at h
      cases e2 : ds.mapM f with
      | none => rw [e2] at h; cases h
      | some ps =>
        rw [e2] at h
        cases h
        exact .cons (hf d v p e h1) (mapM_dp hf ds r0 ps e2 h2)
theorem dp_ints {K : PySem.W.Frag} {H : Hp} : ∀ (ns : List Int), DpAll K H (ns.map V.int) (ns.map PyData.int)
  | [] => .nil
  | n :: ns => .cons (.int n) (dp_ints ns)
theorem toPy_dp {N : Nm} {K : PySem.W.Frag} {ρ : List Addr} {H : Hp} {st : S} (hR : Rel N K ρ H st) : ∀ (n : Nat) (d : D) (v : V) (pd : PyData), toPy n st d = some pd → Rep K ρ H d v → Dp K H v pd
  | 0, d, v, pd, h, r => by
    unfold toPy at h
    cases h
  | n + 1, d, v, pd, h, r => by
    cases d with
    | non => have r : v = .non := r; subst r; simp [toPy] at h; subst h; exact .non
    | bl b => have r : v = .bl b := r; subst r; simp [toPy] at h; subst h; exact .bl b
    | int b => have r : v = .int b := r; subst r; simp [toPy] at h; subst h; exact .int b
    | str b => have r : v = .str b := r; subst r; simp [toPy] at h; subst h; exact .str b
    | tup ds =>
      obtain ⟨a, vs, rfl, sa, ra⟩ := r
      simp only [toPy] at h
      cases e : ds.mapM (toPy n st) with
      | none => rw [e] at h; cases h
      | some pds =>
        rw [e] at h; cases h
        exact .tup sa.sq (mapM_dp (toPy_dp hR n) ds vs pds e ra)
    | ref i =>
      obtain ⟨a, ha, rfl⟩ := r
      simp only [toPy] at h
      split at h
      · rename_i ds h1
        obtain ⟨vs, e1, r1⟩ := ref_lst hR ha h1
        cases e : ds.mapM (toPy n st) with
        | none => rw [e] at h; cases h
        | some pds =>
          rw [e] at h; cases h
          exact .lst (SqL.of e1) (mapM_dp (toPy_dp hR n) ds vs pds e r1)
      · cases h
    | scr ns =>
      obtain ⟨a, rfl, h1⟩ := r
      simp [toPy] at h; subst h
      refine .lst (xs := ns.map V.int) ?_ (dp_ints ns)
      rcases h1 with ⟨o, h1⟩ | h1
      · exact .inl (.inr ⟨o, h1⟩)
      · exact .inr h1
/-- scalars -/
def eqS : D → D → Option Bool
  | .int i, .int j => some (decide (i = j))
  | .str x, .str y => some (decide (x = y))
  | .bl x, .bl y => some (decide (x = y))
  | .non, .non => some true
  | .non, .int _ => some false
  | .int _, .non => some false
  | .non, .bl _ => some false
  | .bl _, .non => some false
  | .non, .str _ => some false
  | .str _, .non => some false
  | .int _, .str _ => some false
  | .str _, .int _ => some false
  | .bl _, .str _ => some false
  | .str _, .bl _ => some false
  | _, _ => none
def eqD (d e : D) : M D := fun st => match eqS d e with
  | some b => .ok (.bl b) st
  | none => match toPy 66 st d, toPy 66 st e with
    | some a, some b => if (SeqAt.shaped a && SeqAt.shaped b) = true then .ok (.bl (PyData.eqv a b)) st else .bad
    | _, _ => .bad
def neD (d e : D) : M D := fun st => match eqS d e with
  | some b => .ok (.bl (!b)) st
  | none => match toPy 66 st d, toPy 66 st e with
    | some a, some b => if (SeqAt.shaped a && SeqAt.shaped b) = true then .ok (.bl (!PyData.eqv a b)) st else .bad
    | _, _ => .bad
theorem eqS_ok {K : PySem.W.Frag} {ρ : List Addr} {H : Hp} {d e : D} {x y : V} {b : Bool} (h : eqS d e = some b) (rx : Rep K ρ H d x) (ry : Rep K ρ H e y) : scal x y = true ∧ decide (x = y) = b := by
  unfold eqS at h
  split at h <;> first
    | (cases h; have rx : x = _ := rx; have ry : y = _ := ry; subst rx ry; exact ⟨rfl, by simp⟩)
    | cases h
abbrev rEqA (K : PySem.W.Frag) : R2 := fun x y H Q => rEq x y H Q ∨ rEqD K x y H Q
abbrev rNeA (K : PySem.W.Frag) : R2 := fun x y H Q => rNe x y H Q ∨ rNeD K x y H Q
theorem op_eqA (hu : X.A.units + 64 < cLine) : OpR X (compareOp .Eq) (rEqA X.K) := OpR.or op_eq (op_eqD hu)
theorem op_neA (hu : X.A.units + 64 < cLine) : OpR X (compareOp .NotEq) (rNeA X.K) := OpR.or op_ne (op_neD hu)
theorem ops_eq : OpS N X.K eqD (rEqA X.K) := fun ρ H st d e x y Q W hR rx ry h => by
  unfold eqD at h
  split at h
  · rename_i b hb
    obtain ⟨h1, h2⟩ := eqS_ok hb rx ry
    exact .inl ⟨h1, by rw [h2]; exact h.ok hR _ rfl⟩
  · split at h
    · rename_i a b h1 h2
      obtain ⟨hs, h⟩ := h.ite
      obtain ⟨s1, s2⟩ := Bool.and_eq_true_iff.mp hs
      exact .inr ⟨a, b, toPy_dp hR _ _ _ _ h1 rx, toPy_dp hR _ _ _ _ h2 ry, s1, s2, h.ok hR _ rfl⟩
    · exact h.elim
theorem ops_ne : OpS N X.K neD (rNeA X.K) := fun ρ H st d e x y Q W hR rx ry h => by
  unfold neD at h
  split at h
  · rename_i b hb
    obtain ⟨h1, h2⟩ := eqS_ok hb rx ry
    exact .inl ⟨h1, by rw [h2]; exact h.ok hR _ rfl⟩
  · split at h
    · rename_i a b h1 h2
      obtain ⟨hs, h⟩ := h.ite
      obtain ⟨s1, s2⟩ := Bool.and_eq_true_iff.mp hs
      exact .inr ⟨a, b, toPy_dp hR _ _ _ _ h1 rx, toPy_dp hR _ _ _ _ h2 ry, s1, s2, h.ok hR _ rfl⟩
    · exact h.elim
/-! ## in a row of flat things -/
def flatD : D → Bool
  | .non | .bl _ | .int _ | .str _ => true
  | _ => false
def eqFD : D → D → Bool
  | .non, .non => true
  | .bl a, .bl b => a == b
  | .bl a, .int b => (if a then 1 else 0) == b
  | .int a, .bl b => a == (if b then 1 else 0)
  | .int a, .int b => a == b
  | .str a, .str b => a == b
  | _, _ => false
def itemsOf (st : S) : D → Option (List D)
  | .tup ds => some ds
  | .ref n => match st[n]? with
    | some (.lst ds) => some ds
    | _ => none
  | .scr ns => some (ns.map D.int)
  | _ => none
def inD (d e : D) : M D := fun st => match itemsOf st e with
  | some ds => if (flatD d && ds.all flatD) = true then .ok (.bl (ds.any fun y => eqFD y d)) st else .bad
  | none => .bad
def notInD (d e : D) : M D := fun st => match itemsOf st e with
  | some ds => if (flatD d && ds.all flatD) = true then .ok (.bl (!ds.any fun y => eqFD y d)) st else .bad
  | none => .bad
theorem itemsOf_ok {N : Nm} {K : PySem.W.Frag} {ρ : List Addr} {H : Hp} {st : S} {d : D} {v : V} {ds : List D} (hR : Rel N K ρ H st) (h : itemsOf st d = some ds) (r : Rep K ρ H d v) : ∃ a vs, v = .ref a ∧ (SqL K H a vs ∨ SqT K H a vs) ∧ Reps K ρ H ds vs := by
  unfold itemsOf at h
  split at h
  · cases h
    obtain ⟨a, vs, rfl, sa, ra⟩ := r
    exact ⟨a, vs, rfl, .inr sa.sq, ra⟩
  · obtain ⟨a, ha, rfl⟩ := r
    split at h
    · rename_i h1
      cases h
      obtain ⟨vs, e1, r1⟩ := ref_lst hR ha h1
      exact ⟨a, vs, rfl, .inl (SqL.of e1), r1⟩
    · cases h
  · cases h
    obtain ⟨a, rfl, h1⟩ := r
    refine ⟨a, _, rfl, .inl ?_, Reps.ints _⟩
    rcases h1 with ⟨o, h1⟩ | h1
    · exact .inl (.inr ⟨o, h1⟩)
    · exact .inr h1
  · cases h
theorem flat_ok {K : PySem.W.Frag} {ρ : List Addr} {H : Hp} {d : D} {v : V} (h : flatD d = true) (r : Rep K ρ H d v) : flatV v = true := by
  cases d <;> first
    | (have r : v = _ := r; subst r; rfl)
    | cases h
theorem flats_ok {K : PySem.W.Frag} {ρ : List Addr} {H : Hp} : ∀ {ds : List D} {vs : List V}, ds.all flatD = true → Reps K ρ H ds vs → vs.all flatV = true
  | [], vs, _, r => by
    have r' : vs = [] := r
    subst r'; rfl
  | d :: ds, vs, h, r => by
    obtain ⟨v, r0, rfl, h1, h2⟩ := r
    rw [List.all_cons, Bool.and_eq_true] at h ⊢
    exact ⟨flat_ok h.1 h1, flats_ok h.2 h2⟩
theorem eqF_ok {K : PySem.W.Frag} {ρ : List Addr} {H : Hp} {d e : D} {x y : V} (hd : flatD d = true) (he : flatD e = true) (rx : Rep K ρ H d x) (ry : Rep K ρ H e y) : eqV x y = eqFD d e := by
  cases d <;> cases e <;> first
    | (have rx : x = _ := rx; have ry : y = _ := ry; subst rx ry; rfl)
    | (exfalso; revert hd; simp [flatD]; done)
    | (exfalso; revert he; simp [flatD]; done)
theorem inV_ok {K : PySem.W.Frag} {ρ : List Addr} {H : Hp} {d : D} {x : V} (hd : flatD d = true) (rx : Rep K ρ H d x) : ∀ {ds : List D} {vs : List V}, ds.all flatD = true → Reps K ρ H ds vs → inV x vs = ds.any fun y => eqFD y d
  | [], vs, _, r => by
    have r' : vs = [] := r
    subst r'; rfl
  | e :: ds, vs, h, r => by
    obtain ⟨v, r0, rfl, h1, h2⟩ := r
    rw [List.all_cons, Bool.and_eq_true] at h
    have ih := inV_ok hd rx h.2 h2
    unfold inV at ih ⊢
    rw [List.any_cons, List.any_cons, eqF_ok h.1 hd h1 rx, ih]
theorem ops_in : OpS N X.K inD (rIn X.K false) := fun ρ H st d e x y Q W hR rx ry h => by
  unfold inD at h
  split at h
  · rename_i ds hi
    obtain ⟨hf, h⟩ := h.ite
    obtain ⟨f1, f2⟩ := Bool.and_eq_true_iff.mp hf
    obtain ⟨a, vs, rfl, sq, rs⟩ := itemsOf_ok hR hi ry
    refine ⟨a, vs, rfl, sq, flat_ok f1 rx, flats_ok f2 rs, ?_⟩
    rw [inV_ok f1 rx f2 rs]
    exact h.ok hR _ rfl
  · exact h.elim
theorem ops_notIn : OpS N X.K notInD (rIn X.K true) := fun ρ H st d e x y Q W hR rx ry h => by
  unfold notInD at h
  split at h
  · rename_i ds hi
    obtain ⟨hf, h⟩ := h.ite
    obtain ⟨f1, f2⟩ := Bool.and_eq_true_iff.mp hf
    obtain ⟨a, vs, rfl, sq, rs⟩ := itemsOf_ok hR hi ry
    refine ⟨a, vs, rfl, sq, flat_ok f1 rx, flats_ok f2 rs, ?_⟩
    rw [inV_ok f1 rx f2 rs]
    exact h.ok hR _ rfl
  · exact h.elim
/-- a sign in a text -/
def inS : D → D → M D
  | .str x, .str z => fun s => if x.cps.size = 1 then .ok (.bl (decide (x.cps.getD 0 0 ∈ z.cps.toList))) s else .bad
  | _, _ => fun _ => .bad
def notInS : D → D → M D
  | .str x, .str z => fun s => if x.cps.size = 1 then .ok (.bl (!decide (x.cps.getD 0 0 ∈ z.cps.toList))) s else .bad
  | _, _ => fun _ => .bad
theorem one_sign {x : Str} (h : x.cps.size = 1) : x = ⟨#[x.cps.getD 0 0]⟩ := by
  obtain ⟨c⟩ := x
  obtain ⟨l⟩ := c
  cases l with
  | nil => simp at h
  | cons a r =>
    cases r with
    | nil => rfl
    | cons b r => simp at h
theorem ops_inS : OpS N X.K inS (fun x y H Q => ∃ (c : Nat) (z : Str), x = .str ⟨#[c]⟩ ∧ y = .str z ∧ Q (.bl (decide (c ∈ z.cps.toList))) H) := fun ρ H st d e x y Q W hR rx ry h => by
  unfold inS at h
  split at h
  · obtain ⟨hf, h⟩ := h.ite
    have rx : x = .str _ := rx
    rw [one_sign hf] at rx
    exact ⟨_, _, rx, ry, h.ok hR _ rfl⟩
  · exact h.elim
theorem ops_notInS : OpS N X.K notInS (fun x y H Q => ∃ (c : Nat) (z : Str), x = .str ⟨#[c]⟩ ∧ y = .str z ∧ Q (.bl (!decide (c ∈ z.cps.toList))) H) := fun ρ H st d e x y Q W hR rx ry h => by
  unfold notInS at h
  split at h
  · obtain ⟨hf, h⟩ := h.ite
    have rx : x = .str _ := rx
    rw [one_sign hf] at rx
    exact ⟨_, _, rx, ry, h.ok hR _ rfl⟩
  · exact h.elim
end
end Mi
set_option Elab.async false
set_option linter.all false
set_option maxRecDepth 100000
set_option maxHeartbeats 1000000
namespace Mi
open PySem L2

/-! ## items and slices -/
def idxD (d e : D) : M D := fun st => match e with
  | .int i => (match d with
    | .str x => if x.length ≤ sizeLine then (match L2.atI x.cps.toList i with
      | some c => .ok (.str ⟨#[c]⟩) st
      | none => .bad) else .bad
    | d => (match itemsOf st d with
      | some ds => (match L2.atI ds i with
        | some v => .ok v st
        | none => .bad)
      | none => .bad))
  | _ => .bad
section
variable {N : Nm} {W : WX} {X : Cx} {pos : Pos} {a b c : Expr} {fa fb fc : Ev → M D}
theorem ops_idx : OpS N X.K idxD (rIx X.K) := fun ρ H st d e x y Q W hR rx ry h => by
  unfold idxD at h
  split at h
  · have ry : y = .int _ := ry
    subst ry
    split at h
    · obtain ⟨hl, h⟩ := h.ite
      split at h
      · rename_i c hc
        exact .inr (.inr ⟨_, _, c, rx, rfl, hl, hc, h.ok hR _ rfl⟩)
      · exact h.elim
    · split at h
      · rename_i ds hi
        obtain ⟨a, vs, rfl, sq, rs⟩ := itemsOf_ok hR hi rx
        split at h
        · rename_i v hv
          obtain ⟨w, hw, rw'⟩ := Reps.atI rs hv
          have hq := h.ok hR w rw'
          rcases sq with sq | sq
          · exact .inl ⟨a, vs, _, w, rfl, rfl, sq, hw, hq⟩
          · exact .inr (.inl ⟨a, vs, _, w, rfl, rfl, sq, hw, hq⟩)
        · exact h.elim
      · exact h.elim
  · exact h.elim
theorem se_ix (ha : SE N W X a fa) (hb : SE N W X b fb) (hs : PlainIx b) : SE N W X (.Subscript a b pos) (binE idxD fa fb) := PE.imp (pe_ix ix_seq ha hb hs) fun _ _ _ => tOp_of ops_idx
/-- a part of a slice -/
def tOfO (N : Nm) (W : WX) (K : PySem.W.Frag) (f : Ev → M (Option Int)) : TO := fun σ H Q => ∃ η st ρ, ERel N K ρ H η σ ∧ Rel N K ρ H st ∧ Post N K ρ H (f η st) (fun o _ H' => Q o H') (fun c d H' => W c d σ H')
abbrev SO (N : Nm) (W : WX) (X : Cx) (e : Option Expr) (f : Ev → M (Option Int)) : Prop := PO X e (tOfO N W X.K f)
theorem PO.imp {X : Cx} {e : Option Expr} {t t' : TO} (h : PO X e t) (hi : ∀ σ H Q, t' σ H Q → t σ H Q) : PO X e t' := ⟨fun pins s σ H Q I q => h.run pins s σ H Q I (hi σ H Q q)⟩
def noO : Ev → M (Option Int) := fun _ st => .ok none st
def toI : D → M Int
  | .int i, s => .ok i s
  | _, _ => .bad
def yesO (f : Ev → M D) : Ev → M (Option Int) := fun η st => (f η st).bind fun d s1 => (toI d s1).bind fun i s2 => .ok (some i) s2
theorem so_none : SO N W X none noO := PO.imp po_none fun σ H Q ⟨η, st, ρ, hE, hR, hP⟩ => hP.ok hR
theorem so_some (ha : SE N W X a fa) : SO N W X (some a) (yesO fa) := PO.imp (po_some ha) fun σ H Q ⟨η, st, ρ, hE, hR, hP⟩ => ⟨η, st, ρ, hE, hR, Post.bind hP fun d s1 ρ1 H1 e1 r1 p1 v rv => by
  cases d with
  | int i => exact ⟨i, rv, Post.ok (a := some i) (st := s1) p1 r1⟩
  | _ => exact p1.elim⟩
def cutL {α : Type} (xs : List α) (lo hi : Option Int) : List α := (xs.drop (HT.sIx xs.length 0 lo)).take (HT.sIx xs.length xs.length hi - HT.sIx xs.length 0 lo)
theorem Reps.cut {K : PySem.W.Frag} {ρ : List Addr} {H : Hp} {ds : List D} {vs : List V} {lo hi : Option Int} (h : Reps K ρ H ds vs) : Reps K ρ H (cutL ds lo hi) (cutV vs lo hi) := by
  unfold cutL cutV
  rw [Reps.length h]
  exact Reps.take _ (Reps.drop _ h)
theorem cut_whole {α : Type} {xs : List α} {lo hi : Option Int} (h : HT.sIx xs.length 0 lo = 0 ∧ HT.sIx xs.length xs.length hi = xs.length) : cutL xs lo hi = xs := by
  unfold cutL
  rw [h.1, h.2]; simp
def sliceD (d : D) (lo hi : Option Int) : M D := fun st => match d with
  | .tup ds => .ok (.tup (cutL ds lo hi)) st
  | .ref n => (match st[n]? with
    | some (.lst ds) => .ok (.ref st.length) (st ++ [.lst (cutL ds lo hi)])
    | _ => .bad)
  | .str x => if x.length ≤ sizeLine then .ok (.str (cutS x lo hi)) st else .bad
  | _ => .bad
def slE (f : Ev → M D) (lo hi : Ev → M (Option Int)) : Ev → M D := fun η st => (f η st).bind fun d s1 => (lo η s1).bind fun l s2 => (hi η s2).bind fun u s3 => sliceD d l u s3
theorem se_slice {lo hi : Option Expr} {fl fu : Ev → M (Option Int)} {p2 : Pos} (ha : SE N W X a fa) (hl : SO N W X lo fl) (hu : SO N W X hi fu) : SE N W X (.Subscript a (.Slice lo hi none p2) pos) (slE fa fl fu) :=
  PE.imp (pe_slice (SlR.or sl_tupF (SlR.or sl_list sl_str)) ha hl hu) fun σ H Q ⟨η, st, ρ, hE, hR, hP⟩ => ⟨η, st, ρ, hE, hR, Post.bind hP fun d s1 ρ1 H1 e1 r1 p1 v rv =>
    ⟨η, s1, ρ1, hE.ext e1, r1, Post.bind p1 fun l s2 ρ2 H2 e2 r2 p2 => ⟨η, s2, ρ2, (hE.ext e1).ext e2, r2, Post.bind p2 fun u s3 ρ3 H3 e3 r3 p3 => by
      have rv := Rep.ext (e2.trans e3) d v rv
      unfold sliceD at p3
      split at p3
      · obtain ⟨q, vs, rfl, sq, rs⟩ := rv
        refine .inl ⟨q, vs, rfl, sq, fun z => ?_, fun _ p o hp ho => p3.tup r3 (Reps.cut rs) hp ho⟩
        rw [Reps.length rs] at z
        rw [cut_whole z] at p3
        exact p3.ok r3 _ ⟨q, vs, rfl, sq, rs⟩
      · obtain ⟨q, hq, rfl⟩ := rv
        split at p3
        · rename_i ds h1
          obtain ⟨vs, g1, g2⟩ := ref_lst r3 hq h1
          exact .inr (.inl ⟨q, vs, rfl, SqL.of g1, fun p hp => p3.lst r3 (Reps.cut g2) hp⟩)
        · exact p3.elim
      · obtain ⟨hz, p3⟩ := p3.ite
        exact .inr (.inr ⟨_, rv, hz, p3.ok r3 _ rfl⟩)
      · exact p3.elim⟩⟩⟩
/-! ## attributes -/
def getA (n : Nat) (d : D) : M D := fun st => match d with
  | .ref i => (match st[i]? with
    | some (.ins _ fs) => (match fs.lookup n with
      | some v => .ok v st
      | none => .bad)
    | _ => .bad)
  | _ => .bad
def attE (n : Nat) (f : Ev → M D) : Ev → M D := fun η st => (f η st).bind fun d s1 => getA n d s1
theorem Fls.look {N : Nm} {K : PySem.W.Frag} {ρ : List Addr} {H : Hp} (hN : N.an.Nodup) {n : Nat} {x : Str} (hx : N.an[n]? = some x) : ∀ {fs : List (Nat × D)} {l : List (Str × V)} {d : D}, Fls N K ρ H fs l → fs.lookup n = some d → ∃ v, l.lookup x = some v ∧ Rep K ρ H d v
  | [], _, _, _, h => by cases h
  | (m, e) :: fs, l, d, h, q => by
    obtain ⟨y, v, l', rfl, h1, h2, h3⟩ := h
    rw [List.lookup_cons] at q ⊢
    by_cases hm : n = m
    · subst hm
      rw [hx] at h1; cases h1
      simp at q; subst q
      exact ⟨v, by simp, h2⟩
    · have hne : ¬ x = y := by
        rintro rfl
        obtain ⟨g1, g2⟩ := List.getElem?_eq_some_iff.mp hx
        obtain ⟨g3, g4⟩ := List.getElem?_eq_some_iff.mp h1
        exact hm ((List.getElem_inj hN).mp (g2.trans g4.symm))
      have b1 : (n == m) = false := beq_eq_false_iff_ne.mpr hm
      have b2 : (x == y) = false := beq_eq_false_iff_ne.mpr hne
      rw [b1] at q
      rw [b2]
      exact Fls.look hN hx h3 q
theorem Fls.none {N : Nm} {K : PySem.W.Frag} {ρ : List Addr} {H : Hp} {m : Str} (hm : m ∉ N.an) : ∀ {fs : List (Nat × D)} {l : List (Str × V)}, Fls N K ρ H fs l → l.lookup m = Option.none
  | [], l, h => by
    have h' : l = [] := h
    subst h'; rfl
  | (k, e) :: fs, l, h => by
    obtain ⟨y, v, l', rfl, h1, h2, h3⟩ := h
    rw [List.lookup_cons]
    have b2 : (m == y) = false := beq_eq_false_iff_ne.mpr fun e => hm (e ▸ List.mem_of_getElem? h1)
    rw [b2]
    exact Fls.none hm h3
theorem se_att {n : Nat} {f : Str} (hN : N.an.Nodup) (hx : N.an[n]? = some f) (ha : SE N W X a fa) (hb : attributeBase a f X.env (eval a X.env) = eval a X.env) : SE N W X (.Attribute a f pos) (attE n fa) :=
  PE.imp (pe_fld ha hb) fun σ H Q ⟨η, st, ρ, hE, hR, hP⟩ => ⟨η, st, ρ, hE, hR, Post.bind hP fun d s1 ρ1 H1 e1 r1 p1 v rv => by
    unfold getA at p1
    split at p1
    · obtain ⟨q, hq, rfl⟩ := rv
      split at p1
      · rename_i c fs h1
        obtain ⟨dx, l, g1, g2, g3⟩ := r1.obj _ _ _ hq h1
        split at p1
        · rename_i w hw
          obtain ⟨v, hv, rv⟩ := Fls.look hN hx g2 hw
          exact ⟨q, _, dx, l, v, rfl, g1, g3.cls, g3.noat n f hx, hv, p1.ok r1 v rv⟩
        · exact p1.elim
      · exact p1.elim
    · exact p1.elim⟩
def putA (n : Nat) (v : D) : List (Nat × D) → List (Nat × D)
  | [] => [(n, v)]
  | (m, x) :: r => if m = n then (m, v) :: r else (m, x) :: putA n v r
theorem Fls.put {N : Nm} {K : PySem.W.Frag} {ρ : List Addr} {H : Hp} (hN : N.an.Nodup) {n : Nat} {x : Str} (hx : N.an[n]? = some x) {d : D} {v : V} (rv : Rep K ρ H d v) : ∀ {fs : List (Nat × D)} {l : List (Str × V)}, Fls N K ρ H fs l → Fls N K ρ H (putA n d fs) (putF x v l)
  | [], l, h => by
    have h' : l = [] := h
    subst h'
    exact ⟨x, v, [], rfl, hx, rv, rfl⟩
  | (m, e) :: fs, l, h => by
    obtain ⟨y, u, l', rfl, h1, h2, h3⟩ := h
    unfold putA putF
    by_cases hm : m = n
    · subst hm
      rw [hx] at h1; cases h1
      rw [if_pos rfl, if_pos rfl]
      exact ⟨x, v, l', rfl, hx, rv, h3⟩
    · have hne : ¬ y = x := by
        rintro rfl
        obtain ⟨g1, g2⟩ := List.getElem?_eq_some_iff.mp hx
        obtain ⟨g3, g4⟩ := List.getElem?_eq_some_iff.mp h1
        exact hm ((List.getElem_inj hN).mp (g4.trans g2.symm))
      rw [if_neg hm, if_neg hne]
      exact ⟨y, u, _, rfl, h1, h2, Fls.put hN hx rv h3⟩
theorem Fls.length {N : Nm} {K : PySem.W.Frag} {ρ : List Addr} {H : Hp} : ∀ {fs : List (Nat × D)} {l : List (Str × V)}, Fls N K ρ H fs l → l.length = fs.length
  | [], l, h => by
    have h' : l = [] := h
    subst h'; rfl
  | (m, e) :: fs, l, h => by
    obtain ⟨y, u, l', rfl, h1, h2, h3⟩ := h
    simp [Fls.length h3]
/-! ## dicts -/
def kEq : D → D → Bool
  | .int i, .int j => decide (i = j)
  | .str x, .str y => decide (x = y)
  | _, _ => false
def isKey : D → Bool
  | .int _ | .str _ => true
  | _ => false
def lookD (kvs : List (D × D)) (k : D) : Option D := (kvs.find? fun kv => kEq kv.1 k).map (·.2)
def putD (kvs : List (D × D)) (k v : D) : List (D × D) := if (kvs.any fun kv => kEq kv.1 k) = true then kvs.map (fun kv => if kEq kv.1 k = true then (kv.1, v) else kv) else kvs ++ [(k, v)]
def dropD (kvs : List (D × D)) (k : D) : List (D × D) := kvs.filter fun kv => !kEq kv.1 k
theorem isKey_ok {K : PySem.W.Frag} {ρ : List Addr} {H : Hp} {d : D} {v : V} (h : isKey d = true) (r : Rep K ρ H d v) : ∃ k, KeyRel d k ∧ v = kV k := by
  cases d with
  | int i => exact ⟨.inl i, rfl, r⟩
  | str i => exact ⟨.inr i, rfl, r⟩
  | _ => cases h
theorem kEq_ok {d e : D} {k l : Key} (h1 : KeyRel d k) (h2 : KeyRel e l) : kEq d e = decide (k = l) := by
  cases d <;> cases e <;> first
    | (exact h1.elim)
    | (exact h2.elim)
    | (have h1 : k = _ := h1; have h2 : l = _ := h2; subst h1 h2; simp [kEq])
theorem KVs.look {K : PySem.W.Frag} {ρ : List Addr} {H : Hp} {k : D} {k' : Key} (hk : KeyRel k k') : ∀ {kvs : List (D × D)} {l : List (Key × V)}, KVs K ρ H kvs l → (∀ d, lookD kvs k = some d → ∃ v, valV l k' = some v ∧ Rep K ρ H d v) ∧ (lookD kvs k = none → valV l k' = none)
  | [], l, h => by
    have h' : l = [] := h
    subst h'
    exact ⟨fun d q => by simp [lookD] at q, fun _ => rfl⟩
  | (m, e) :: kvs, l, h => by
    obtain ⟨y, u, l', rfl, h1, h2, h3⟩ := h
    obtain ⟨i1, i2⟩ := KVs.look hk h3
    have hb := kEq_ok h1 hk
    by_cases hm : y = k'
    · rw [decide_eq_true hm] at hb
      refine ⟨fun d q => ?_, fun q => ?_⟩
      · simp [lookD, List.find?_cons, hb] at q
        subst q
        exact ⟨u, valV_pos hm, h2⟩
      · simp [lookD, List.find?_cons, hb] at q
    · rw [decide_eq_false hm] at hb
      refine ⟨fun d q => ?_, fun q => ?_⟩
      · rw [valV_neg hm]
        refine i1 d ?_
        simpa [lookD, List.find?_cons, hb] using q
      · rw [valV_neg hm]
        refine i2 ?_
        simpa [lookD, List.find?_cons, hb] using q
theorem KVs.any {K : PySem.W.Frag} {ρ : List Addr} {H : Hp} {k : D} {k' : Key} (hk : KeyRel k k') : ∀ {kvs : List (D × D)} {l : List (Key × V)}, KVs K ρ H kvs l → (l.any fun kv => decide (kv.1 = k')) = kvs.any fun kv => kEq kv.1 k
  | [], l, h => by
    have h' : l = [] := h
    subst h'; rfl
  | (m, e) :: kvs, l, h => by
    obtain ⟨y, u, l', rfl, h1, h2, h3⟩ := h
    rw [List.any_cons, List.any_cons, KVs.any hk h3, kEq_ok h1 hk]
theorem KVs.mapSet {K : PySem.W.Frag} {ρ : List Addr} {H : Hp} {k d : D} {k' : Key} {v : V} (hk : KeyRel k k') (rv : Rep K ρ H d v) : ∀ {kvs : List (D × D)} {l : List (Key × V)}, KVs K ρ H kvs l → KVs K ρ H (kvs.map fun kv => if kEq kv.1 k = true then (kv.1, d) else kv) (l.map fun kv => if kv.1 = k' then (kv.1, v) else kv)
  | [], l, h => by
    have h' : l = [] := h
    subst h'; exact rfl
  | (m, e) :: kvs, l, h => by
    obtain ⟨y, u, l', rfl, h1, h2, h3⟩ := h
    have ih := KVs.mapSet hk rv h3
    have hb := kEq_ok h1 hk
    simp only [List.map_cons]
    by_cases hm : y = k'
    · rw [decide_eq_true hm] at hb
      rw [if_pos hb, if_pos hm]
      exact ⟨y, v, _, rfl, h1, rv, ih⟩
    · rw [decide_eq_false hm] at hb
      rw [if_neg (by rw [hb]; simp), if_neg hm]
      exact ⟨y, u, _, rfl, h1, h2, ih⟩
theorem KVs.append {K : PySem.W.Frag} {ρ : List Addr} {H : Hp} {m : List (D × D)} {n : List (Key × V)} (q : KVs K ρ H m n) : ∀ {kvs : List (D × D)} {l : List (Key × V)}, KVs K ρ H kvs l → KVs K ρ H (kvs ++ m) (l ++ n)
  | [], l, h => by
    have h' : l = [] := h
    subst h'; exact q
  | (k, e) :: kvs, l, h => by
    obtain ⟨y, u, l', rfl, h1, h2, h3⟩ := h
    exact ⟨y, u, l' ++ n, rfl, h1, h2, KVs.append q h3⟩
theorem KVs.put {K : PySem.W.Frag} {ρ : List Addr} {H : Hp} {k d : D} {k' : Key} {v : V} (hk : KeyRel k k') (rv : Rep K ρ H d v) {kvs : List (D × D)} {l : List (Key × V)} (h : KVs K ρ H kvs l) : KVs K ρ H (putD kvs k d) (putK l k' v) := by
  unfold putD putK
  rw [KVs.any hk h]
  split
  · exact KVs.mapSet hk rv h
  · exact KVs.append (m := [(k, d)]) (n := [(k', v)]) ⟨k', v, [], rfl, hk, rv, rfl⟩ h
theorem KVs.drop {K : PySem.W.Frag} {ρ : List Addr} {H : Hp} {k : D} {k' : Key} (hk : KeyRel k k') : ∀ {kvs : List (D × D)} {l : List (Key × V)}, KVs K ρ H kvs l → KVs K ρ H (dropD kvs k) (dropK l k')
  | [], l, h => by
    have h' : l = [] := h
    subst h'; exact rfl
  | (m, e) :: kvs, l, h => by
    obtain ⟨y, u, l', rfl, h1, h2, h3⟩ := h
    have ih := KVs.drop hk h3
    have hb := kEq_ok h1 hk
    unfold dropD dropK at ih ⊢
    by_cases hm : y = k'
    · rw [decide_eq_true hm] at hb
      simpa [List.filter_cons, hb, hm] using ih
    · rw [decide_eq_false hm] at hb
      simp only [List.filter_cons, hb, Bool.not_false, if_true]
      rw [if_pos (by simpa using hm)]
      exact ⟨y, u, _, rfl, h1, h2, ih⟩
theorem KVs.length {K : PySem.W.Frag} {ρ : List Addr} {H : Hp} : ∀ {kvs : List (D × D)} {l : List (Key × V)}, KVs K ρ H kvs l → l.length = kvs.length
  | [], l, h => by
    have h' : l = [] := h
    subst h'; rfl
  | (m, e) :: fs, l, h => by
    obtain ⟨y, u, l', rfl, h1, h2, h3⟩ := h
    simp [KVs.length h3]
def dctOf (st : S) : D → Option (Nat × List (D × D))
  | .ref n => match st[n]? with
    | some (.dct kvs) => some (n, kvs)
    | _ => none
  | _ => none
theorem dctOf_ok {N : Nm} {K : PySem.W.Frag} {ρ : List Addr} {H : Hp} {st : S} {d : D} {v : V} {n : Nat} {kvs : List (D × D)} (hR : Rel N K ρ H st) (h : dctOf st d = some (n, kvs)) (r : Rep K ρ H d v) : ∃ a l, v = .ref a ∧ ρ[n]? = some a ∧ H a = some (.dK l) ∧ KVs K ρ H kvs l ∧ st[n]? = some (.dct kvs) := by
  unfold dctOf at h
  split at h
  · obtain ⟨a, ha, rfl⟩ := r
    split at h
    · rename_i kvs' h1
      cases h
      obtain ⟨l, g1, g2⟩ := hR.obj _ _ _ ha h1
      exact ⟨a, l, rfl, ha, g1, g2, h1⟩
    · cases h
  · cases h
/-- d[k] -/
def dgetD (d k : D) : M D := fun st => match dctOf st d with
  | some (_, kvs) => if isKey k = true then (match lookD kvs k with
    | some v => .ok v st
    | none => .bad) else .bad
  | none => .bad
theorem se_dget (hu : X.A.units + 1 < cLine) (ha : SE N W X a fa) (hb : SE N W X b fb) (hs : NoSl b) : SE N W X (.Subscript a b pos) (binE dgetD fa fb) :=
  PE.imp (pe_dget hu ha hb hs) fun σ H Q ⟨η, st, ρ, hE, hR, hP⟩ => ⟨η, st, ρ, hE, hR, Post.bind hP fun d s1 ρ1 H1 e1 r1 p1 x rx => ⟨η, s1, ρ1, hE.ext e1, r1, Post.bind p1 fun e s2 ρ2 H2 e2 r2 p2 y ry => by
    unfold dgetD at p2
    split at p2
    · rename_i n kvs hd
      obtain ⟨hk, p2⟩ := p2.ite
      obtain ⟨q, l, rfl, h1, h2, h3, _⟩ := dctOf_ok r2 hd (Rep.ext e2 d x rx)
      obtain ⟨k, kr, rfl⟩ := isKey_ok hk ry
      split at p2
      · rename_i w hw
        obtain ⟨v, hv, rv⟩ := (KVs.look kr h3).1 w hw
        exact ⟨q, v, rfl, by rw [← hv]; exact DGet.k h2, p2.ok r2 v rv⟩
      · exact p2.elim
    · exact p2.elim⟩⟩
/-- k in d -/
def dinD (k d : D) : M D := fun st => match dctOf st d with
  | some (_, kvs) => if isKey k = true then .ok (.bl (lookD kvs k).isSome) st else .bad
  | none => .bad
def dnotinD (k d : D) : M D := fun st => match dctOf st d with
  | some (_, kvs) => if isKey k = true then .ok (.bl (!(lookD kvs k).isSome)) st else .bad
  | none => .bad
theorem look_isSome {K : PySem.W.Frag} {ρ : List Addr} {H : Hp} {k : D} {k' : Key} (hk : KeyRel k k') {kvs : List (D × D)} {l : List (Key × V)} (h : KVs K ρ H kvs l) : (valV l k').isSome = (lookD kvs k).isSome := by
  obtain ⟨i1, i2⟩ := KVs.look hk h
  cases e : lookD kvs k with
  | none => rw [i2 e]; rfl
  | some d =>
    obtain ⟨v, hv, _⟩ := i1 d e
    rw [hv]; rfl
theorem pc_din' (hu : X.A.units + 1 < cLine) (ha : SE N W X a fa) (hb : SE N W X b fb) : PC X .In a b (tOf N W X.K (binE dinD fa fb)) := by
  refine ⟨fun pins s σ H Q I h => (pc_din hu ha hb).run pins s σ H Q I ?_⟩
  obtain ⟨η, st, ρ, hE, hR, hP⟩ := h
  refine ⟨η, st, ρ, hE, hR, Post.bind hP fun d s1 ρ1 H1 e1 r1 p1 x rx => ⟨η, s1, ρ1, hE.ext e1, r1, Post.bind p1 fun e s2 ρ2 H2 e2 r2 p2 y ry => ?_⟩⟩
  unfold dinD at p2
  split at p2
  · rename_i n kvs hd
    obtain ⟨hk, p2⟩ := p2.ite
    obtain ⟨q, l, rfl, h1, h2, h3, _⟩ := dctOf_ok r2 hd ry
    obtain ⟨k, kr, rfl⟩ := isKey_ok hk (Rep.ext e2 d x rx)
    exact ⟨q, valV l k, rfl, DGet.k h2, by rw [look_isSome kr h3]; exact p2.ok r2 _ rfl⟩
  · exact p2.elim
theorem pc_dnotin' (hu : X.A.units + 1 < cLine) (ha : SE N W X a fa) (hb : SE N W X b fb) : PC X .NotIn a b (tOf N W X.K (binE dnotinD fa fb)) := by
  refine ⟨fun pins s σ H Q I h => (pc_dnotin hu ha hb).run pins s σ H Q I ?_⟩
  obtain ⟨η, st, ρ, hE, hR, hP⟩ := h
  refine ⟨η, st, ρ, hE, hR, Post.bind hP fun d s1 ρ1 H1 e1 r1 p1 x rx => ⟨η, s1, ρ1, hE.ext e1, r1, Post.bind p1 fun e s2 ρ2 H2 e2 r2 p2 y ry => ?_⟩⟩
  unfold dnotinD at p2
  split at p2
  · rename_i n kvs hd
    obtain ⟨hk, p2⟩ := p2.ite
    obtain ⟨q, l, rfl, h1, h2, h3, _⟩ := dctOf_ok r2 hd ry
    obtain ⟨k, kr, rfl⟩ := isKey_ok hk (Rep.ext e2 d x rx)
    exact ⟨q, valV l k, rfl, DGet.k h2, by rw [look_isSome kr h3]; exact p2.ok r2 _ rfl⟩
  · exact p2.elim
theorem se_din (hu : X.A.units + 1 < cLine) (ha : SE N W X a fa) (hb : SE N W X b fb) (hm : behindInMarks .In b = false := by rfl) : SE N W X (.Compare a [.In] [b] pos) (binE dinD fa fb) := pe_cmp (pc_din' hu ha hb) hm
theorem se_dnotin (hu : X.A.units + 1 < cLine) (ha : SE N W X a fa) (hb : SE N W X b fb) (hm : behindInMarks .NotIn b = false := by rfl) : SE N W X (.Compare a [.NotIn] [b] pos) (binE dnotinD fa fb) := pe_cmp (pc_dnotin' hu ha hb) hm
theorem sb_pc {op : CmpOp} {f : Ev → M D} (h : PC X op a b (tOf N W X.K f)) (hm : behindInMarks op b = false) : SB N W X (.Compare a [op] [b] pos) (tstE f) :=
  PT.imp (pt_cmp h hm) fun σ H Q ⟨η, st, ρ, hE, hR, hP⟩ => ⟨η, st, ρ, hE, hR, Post.bind hP fun d s1 ρ1 H1 e1 r1 p1 v rv => toB_post p1 r1 rv⟩
/-- {} -/
def dnewE : Ev → M D := fun _ st => .ok (.ref st.length) (st ++ [.dct []])
theorem Post.dct {N : Nm} {K : PySem.W.Frag} {ρ : List Addr} {H : Hp} {kvs : List (D × D)} {l : List (Key × V)} {st : S} {Q : VK} {W : XW} {p : Addr} (h : Post N K ρ H (.ok (.ref st.length) (st ++ [.dct kvs])) (kD K Q) W) (r : Rel N K ρ H st) (rs : KVs K ρ H kvs l) (hp : H p = none) : Q (.ref p) (upd H p (.dK l)) := by
  have x := Ext.push (o := .dK l) r hp
  exact h _ _ x (r.push hp ⟨l, upd_same, KVs.ext x _ _ rs⟩) (.ref p) ⟨p, get_last r.len, rfl⟩
theorem se_dnew : SE N W X (.Dict [] [] pos) dnewE := PE.imp pe_dnewK fun σ H Q ⟨η, st, ρ, hE, hR, hP⟩ p hp => hP.dct hR (l := []) rfl hp
end
end Mi
set_option Elab.async false
set_option linter.all false
set_option maxRecDepth 100000
set_option maxHeartbeats 1000000
namespace Mi
open PySem L2
/-! ## calls of built-ins -/
def CallS (N : Nm) (K : PySem.W.Frag) (g : List D → M D) (r : List V → Hp → VK → Prop) : Prop :=
  ∀ (ρ : List Addr) (H : Hp) (st : S) (ds : List D) (vs : List V) (Q : VK) (W : XW), Rel N K ρ H st → Reps K ρ H ds vs → Post N K ρ H (g ds st) (kD K Q) W → r vs H Q
def callE (g : List D → M D) (a : Ev → M (List D)) : Ev → M D := fun η st => (a η st).bind g
section
variable {N : Nm} {W : WX} {X : Cx} {pos p : Pos} {a b c e : Expr} {es : List Expr} {fa fb fc : Ev → M D} {fs : Ev → M (List D)} {x : Str}
theorem tCB_of {g : List D → M D} {r : List V → Hp → VK → Prop} (hs : CallS N X.K g r) {σ : St} {H : Hp} {Q : VK} (h : tOf N W X.K (callE g fs) σ H Q) : tCB r (tOfA N W X.K fs) σ H Q := by
  obtain ⟨η, st, ρ, hE, hR, hP⟩ := h
  exact ⟨η, st, ρ, hE, hR, Post.bind hP fun ds s1 ρ1 H1 e1 r1 p1 vs rs => hs ρ1 H1 s1 ds vs Q _ r1 rs p1⟩
theorem se_callB {id : String} {g : List D → M D} {r : List V → Hp → VK → Prop} (hc : CallR X (.builtin id) r) (hs : CallS N X.K g r) (hg : Gl X x) (hm : X.mg x = none) (hv : bootBuiltins x = some (.builtin id)) (ha : SA N W X (e :: es) fs)
    (h : PE X (.Call (.Name x p) (e :: es) [] pos) (tCB r (tOfA N W X.K fs))) : SE N W X (.Call (.Name x p) (e :: es) [] pos) (callE g fs) := PE.imp h fun _ _ _ => tCB_of hs
theorem reps1 {K : PySem.W.Frag} {ρ : List Addr} {H : Hp} {d : D} {vs : List V} (h : Reps K ρ H [d] vs) : ∃ v, vs = [v] ∧ Rep K ρ H d v := by
  obtain ⟨v, r, rfl, h1, h2⟩ := h
  have h2 : r = [] := h2
  subst h2
  exact ⟨v, rfl, h1⟩
theorem reps2 {K : PySem.W.Frag} {ρ : List Addr} {H : Hp} {d e : D} {vs : List V} (h : Reps K ρ H [d, e] vs) : ∃ v w, vs = [v, w] ∧ Rep K ρ H d v ∧ Rep K ρ H e w := by
  obtain ⟨v, r, rfl, h1, h2⟩ := h
  obtain ⟨w, rfl, h3⟩ := reps1 h2
  exact ⟨v, w, rfl, h1, h3⟩
/-- len -/
def lenD : List D → M D
  | [.str x] => fun s => if x.length ≤ sizeLine then .ok (.int x.length) s else .bad
  | [d] => fun s => match itemsOf s d with
    | some ds => .ok (.int ds.length) s
    | none => match dctOf s d with
      | some (_, kvs) => .ok (.int kvs.length) s
      | none => .bad
  | _ => fun _ => .bad
abbrev rLenA (K : PySem.W.Frag) : List V → Hp → VK → Prop := fun xs H Q => (∃ x n, xs = [x] ∧ LenV K x H n ∧ Q (.int n) H) ∨ ∃ a kvs, xs = [V.ref a] ∧ H a = some (.dK kvs) ∧ Q (.int kvs.length) H
theorem call_lenA : CallR X (.builtin "len") (rLenA X.K) := CallR.or call_len call_lenD
theorem cs_len : CallS N X.K lenD (rLenA X.K) := fun ρ H st ds vs Q W hR rs h => by
  unfold lenD at h
  split at h <;> try dsimp only at h
  · obtain ⟨v, rfl, rv⟩ := reps1 rs
    have rv : v = .str _ := rv
    subst rv
    obtain ⟨hl, h⟩ := h.ite
    exact .inl ⟨_, _, rfl, ⟨hl, rfl⟩, h.ok hR _ rfl⟩
  · obtain ⟨v, rfl, rv⟩ := reps1 rs
    split at h
    · rename_i ds' hi
      obtain ⟨a, vs, rfl, sq, rs'⟩ := itemsOf_ok hR hi rv
      refine .inl ⟨_, vs.length, rfl, ?_, by rw [Reps.length rs']; exact h.ok hR _ rfl⟩
      rcases sq with sq | sq
      · exact .inl ⟨vs, sq, rfl⟩
      · exact .inr ⟨vs, sq, rfl⟩
    · split at h
      · rename_i hd
        obtain ⟨q, l, rfl, h1, h2, h3, _⟩ := dctOf_ok hR hd rv
        exact .inr ⟨q, l, rfl, h2, by rw [KVs.length h3]; exact h.ok hR _ rfl⟩
      · exact h.elim
  · exact h.elim
/-- int -/
def intD : List D → M D
  | [.int i] => fun s => .ok (.int i) s
  | [.bl k] => fun s => .ok (.int (if k then 1 else 0)) s
  | [.str x] => fun s => match PySem.intText? x with
    | some n => if x.length ≤ 640 then .ok (.int n) s else .bad
    | none => .bad
  | _ => fun _ => .bad
abbrev rIntA : List V → Hp → VK → Prop := fun xs H Q => ((∃ i, xs = [.int i] ∧ Q (.int i) H) ∨ ∃ k, xs = [.bl k] ∧ Q (.int (if k then 1 else 0)) H) ∨ ∃ a n, xs = [.str a] ∧ PySem.intText? a = some n ∧ a.length ≤ 640 ∧ Q (.int n) H
theorem call_intA : CallR X (.type "int") rIntA := CallR.or call_int1 call_int_str
theorem cs_int : CallS N X.K intD rIntA := fun ρ H st ds vs Q W hR rs h => by
  unfold intD at h
  split at h <;> try dsimp only at h
  · obtain ⟨v, rfl, rv⟩ := reps1 rs
    have rv : v = .int _ := rv
    subst rv
    exact .inl (.inl ⟨_, rfl, h.ok hR _ rfl⟩)
  · obtain ⟨v, rfl, rv⟩ := reps1 rs
    have rv : v = .bl _ := rv
    subst rv
    exact .inl (.inr ⟨_, rfl, h.ok hR _ rfl⟩)
  · obtain ⟨v, rfl, rv⟩ := reps1 rs
    have rv : v = .str _ := rv
    subst rv
    split at h
    · rename_i n hn
      obtain ⟨hl, h⟩ := h.ite
      exact .inr ⟨_, n, rfl, hn, hl, h.ok hR _ rfl⟩
    · exact h.elim
  · exact h.elim
/-- str of an int -/
def strD : List D → M D
  | [.int i] => fun s => if -1000000000000 < i ∧ i < 1000000000000 then .ok (.str (Str.ofString (toString i))) s else .bad
  | _ => fun _ => .bad
theorem log2_small {i : Int} (h : -1000000000000 < i ∧ i < 1000000000000) : i.natAbs.log2 < 1920 := by
  by_cases h0 : i.natAbs = 0
  · rw [h0]; decide
  · refine (Nat.log2_lt h0).mpr ?_
    have : i.natAbs < 2 ^ 64 := by omega
    exact Nat.lt_of_lt_of_le this (Nat.pow_le_pow_right (i := 64) (j := 1920) (by decide) (by decide))
theorem cs_str : CallS N X.K strD (fun xs H Q => ∃ i : Int, xs = [.int i] ∧ i.natAbs.log2 < 1920 ∧ Q (.str (toString i)) H) := fun ρ H st ds vs Q W hR rs h => by
  unfold strD at h
  split at h <;> try dsimp only at h
  · obtain ⟨v, rfl, rv⟩ := reps1 rs
    have rv : v = .int _ := rv
    subst rv
    obtain ⟨hl, h⟩ := h.ite
    exact ⟨_, rfl, log2_small hl, h.ok hR _ rfl⟩
  · exact h.elim
/-- tuple, list -/
def tupleD : List D → M D
  | [.tup ds] => fun s => .ok (.tup ds) s
  | [.ref n] => fun s => match s[n]? with
    | some (.lst ds) => .ok (.tup ds) s
    | _ => .bad
  | _ => fun _ => .bad
theorem cs_tuple : CallS N X.K tupleD (fun xs H Q => ∃ p ys, xs = [.ref p] ∧ ((SqL X.K H p ys ∧ ∀ (l : Addr) (o : Obj), H l = none → o.dict = none → Q (.ref l) (upd H l (.frz o (.tup ys)))) ∨ (TupN X.K H p ys ∧ Q (.ref p) H))) := fun ρ H st ds vs Q W hR rs h => by
  unfold tupleD at h
  split at h <;> try dsimp only at h
  · obtain ⟨v, rfl, rv⟩ := reps1 rs
    have rv0 := rv
    obtain ⟨a, vs, rfl, sa, ra⟩ := rv
    exact ⟨a, vs, rfl, .inr ⟨sa, h.ok hR _ rv0⟩⟩
  · obtain ⟨v, rfl, rv⟩ := reps1 rs
    obtain ⟨a, ha, rfl⟩ := rv
    split at h
    · rename_i h1
      obtain ⟨vs, e1, r1⟩ := ref_lst hR ha h1
      exact ⟨a, vs, rfl, .inl ⟨SqL.of e1, fun l o hl ho => h.tup hR r1 hl ho⟩⟩
    · exact h.elim
  · exact h.elim
def listD : List D → M D
  | [d] => fun s => match itemsOf s d with
    | some ds => .ok (.ref s.length) (s ++ [.lst ds])
    | none => .bad
  | _ => fun _ => .bad
theorem cs_list : CallS N X.K listD (fun xs H Q => ∃ p ys, xs = [.ref p] ∧ (SqL X.K H p ys ∨ SqT X.K H p ys) ∧ ∀ l, H l = none → Q (.ref l) (upd H l (.lst ys))) := fun ρ H st ds vs Q W hR rs h => by
  unfold listD at h
  split at h <;> try dsimp only at h
  · obtain ⟨v, rfl, rv⟩ := reps1 rs
    split at h
    · rename_i hi
      obtain ⟨a, vs, rfl, sq, rs'⟩ := itemsOf_ok hR hi rv
      exact ⟨a, vs, rfl, sq, fun l hl => h.lst hR rs' hl⟩
    · exact h.elim
  · exact h.elim
/-- max, min of two -/
def max2D : List D → M D
  | [.int i, .int j] => fun s => .ok (.int (if j > i then j else i)) s
  | _ => fun _ => .bad
def min2D : List D → M D
  | [.int i, .int j] => fun s => .ok (.int (if j < i then j else i)) s
  | _ => fun _ => .bad
theorem cs_max2 : CallS N X.K max2D (fun xs H Q => ∃ i j, xs = [.int i, .int j] ∧ Q (.int (if j > i then j else i)) H) := fun ρ H st ds vs Q W hR rs h => by
  unfold max2D at h
  split at h
  · obtain ⟨v, w, rfl, rv, rw'⟩ := reps2 rs
    have rv : v = .int _ := rv
    have rw' : w = .int _ := rw'
    subst rv rw'
    exact ⟨_, _, rfl, h.ok hR _ rfl⟩
  · exact h.elim
theorem cs_min2 : CallS N X.K min2D (fun xs H Q => ∃ i j, xs = [.int i, .int j] ∧ Q (.int (if j < i then j else i)) H) := fun ρ H st ds vs Q W hR rs h => by
  unfold min2D at h
  split at h
  · obtain ⟨v, w, rfl, rv, rw'⟩ := reps2 rs
    have rv : v = .int _ := rv
    have rw' : w = .int _ := rw'
    subst rv rw'
    exact ⟨_, _, rfl, h.ok hR _ rfl⟩
  · exact h.elim
/-- rows of ints -/
def intsOf : List D → Option (List Int)
  | [] => some []
  | .int i :: r => (intsOf r).map (i :: ·)
  | _ => none
theorem intsOf_ok : ∀ {ds : List D} {ns : List Int}, intsOf ds = some ns → ds = ns.map D.int
  | [], ns, h => by simp [intsOf] at h; subst h; rfl
  | d :: ds, ns, h => by
    unfold intsOf at h
    split at h
    · rename_i e; cases e
    · rename_i i r e
      cases e
      cases q : intsOf ds with
      | none => rw [q] at h; cases h
      | some ms =>
        rw [q] at h
        cases h
        rw [intsOf_ok q]; rfl
    · cases h
theorem Reps.ofInts {K : PySem.W.Frag} {ρ : List Addr} {H : Hp} : ∀ {ns : List Int} {vs : List V}, Reps K ρ H (ns.map D.int) vs → vs = ns.map V.int
  | [], vs, h => h
  | n :: ns, vs, h => by
    obtain ⟨v, r, rfl, h1, h2⟩ := h
    have h1 : v = .int n := h1
    rw [h1, Reps.ofInts h2]; rfl
def lstInts (s : S) : D → Option (List Int)
  | .ref n => match s[n]? with
    | some (.lst ds) => intsOf ds
    | _ => none
  | _ => none
theorem lstInts_ok {N : Nm} {K : PySem.W.Frag} {ρ : List Addr} {H : Hp} {st : S} {d : D} {v : V} {ns : List Int} (hR : Rel N K ρ H st) (h : lstInts st d = some ns) (r : Rep K ρ H d v) : ∃ a, v = .ref a ∧ H a = some (.lst (ns.map V.int)) := by
  unfold lstInts at h
  split at h
  · obtain ⟨a, ha, rfl⟩ := r
    split at h
    · rename_i ds h1
      obtain ⟨vs, e1, r1⟩ := ref_lst hR ha h1
      have e := intsOf_ok h
      subst e
      rw [Reps.ofInts r1] at e1
      exact ⟨a, rfl, e1⟩
    · cases h
  · cases h
def sumD : List D → M D
  | [d] => fun s => match lstInts s d with
    | some ns => .ok (.int ns.sum) s
    | none => .bad
  | _ => fun _ => .bad
theorem cs_sum : CallS N X.K sumD (rSum X.K) := fun ρ H st ds vs Q W hR rs h => by
  unfold sumD at h
  split at h <;> try dsimp only at h
  · obtain ⟨v, rfl, rv⟩ := reps1 rs
    split at h
    · rename_i ns hn
      obtain ⟨a, rfl, ha⟩ := lstInts_ok hR hn rv
      exact ⟨a, ns, rfl, SqL.of ha, h.ok hR _ rfl⟩
    · exact h.elim
  · exact h.elim
/-! ## dict(..) -/
def pairsOf : List D → Option (List (D × D))
  | [] => some []
  | .tup [k, v] :: r => if isKey k = true then (pairsOf r).map ((k, v) :: ·) else none
  | _ => none
def mergeD (kvs more : List (D × D)) : List (D × D) := more.foldl (fun acc kv => putD acc kv.1 kv.2) kvs
theorem pairsOf_ok {K : PySem.W.Frag} {ρ : List Addr} {H : Hp} : ∀ {ds : List D} {ps : List (D × D)} {vs : List V}, pairsOf ds = some ps → Reps K ρ H ds vs → ∃ (as : List Addr) (kvs : List (Key × V)), vs = as.map V.ref ∧ Paired (fun p kv => SqT K H p [kV kv.1, kv.2]) as kvs ∧ KVs K ρ H ps kvs
  | [], ps, vs, h, r => by
    simp [pairsOf] at h; subst h
    have r : vs = [] := r
    subst r
    exact ⟨[], [], rfl, .nil, rfl⟩
  | d :: ds, ps, vs, h, r => by
    obtain ⟨v, r0, rfl, h1, h2⟩ := r
    unfold pairsOf at h
    split at h
    · rename_i e; cases e
    · rename_i k w r e
      cases e
      by_cases hk : isKey k = true
      · rw [if_pos hk] at h
        cases q : pairsOf ds with
        | none => rw [q] at h; cases h
        | some ms =>
          rw [q] at h
          cases h
          obtain ⟨as, kvs, rfl, hp, hkv⟩ := pairsOf_ok q h2
          obtain ⟨a, ws, rfl, sa, ra⟩ := h1
          obtain ⟨x, y, rfl, rx, ry⟩ := reps2 ra
          obtain ⟨k', kr, rfl⟩ := isKey_ok hk rx
          exact ⟨a :: as, (k', y) :: kvs, rfl, .cons sa.sq hp, k', y, kvs, rfl, kr, ry, hkv⟩
      · rw [if_neg hk] at h; cases h
    · cases h
theorem KVs.merge {K : PySem.W.Frag} {ρ : List Addr} {H : Hp} : ∀ {ps : List (D × D)} {kvs : List (Key × V)} {acc : List (D × D)} {l : List (Key × V)}, KVs K ρ H ps kvs → KVs K ρ H acc l → KVs K ρ H (mergeD acc ps) (mergeK l kvs)
  | [], kvs, acc, l, h, q => by
    have h : kvs = [] := h
    subst h; exact q
  | (k, d) :: ps, kvs, acc, l, h, q => by
    obtain ⟨k', v, l', rfl, h1, h2, h3⟩ := h
    exact (show KVs K ρ H (mergeD (putD acc k d) ps) (mergeK (putK l k' v) l') from KVs.merge h3 (KVs.put h1 h2 q))
/-- of a tuple of pairs -/
theorem call_dictT (hcalm : X.calm = true) : CallR X (.type "dict") (fun xs H Q => ∃ (a : Addr) (ps : List Addr) (kvs : List (Key × V)), xs = [.ref a] ∧ TupN X.K H a (ps.map V.ref) ∧ Paired (fun p kv => SqT X.K H p [kV kv.1, kv.2]) ps kvs ∧
    ∀ p, H p = none → Q (.ref p) (upd H p (.dK (mergeK [] kvs)))) := fun pins s σ H xs us Q I r q => by
  obtain ⟨a, ps, kvs, rfl, hq, hp, q⟩ := q
  obtain ⟨u, rfl, rx⟩ := vals1 r
  cases rx
  obtain ⟨its, rv, ht, hz⟩ := I.tuple hq.sq
  have ei := refs_at rv
  subst ei
  rw [List.length_map] at hz
  obtain ⟨prs, rel, hl, hpr⟩ := pairs_of I hp
  have plain : PlainSeq "tuple" s.heap a (ps.map Value.ref).toArray := by
    obtain ⟨o, ho, hc, n, hd⟩ := ht
    refine ⟨o, n, ho, hc, ?_, hd⟩
    rcases hq with ⟨o', e, d⟩ | ⟨o', _, _, e, _, d, _⟩
    · have := (I.hok a _ e).1
      rw [ho] at this; cases this; exact d
    · have := I.kIn _ _ e
      rw [ho] at this; cases this; exact d
  have key : ∀ (j : Nat) (p : Key × Value), prs[j]? = some p → ∃ u, (ps.map Value.ref).toArray[j]? = some (.ref (ps.getD j 0)) ∧ PyProof.Rows.IsTup s.heap (ps.getD j 0) #[u, p.2] ∧ keyIs p.1 u = true := fun j p e => by
    obtain ⟨b, u, e1, e2, e3⟩ := hpr j p e
    have eb : ps.getD j 0 = b := by simp [List.getD, e1]
    rw [eb]
    exact ⟨u, by simp [e1], e2, e3⟩
  have keyU : ∃ ws : List (Value × Value), ws.length = prs.length ∧ ∀ (j : Nat) (p : Key × Value), prs[j]? = some p → ∃ u, ws[j]? = some (u, p.2) ∧ (ps.map Value.ref).toArray[j]? = some (.ref (ps.getD j 0)) ∧ PyProof.Rows.IsTup s.heap (ps.getD j 0) #[u, p.2] ∧ keyIs p.1 u = true := by
    have gen : ∀ (l : List (Key × Value)) (R : Nat → Key × Value → Value → Prop), (∀ (j : Nat) (p : Key × Value), l[j]? = some p → ∃ u, R j p u) → ∃ ws : List (Value × Value), ws.length = l.length ∧ ∀ (j : Nat) (p : Key × Value), l[j]? = some p → ∃ u, ws[j]? = some (u, p.2) ∧ R j p u := by
      intro l
      induction l with
      | nil => intro R _; exact ⟨[], rfl, fun j p e => by simp at e⟩
      | cons p l ih =>
        intro R h
        obtain ⟨ws, h1, h2⟩ := ih (fun j p u => R (j + 1) p u) fun j p e => h (j + 1) p (by simpa using e)
        obtain ⟨u, hu⟩ := h 0 p rfl
        refine ⟨(u, p.2) :: ws, by simp [h1], fun j q e => ?_⟩
        cases j with
        | zero => simp at e; subst e; exact ⟨u, rfl, hu⟩
        | succ j =>
          obtain ⟨u', a1, a2⟩ := h2 j q (by simpa using e)
          exact ⟨u', by simpa using a1, a2⟩
    exact gen prs _ key
  obtain ⟨ws, hwl, hws⟩ := keyU
  have items : PairItems s.heap (ps.map Value.ref).toArray (fun j => ps.getD j 0) ws := by
    refine ⟨by simp [hwl, hl], fun j k v e => ?_⟩
    have hj : j < prs.length := by rw [← hwl]; exact (List.getElem?_eq_some_iff.mp e).1
    obtain ⟨u, e1, e2, e3, _⟩ := hws j prs[j] (List.getElem?_eq_getElem hj)
    rw [e] at e1
    have e1 := Option.some.inj e1
    injection e1 with f1 f2
    rw [f1, f2]
    obtain ⟨o, ho, hc, n, hd⟩ := e3
    exact ⟨e2, .inl ⟨o, ho, hc, n, hd⟩⟩
  refine PySem.call_dict_pairs (knd := mixKind X.prog X.w) (kvs := prs) (PairArg.tuple a (ps.map Value.ref).toArray (fun j => ps.getD j 0) ws) (I.ok.hd hcalm) ⟨plain, items⟩ ⟨by rw [hwl], fun i key v e => ?_⟩ (by rw [hwl, hl]; exact hz) fun h' tk hd' k => ?_
  · have hj : i < prs.length := by rw [← hwl]; exact (List.getElem?_eq_some_iff.mp (show ws[i]? = some (key, v) from e)).1
    obtain ⟨u, e1, e2, e3, e4⟩ := hws i prs[i] (List.getElem?_eq_getElem hj)
    rw [show ws[i]? = some (key, v) from e] at e1
    have e1 := Option.some.inj e1
    injection e1 with f1 f2
    refine ⟨prs[i].1, ?_, by rw [f1]; exact e4⟩
    rw [List.getElem?_eq_getElem hj, f2]
  · have hm : (s.heap.objs.size == sysModules) = false := beq_eq_false_iff_ne.mpr (Nat.ne_of_gt I.big)
    have hlen : (mergeK [] kvs).length ≤ sizeLine := by
      refine Nat.le_trans (length_mergeK kvs []) ?_
      rw [List.length_nil, Nat.zero_add, rel.length, hl]
      exact hz
    exact ⟨.ref s.heap.objs.size, upd H s.heap.objs.size (.dK (mergeK [] kvs)), I.laid (t' := tk) (fun b o e => k b o (by simp) e) (Nat.le_refl _) (show ObjOk X.prog X.w _ _ _ (.dK (mergeK [] kvs)) from ⟨hlen, hm, merged [] prs, KV.merge rel .nil, hd'⟩), rfl, q _ (I.hok.fresh (Nat.le_refl _))⟩
def dictD : List D → M D
  | [.tup ds] => fun s => match pairsOf ds with
    | some ps => .ok (.ref s.length) (s ++ [.dct (mergeD [] ps)])
    | none => .bad
  | [.ref n] => fun s => match s[n]? with
    | some (.lst ds) => (match pairsOf ds with
      | some ps => .ok (.ref s.length) (s ++ [.dct (mergeD [] ps)])
      | none => .bad)
    | some (.dct kvs) => .ok (.ref s.length) (s ++ [.dct kvs])
    | _ => .bad
  | _ => fun _ => .bad
abbrev rDictA (K : PySem.W.Frag) : List V → Hp → VK → Prop := fun xs H Q => (∃ (a : Addr) (kvs : List (Key × V)), xs = [.ref a] ∧ Rd H a (.dK kvs) ∧ ∀ p, H p = none → Q (.ref p) (upd H p (.dK kvs))) ∨
  ((∃ (a : Addr) (ps : List Addr) (kvs : List (Key × V)), xs = [.ref a] ∧ SqL K H a (ps.map V.ref) ∧ Paired (fun p kv => SqT K H p [kV kv.1, kv.2]) ps kvs ∧ ∀ p, H p = none → Q (.ref p) (upd H p (.dK (mergeK [] kvs)))) ∨
  ∃ (a : Addr) (ps : List Addr) (kvs : List (Key × V)), xs = [.ref a] ∧ TupN K H a (ps.map V.ref) ∧ Paired (fun p kv => SqT K H p [kV kv.1, kv.2]) ps kvs ∧ ∀ p, H p = none → Q (.ref p) (upd H p (.dK (mergeK [] kvs))))
theorem call_dictA (hc : X.calm = true) : CallR X (.type "dict") (rDictA X.K) := CallR.or call_dictD (CallR.or (call_dictP hc) (call_dictT hc))
theorem cs_dict : CallS N X.K dictD (rDictA X.K) := fun ρ H st ds vs Q W hR rs h => by
  unfold dictD at h
  split at h <;> try dsimp only at h
  · obtain ⟨v, rfl, rv⟩ := reps1 rs
    obtain ⟨a, vs, rfl, sa, ra⟩ := rv
    split at h
    · rename_i ps hp
      obtain ⟨as, kvs, rfl, hpr, hkv⟩ := pairsOf_ok hp ra
      exact .inr (.inr ⟨a, as, kvs, rfl, sa, hpr, fun p hp => h.dct hR (KVs.merge (acc := []) (l := []) hkv rfl) hp⟩)
    · exact h.elim
  · obtain ⟨v, rfl, rv⟩ := reps1 rs
    obtain ⟨a, ha, rfl⟩ := rv
    split at h
    · rename_i h1
      obtain ⟨vs, e1, r1⟩ := ref_lst hR ha h1
      split at h
      · rename_i ps hp
        obtain ⟨as, kvs, rfl, hpr, hkv⟩ := pairsOf_ok hp r1
        exact .inr (.inl ⟨a, as, kvs, rfl, SqL.of e1, hpr, fun p hp => h.dct hR (KVs.merge (acc := []) (l := []) hkv rfl) hp⟩)
      · exact h.elim
    · rename_i h1
      obtain ⟨l, g1, g2⟩ := hR.obj _ _ _ ha h1
      exact .inl ⟨a, l, rfl, .inl g1, fun p hp => h.dct hR g2 hp⟩
    · exact h.elim
  · exact h.elim
/-! ## isinstance by a built-in class -/
def tyD (s : S) : D → Option String
  | .non => some "NoneType"
  | .bl _ => some "bool"
  | .int _ => some "int"
  | .str _ => some "str"
  | .tup _ => some "tuple"
  | .scr _ => some "list"
  | .ref n => match s[n]? with
    | some (.lst _) => some "list"
    | some (.dct _) => some "dict"
    | _ => none
theorem tyD_ok {N : Nm} {K : PySem.W.Frag} {ρ : List Addr} {H : Hp} {st : S} {d : D} {v : V} {T : String} (hR : Rel N K ρ H st) (h : tyD st d = some T) (r : Rep K ρ H d v) : TyX K H v (.type T) := by
  cases d with
  | non => cases h; have r : v = .non := r; subst r; exact .base .non
  | bl b => cases h; have r : v = .bl b := r; subst r; exact .base (.bl b)
  | int b => cases h; have r : v = .int b := r; subst r; exact .base (.int b)
  | str b => cases h; have r : v = .str b := r; subst r; exact .base (.str b)
  | tup ds =>
    cases h
    obtain ⟨a, vs, rfl, sa, _⟩ := r
    rcases sa with ⟨o, e, _⟩ | ⟨o, _, _, e, c, _⟩
    · exact .fTuple e
    · exact .kTuple e c
  | scr ns =>
    cases h
    obtain ⟨a, rfl, h1⟩ := r
    rcases h1 with ⟨o, e⟩ | ⟨o, _, _, e, c, _⟩
    · exact .base (.frz e)
    · exact .kList e c
  | ref n =>
    obtain ⟨a, ha, rfl⟩ := r
    unfold tyD at h
    dsimp only at h
    split at h
    · rename_i h1
      cases h
      obtain ⟨vs, e1, r1⟩ := ref_lst hR ha h1
      exact .base (.lst e1)
    · rename_i h1
      cases h
      obtain ⟨l, g1, g2⟩ := hR.obj _ _ _ ha h1
      exact .base (.dK g1)
    · cases h
def isT (a b : String) : Bool := a == b || (a == "bool" && b == "int")
def isTy (T : String) : Bool := T == "int" || T == "bool" || T == "str" || T == "tuple" || T == "list"
def isiE (T : String) (f : Ev → M D) : Ev → M D := fun η st => (f η st).bind fun d s1 => match tyD s1 d with
  | some t => .ok (.bl (isT t T)) s1
  | none => .bad
theorem kit_all {K : PySem.W.Frag} {t T : String} (h1 : t = "NoneType" ∨ t = "bool" ∨ t = "int" ∨ t = "str" ∨ t = "tuple" ∨ t = "list" ∨ t = "dict") (h2 : isTy T = true) : PySem.W.kitOne K (.type t) (.type T) = some (isT t T) := by
  have h3 : T = "int" ∨ T = "bool" ∨ T = "str" ∨ T = "tuple" ∨ T = "list" := by
    simp only [isTy, Bool.or_eq_true, beq_iff_eq] at h2
    rcases h2 with (((h | h) | h) | h) | h <;> simp [h]
  refine kit_ty ?_
  rcases h1 with rfl | rfl | rfl | rfl | rfl | rfl | rfl <;> rcases h3 with rfl | rfl | rfl | rfl | rfl <;> decide +kernel
theorem tyD_cases {st : S} {d : D} {T : String} (h : tyD st d = some T) : T = "NoneType" ∨ T = "bool" ∨ T = "int" ∨ T = "str" ∨ T = "tuple" ∨ T = "list" ∨ T = "dict" := by
  cases d <;> simp only [tyD] at h
  all_goals first
    | (cases h; simp; done)
    | (split at h <;> first | (cases h; simp; done) | cases h)
theorem se_isi {T : Str} {T' : String} {p1 : Pos} (hT : isTy T' = true) (ha : SE N W X a fa)
    (h : PE X (.Call (.Name "isinstance" p) [a, .Name T p1] [] pos) (tCB (rIsi X.K) (tCons (tOf N W X.K fa) (tCons (tC (.ty T')) tNil)))) : SE N W X (.Call (.Name "isinstance" p) [a, .Name T p1] [] pos) (isiE T' fa) :=
  PE.imp h fun σ H Q ⟨η, st, ρ, hE, hR, hP⟩ => ⟨η, st, ρ, hE, hR, Post.bind hP fun d s1 ρ1 H1 e1 r1 p1 v rv => by
    split at p1
    · rename_i t ht
      exact ⟨v, .ty T', .type t, .type T', _, rfl, .ty T', tyD_ok r1 ht rv, kit_all (tyD_cases ht) hT, p1.ok r1 _ rfl⟩
    · exact p1.elim⟩
/-! ## len(set(xs)) -/
def dedupI (ns : List Int) : List Int := ns.foldl PyProof.Rows.step_dedup []
theorem dedup_met (ns : List Int) : PyProof.Rows.firstMet (fun i => ns.getD i 0) ns.length = dedupI ns := by
  unfold PyProof.Rows.firstMet dedupI
  congr 1
  refine List.ext_getElem? fun i => ?_
  rw [List.getElem?_map]
  by_cases h : i < ns.length
  · rw [List.getElem?_range h]
    simp [List.getD, h]
  · rw [List.getElem?_eq_none (by simpa using h), List.getElem?_eq_none (by simpa using h)]; rfl
theorem dedup_le : ∀ (ns acc : List Int), (ns.foldl PyProof.Rows.step_dedup acc).length ≤ acc.length + ns.length
  | [], acc => by simp
  | n :: ns, acc => by
    rw [List.foldl_cons]
    refine Nat.le_trans (dedup_le ns _) ?_
    unfold PyProof.Rows.step_dedup
    split
    · simp
    · simp
      omega
def lenSetE (f : Ev → M D) : Ev → M D := fun η st => (f η st).bind fun d s1 => match lstInts s1 d with
  | some ns => if ns.length ≤ 4000 then .ok (.int (dedupI ns).length) s1 else .bad
  | none => .bad
theorem se_lenSet {p2 q : Pos} (hg : Gl X "len") (hm : X.mg "len" = none) (hg2 : Gl X "set") (hm2 : X.mg "set" = none) (hc : X.calm = true) (ha : SE N W X a fa)
    (na : starEach [a] X.env = (false, eval a X.env) :: starEach [] X.env := by rfl) : SE N W X (.Call (.Name "len" p) [.Call (.Name "set" p2) [a] [] q] [] pos) (lenSetE fa) := by
  refine ⟨fun pins s σ H Q I h => ?_⟩
  obtain ⟨η, st, ρ, hE, hR, hP⟩ := h
  refine PyProof.Rows.Call_ (ld_blt I hg hm boot_len ?_)
  refine PyProof.Rows.callWith_builtin1 (PyProof.Rows.args_cons ?_ rfl) rfl rfl
  refine PyProof.Rows.Call_ (ld_blt I hg2 hm2 PyProof.Rows.boot_set ?_)
  refine PyProof.Rows.callWith_type1 (PyProof.Rows.args_cons (thn (ha.run pins s σ H (fun v H1 => ∃ (l : Addr) (ns : List Int), v = .ref l ∧ H1 l = some (.lst (ns.map V.int)) ∧ ns.length ≤ 4000 ∧ Q (.int (dedupI ns).length) H1) I
    ⟨η, st, ρ, hE, hR, Post.bind hP fun d s1 ρ1 H1 e1 r1 p1 v rv => ?_⟩) fun v s1 ⟨x, H1, I1, r1, q1⟩ => PyProof.Rows.args_nil ?_) na) na rfl
  · split at p1
    · rename_i ns hn
      obtain ⟨hl, p1⟩ := p1.ite
      obtain ⟨l, rfl, hl2⟩ := lstInts_ok r1 hn rv
      exact ⟨l, ns, rfl, hl2, hl, p1.ok r1 _ rfl⟩
    · exact p1.elim
  · obtain ⟨l, ns, rfl, hq, hnd, q1⟩ := q1
    cases r1
    obtain ⟨its, r, pl, hz⟩ := I1.list (SqL.of hq)
    have hlen : its.toArray.size = ns.length := by rw [List.size_toArray, ← r.length, List.length_map]
    have hle : (dedupI ns).length ≤ 4000 := Nat.le_trans (dedup_le ns []) (by simpa using hnd)
    refine call_set_list (I1.ok.hd hc) pl.isList (by simpa using r.ints) (by rw [hlen]; unfold scanBound; omega) fun h' tk hS hk => ?_
    refine PyProof.Rows.args_nil ?_
    rw [hlen, dedup_met] at hS
    obtain ⟨o, es, ep, t, ho, hex, hd, _, _, _, hf, hn⟩ := hS
    have I2 : Inv X pins σ H1 { s1 with heap := h', toks := tk } := I1.kept fun b o e => hk b o (Heap.lt_size e) e
    exact call_len_set ho hex hd hf (by rw [hn]; omega) ⟨.int (dedupI ns).length, H1, I2.tok _, ⟨_, by rw [hn]⟩, q1⟩
end
end Mi
set_option Elab.async false
set_option linter.all false
set_option maxRecDepth 100000
set_option maxHeartbeats 1000000
namespace Mi
open PySem L2
/-! ## references -/
mutual
def D.refs : D → List Nat
  | .tup ds => refsL ds
  | .ref n => [n]
  | _ => []
def refsL : List D → List Nat
  | [] => []
  | d :: ds => d.refs ++ refsL ds
end
def refsKV : List (D × D) → List Nat
  | [] => []
  | (_, d) :: r => d.refs ++ refsKV r
def refsFs : List (Nat × D) → List Nat
  | [] => []
  | (_, d) :: r => d.refs ++ refsFs r
def O.refs : O → List Nat
  | .lst ds => refsL ds
  | .dct kvs => refsKV kvs
  | .ins _ fs => refsFs fs
mutual
def D.mp (f : Nat → Nat) : D → D
  | .tup ds => .tup (mpL f ds)
  | .ref n => .ref (f n)
  | .non => .non
  | .bl b => .bl b
  | .int i => .int i
  | .str x => .str x
  | .scr ns => .scr ns
def mpL (f : Nat → Nat) : List D → List D
  | [] => []
  | d :: ds => d.mp f :: mpL f ds
end
def mpKV (f : Nat → Nat) : List (D × D) → List (D × D)
  | [] => []
  | (k, d) :: r => (k, d.mp f) :: mpKV f r
def mpFs (f : Nat → Nat) : List (Nat × D) → List (Nat × D)
  | [] => []
  | (k, d) :: r => (k, d.mp f) :: mpFs f r
def O.mp (f : Nat → Nat) : O → O
  | .lst ds => .lst (mpL f ds)
  | .dct kvs => .dct (mpKV f kvs)
  | .ins c fs => .ins c (mpFs f fs)
section
variable {N : Nm} {K : PySem.W.Frag} {ρ ρ' : List Addr} {H : Hp}
mutual
theorem Rep.mp {f : Nat → Nat} : ∀ (d : D) (v : V), (∀ i ∈ d.refs, ρ'[f i]? = ρ[i]?) → Rep K ρ H d v → Rep K ρ' H (d.mp f) v
  | .non, _, _, h => h
  | .bl _, _, _, h => h
  | .int _, _, _, h => h
  | .str _, _, _, h => h
  | .scr _, _, _, h => h
  | .tup ds, v, q, h => by
    obtain ⟨a, vs, e, s, r⟩ := h
    exact ⟨a, vs, e, s, Reps.mp ds vs q r⟩
  | .ref n, v, q, h => by
    obtain ⟨a, e, r⟩ := h
    exact ⟨a, (q n (by simp [D.refs])).trans e, r⟩
theorem Reps.mp {f : Nat → Nat} : ∀ (ds : List D) (vs : List V), (∀ i ∈ refsL ds, ρ'[f i]? = ρ[i]?) → Reps K ρ H ds vs → Reps K ρ' H (mpL f ds) vs
  | [], _, _, h => h
  | d :: ds, vs, q, h => by
    obtain ⟨v, r, e, h1, h2⟩ := h
    exact ⟨v, r, e, Rep.mp d v (fun i hi => q i (by simp [refsL, hi])) h1, Reps.mp ds r (fun i hi => q i (by simp [refsL, hi])) h2⟩
end
theorem KVs.mp {f : Nat → Nat} : ∀ (kvs : List (D × D)) (l : List (Key × V)), (∀ i ∈ refsKV kvs, ρ'[f i]? = ρ[i]?) → KVs K ρ H kvs l → KVs K ρ' H (mpKV f kvs) l
  | [], _, _, h => h
  | (k, d) :: r, l, q, h => by
    obtain ⟨k', v, l', e, h1, h2, h3⟩ := h
    exact ⟨k', v, l', e, h1, Rep.mp d v (fun i hi => q i (by simp [refsKV, hi])) h2, KVs.mp r l' (fun i hi => q i (by simp [refsKV, hi])) h3⟩
theorem Fls.mp {f : Nat → Nat} : ∀ (kvs : List (Nat × D)) (l : List (Str × V)), (∀ i ∈ refsFs kvs, ρ'[f i]? = ρ[i]?) → Fls N K ρ H kvs l → Fls N K ρ' H (mpFs f kvs) l
  | [], _, _, h => h
  | (k, d) :: r, l, q, h => by
    obtain ⟨k', v, l', e, h1, h2, h3⟩ := h
    exact ⟨k', v, l', e, h1, Rep.mp d v (fun i hi => q i (by simp [refsFs, hi])) h2, Fls.mp r l' (fun i hi => q i (by simp [refsFs, hi])) h3⟩
theorem ORel.mp {f : Nat → Nat} {a : Addr} : ∀ {o : O}, (∀ i ∈ o.refs, ρ'[f i]? = ρ[i]?) → ORel N K ρ H a o → ORel N K ρ' H a (o.mp f)
  | .lst ds, q, h => by
    obtain ⟨vs, h1, h2⟩ := h
    exact ⟨vs, h1, Reps.mp _ _ q h2⟩
  | .dct ds, q, h => by
    obtain ⟨vs, h1, h2⟩ := h
    exact ⟨vs, h1, KVs.mp _ _ q h2⟩
  | .ins c ds, q, h => by
    obtain ⟨dx, vs, h1, h2, h3⟩ := h
    exact ⟨dx, vs, h1, Fls.mp _ _ q h2, h3⟩
mutual
theorem mp_id : ∀ (d : D), d.mp (fun i => i) = d
  | .non => rfl
  | .bl _ => rfl
  | .int _ => rfl
  | .str _ => rfl
  | .scr _ => rfl
  | .ref _ => rfl
  | .tup ds => by rw [D.mp, mpL_id ds]
theorem mpL_id : ∀ (ds : List D), mpL (fun i => i) ds = ds
  | [] => rfl
  | d :: ds => by rw [mpL, mp_id d, mpL_id ds]
end
theorem mpKV_id : ∀ (ds : List (D × D)), mpKV (fun i => i) ds = ds
  | [] => rfl
  | (k, d) :: ds => by rw [mpKV, mp_id d, mpKV_id ds]
theorem mpFs_id : ∀ (ds : List (Nat × D)), mpFs (fun i => i) ds = ds
  | [] => rfl
  | (k, d) :: ds => by rw [mpFs, mp_id d, mpFs_id ds]
theorem O.mp_id : ∀ (o : O), o.mp (fun i => i) = o
  | .lst ds => by rw [O.mp, mpL_id]
  | .dct ds => by rw [O.mp, mpKV_id]
  | .ins c ds => by rw [O.mp, mpFs_id]
theorem Rep.sub {d : D} {v : V} (q : ∀ i ∈ d.refs, ρ'[i]? = ρ[i]?) (h : Rep K ρ H d v) : Rep K ρ' H d v := by
  have := Rep.mp (f := fun i => i) d v q h
  rw [Mi.mp_id] at this; exact this
theorem ORel.sub {o : O} {a : Addr} (q : ∀ i ∈ o.refs, ρ'[i]? = ρ[i]?) (h : ORel N K ρ H a o) : ORel N K ρ' H a o := by
  have := ORel.mp (f := fun i => i) q h
  rw [O.mp_id] at this; exact this
end
/-! ## equality of objects, by a test -/
mutual
def beqD : D → D → Bool
  | .non, .non => true
  | .bl a, .bl b => a == b
  | .int a, .int b => decide (a = b)
  | .str a, .str b => decide (a = b)
  | .tup a, .tup b => beqL a b
  | .ref a, .ref b => decide (a = b)
  | .scr a, .scr b => decide (a = b)
  | _, _ => false
def beqL : List D → List D → Bool
  | [], [] => true
  | a :: as, b :: bs => beqD a b && beqL as bs
  | _, _ => false
end
mutual
theorem beqD_eq : ∀ (a b : D), beqD a b = true → a = b
  | .non, b, h => by cases b <;> first | rfl | (simp [beqD] at h; done)
  | .bl x, b, h => by cases b <;> first | (simp [beqD] at h; rw [h]; done) | (simp [beqD] at h; done)
  | .int x, b, h => by cases b <;> first | (simp [beqD] at h; rw [h]; done) | (simp [beqD] at h; done)
  | .str x, b, h => by cases b <;> first | (simp [beqD] at h; rw [h]; done) | (simp [beqD] at h; done)
  | .ref x, b, h => by cases b <;> first | (simp [beqD] at h; rw [h]; done) | (simp [beqD] at h; done)
  | .scr x, b, h => by cases b <;> first | (simp [beqD] at h; rw [h]; done) | (simp [beqD] at h; done)
  | .tup x, b, h => by
    cases b with
    | tup y => simp only [beqD] at h; rw [beqL_eq x y h]
    | _ => simp [beqD] at h
theorem beqL_eq : ∀ (a b : List D), beqL a b = true → a = b
  | [], [], _ => rfl
  | a :: as, b :: bs, h => by
    simp only [beqL, Bool.and_eq_true] at h
    rw [beqD_eq a b h.1, beqL_eq as bs h.2]
  | [], _ :: _, h => by simp [beqL] at h
  | _ :: _, [], h => by simp [beqL] at h
end
mutual
theorem beqD_refl : ∀ (a : D), beqD a a = true
  | .non => rfl
  | .bl x => by simp [beqD]
  | .int x => by simp [beqD]
  | .str x => by simp [beqD]
  | .ref x => by simp [beqD]
  | .scr x => by simp [beqD]
  | .tup x => by simp only [beqD]; exact beqL_refl x
theorem beqL_refl : ∀ (a : List D), beqL a a = true
  | [] => rfl
  | a :: as => by simp only [beqL, beqD_refl a, beqL_refl as, Bool.and_self]
end
def beqKV : List (D × D) → List (D × D) → Bool
  | [], [] => true
  | (a, b) :: r, (c, d) :: s => beqD a c && beqD b d && beqKV r s
  | _, _ => false
def beqFs : List (Nat × D) → List (Nat × D) → Bool
  | [], [] => true
  | (a, b) :: r, (c, d) :: s => decide (a = c) && beqD b d && beqFs r s
  | _, _ => false
theorem beqKV_eq : ∀ (a b : List (D × D)), beqKV a b = true → a = b
  | [], [], _ => rfl
  | (a, b) :: r, (c, d) :: s, h => by
    simp only [beqKV, Bool.and_eq_true] at h
    rw [beqD_eq a c h.1.1, beqD_eq b d h.1.2, beqKV_eq r s h.2]
  | [], _ :: _, h => by simp [beqKV] at h
  | _ :: _, [], h => by simp [beqKV] at h
theorem beqFs_eq : ∀ (a b : List (Nat × D)), beqFs a b = true → a = b
  | [], [], _ => rfl
  | (a, b) :: r, (c, d) :: s, h => by
    simp only [beqFs, Bool.and_eq_true, decide_eq_true_eq] at h
    rw [h.1.1, beqD_eq b d h.1.2, beqFs_eq r s h.2]
  | [], _ :: _, h => by simp [beqFs] at h
  | _ :: _, [], h => by simp [beqFs] at h
theorem beqKV_refl : ∀ (a : List (D × D)), beqKV a a = true
  | [] => rfl
  | (a, b) :: r => by simp only [beqKV, beqD_refl, beqKV_refl r, Bool.and_self]
theorem beqFs_refl : ∀ (a : List (Nat × D)), beqFs a a = true
  | [] => rfl
  | (a, b) :: r => by simp only [beqFs, beqD_refl, beqFs_refl r, Bool.and_self, decide_true]
def beqO : O → O → Bool
  | .lst a, .lst b => beqL a b
  | .dct a, .dct b => beqKV a b
  | .ins c a, .ins d b => decide (c = d) && beqFs a b
  | _, _ => false
theorem beqO_eq : ∀ (a b : O), beqO a b = true → a = b
  | .lst a, .lst b, h => by simp only [beqO] at h; rw [beqL_eq a b h]
  | .dct a, .dct b, h => by simp only [beqO] at h; rw [beqKV_eq a b h]
  | .ins c a, .ins d b, h => by
    simp only [beqO, Bool.and_eq_true, decide_eq_true_eq] at h
    rw [h.1, beqFs_eq a b h.2]
  | .lst _, .dct _, h => by simp [beqO] at h
  | .lst _, .ins _ _, h => by simp [beqO] at h
  | .dct _, .lst _, h => by simp [beqO] at h
  | .dct _, .ins _ _, h => by simp [beqO] at h
  | .ins _ _, .lst _, h => by simp [beqO] at h
  | .ins _ _, .dct _, h => by simp [beqO] at h
theorem beqO_refl : ∀ (a : O), beqO a a = true
  | .lst a => by simp only [beqO, beqL_refl]
  | .dct a => by simp only [beqO, beqKV_refl]
  | .ins c a => by simp only [beqO, beqFs_refl, decide_true, Bool.and_self]
/-! ## what a call leaves behind -/
def below (n : Nat) (l : List Nat) : Bool := l.all fun i => decide (i < n)
/-- the old objects: as they were, or with old references alone -/
def okOld (n : Nat) : List O → List O → Bool
  | [], [] => true
  | o :: os, p :: ps => (below n o.refs || beqO o p) && okOld n os ps
  | _, _ => false
def dedN : List Nat → List Nat
  | [] => []
  | a :: l => a :: (dedN l).filter fun b => decide (b ≠ a)
theorem mem_dedN {x : Nat} : ∀ {l : List Nat}, x ∈ dedN l ↔ x ∈ l
  | [] => Iff.rfl
  | a :: l => by
    rw [dedN, List.mem_cons, List.mem_cons, List.mem_filter, mem_dedN (l := l)]
    by_cases h : x = a
    · simp [h]
    · simp [h]
theorem nodup_dedN : ∀ (l : List Nat), (dedN l).Nodup
  | [] => List.nodup_nil
  | a :: l => by
    rw [dedN]
    refine List.nodup_cons.mpr ⟨fun h => ?_, (nodup_dedN l).filter _⟩
    have := (List.mem_filter.mp h).2
    simp at this
def idxN : List Nat → Nat → Nat
  | [], _ => 0
  | b :: l, a => if b = a then 0 else idxN l a + 1
theorem get_idxN {a : Nat} : ∀ {l : List Nat}, a ∈ l → l[idxN l a]? = some a
  | [], h => by cases h
  | b :: l, h => by
    rw [idxN]
    by_cases e : b = a
    · rw [if_pos e, e]; rfl
    · rw [if_neg e]
      have : a ∈ l := (List.mem_cons.mp h).resolve_left fun z => e z.symm
      simpa using get_idxN this
def newRefs (n : Nat) (d : D) : List Nat := dedN (d.refs.filter fun i => decide (n ≤ i))
def renum (n : Nat) (rs : List Nat) (i : Nat) : Nat := if i < n then i else n + idxN rs i
def gc (st0 : S) (r : R D) : R D := match r with
  | .ok d st => if okOld st0.length (st.take st0.length) st0 = true then
      (if below st0.length d.refs = true then .ok d (st.take st0.length)
      else if ((newRefs st0.length d).all fun i => match st[i]? with
          | some o => below st0.length o.refs
          | none => false) = true then .ok (d.mp (renum st0.length (newRefs st0.length d))) (st.take st0.length ++ (newRefs st0.length d).filterMap fun i => st[i]?)
      else .ok d st)
    else .ok d st
  | .ex c fs st => if (okOld st0.length (st.take st0.length) st0 && below st0.length (refsFs fs)) = true then .ex c fs (st.take st0.length) else .ex c fs st
  | .bad => .bad
theorem okOld_refl (n : Nat) : ∀ (st : S), okOld n st st = true
  | [] => rfl
  | o :: st => by simp only [okOld, beqO_refl, okOld_refl n st, Bool.or_true, Bool.and_self]
theorem okOld_set (n : Nat) {o : O} (h : below n o.refs = true) : ∀ (st : S) (i : Nat), okOld n (st.set i o) st = true
  | [], i => rfl
  | p :: st, 0 => by simp only [List.set_cons_zero, okOld, h, Bool.true_or, okOld_refl n st, Bool.and_self]
  | p :: st, i + 1 => by simp only [List.set_cons_succ, okOld, beqO_refl, okOld_set n h st i, Bool.or_true, Bool.and_self]
theorem okOld_get {n : Nat} : ∀ {as bs : List O} {i : Nat} {o : O}, okOld n as bs = true → as[i]? = some o → (bs[i]? = some o ∨ below n o.refs = true)
  | [], _, _, _, _, h => by simp at h
  | a :: as, [], _, _, h, _ => by simp [okOld] at h
  | a :: as, b :: bs, 0, o, h, q => by
    simp only [okOld, Bool.and_eq_true, Bool.or_eq_true] at h
    simp at q; subst q
    rcases h.1 with e | e
    · right; exact e
    · left; rw [beqO_eq _ _ e]; rfl
  | a :: as, b :: bs, i + 1, o, h, q => by
    simp only [okOld, Bool.and_eq_true] at h
    simpa using okOld_get (i := i) h.2 (by simpa using q)
section
variable {N : Nm} {K : PySem.W.Frag} {ρ ρ' : List Addr} {H H' : Hp}
mutual
theorem Rep.below : ∀ (d : D) (v : V), Rep K ρ H d v → Mi.below ρ.length d.refs = true
  | .non, _, _ => rfl
  | .bl _, _, _ => rfl
  | .int _, _, _ => rfl
  | .str _, _, _ => rfl
  | .scr _, _, _ => rfl
  | .tup ds, v, h => by
    obtain ⟨a, vs, e, s, r⟩ := h
    exact Reps.below ds vs r
  | .ref n, v, h => by
    obtain ⟨a, e, r⟩ := h
    have := (List.getElem?_eq_some_iff.mp e).1
    simp [Mi.below, D.refs, this]
theorem Reps.below : ∀ (ds : List D) (vs : List V), Reps K ρ H ds vs → Mi.below ρ.length (refsL ds) = true
  | [], _, _ => rfl
  | d :: ds, vs, h => by
    obtain ⟨v, r, e, h1, h2⟩ := h
    have a := Rep.below d v h1
    have b := Reps.below ds r h2
    unfold Mi.below at a b ⊢
    rw [refsL, List.all_append, a, b]; rfl
end
theorem KVs.below : ∀ (ds : List (D × D)) (vs : List (Key × V)), KVs K ρ H ds vs → Mi.below ρ.length (refsKV ds) = true
  | [], _, _ => rfl
  | (k, d) :: ds, vs, h => by
    obtain ⟨k', v, r, e, _, h1, h2⟩ := h
    have a := Rep.below d v h1
    have b := KVs.below ds r h2
    unfold Mi.below at a b ⊢
    rw [refsKV, List.all_append, a, b]; rfl
theorem Fls.below : ∀ (ds : List (Nat × D)) (vs : List (Str × V)), Fls N K ρ H ds vs → Mi.below ρ.length (refsFs ds) = true
  | [], _, _ => rfl
  | (k, d) :: ds, vs, h => by
    obtain ⟨k', v, r, e, _, h1, h2⟩ := h
    have a := Rep.below d v h1
    have b := Fls.below ds r h2
    unfold Mi.below at a b ⊢
    rw [refsFs, List.all_append, a, b]; rfl
theorem ORel.below {a : Addr} : ∀ {o : O}, ORel N K ρ H a o → Mi.below ρ.length o.refs = true
  | .lst ds, h => by obtain ⟨vs, _, h2⟩ := h; exact Reps.below _ _ h2
  | .dct ds, h => by obtain ⟨vs, _, h2⟩ := h; exact KVs.below _ _ h2
  | .ins c ds, h => by obtain ⟨dx, vs, _, h2, _⟩ := h; exact Fls.below _ _ h2
theorem below_mem {n : Nat} {l : List Nat} (h : Mi.below n l = true) {i : Nat} (hi : i ∈ l) : i < n := of_decide_eq_true (List.all_eq_true.mp h i hi)
theorem pre_get (h : ρ <+: ρ') {i : Nat} (hi : i < ρ.length) : ρ[i]? = ρ'[i]? := by
  obtain ⟨t, rfl⟩ := h
  rw [List.getElem?_append_left hi]
theorem Ext.cut (x : Ext ρ H ρ' H') : Ext ρ H ρ H' := ⟨List.prefix_rfl, fun _ h n => absurd h n, x.tup, x.frz, x.out⟩
/-- the old objects alone -/
theorem Rel.cut {st st0 : S} (r0 : Rel N K ρ H st0) (x : Ext ρ H ρ' H') (r : Rel N K ρ' H' st) (h : okOld st0.length (st.take st0.length) st0 = true) : Rel N K ρ H' (st.take st0.length) where
  len := by
    have h1 := r.len
    have h2 := x.pre.length_le
    have h3 := r0.len
    rw [List.length_take]; omega
  nd := r0.nd
  obj := fun i a o h1 h2 => by
    have hi : i < ρ.length := (List.getElem?_eq_some_iff.mp h1).1
    have h2' : st[i]? = some o := by
      rw [List.getElem?_take] at h2
      split at h2
      · exact h2
      · cases h2
    have ob := r.obj i a o (get_pre x.pre h1) h2'
    refine ORel.sub (ρ := ρ') (fun j hj => pre_get x.pre ?_) ob
    rcases okOld_get h h2 with e | e
    · exact below_mem (r0.obj i a o h1 e).below hj
    · rw [r0.len]; exact below_mem e hj
  zz := fun z hz => (r0.zz z hz).ext r0 x.cut
  tabs := r.tabs
theorem map_get {ρ' : List Addr} : ∀ (rs : List Nat), (∀ i ∈ rs, i < ρ'.length) → ∀ (j i : Nat), rs[j]? = some i → (rs.filterMap fun i => ρ'[i]?)[j]? = ρ'[i]?
  | [], _, j, i, h => by simp at h
  | r :: rs, hl, j, i, h => by
    have hr : r < ρ'.length := hl r (by simp)
    have e : ρ'[r]? = some ρ'[r] := List.getElem?_eq_getElem hr
    rw [List.filterMap_cons, e]
    cases j with
    | zero => simp at h; subst h; simp
    | succ j => simpa using map_get rs (fun i hi => hl i (by simp [hi])) j i (by simpa using h)
theorem fm_length {α : Type} {l : List α} : ∀ (rs : List Nat), (∀ i ∈ rs, i < l.length) → (rs.filterMap fun i => l[i]?).length = rs.length
  | [], _ => rfl
  | r :: rs, hl => by
    rw [List.filterMap_cons, List.getElem?_eq_getElem (hl r (by simp))]
    simp [fm_length rs fun i hi => hl i (by simp [hi])]
theorem fm_mem {ρ' : List Addr} {rs : List Nat} {a : Addr} (h : a ∈ rs.filterMap fun i => ρ'[i]?) : ∃ i ∈ rs, ρ'[i]? = some a := by
  obtain ⟨i, h1, h2⟩ := List.mem_filterMap.mp h
  exact ⟨i, h1, h2⟩
theorem map_getO {st : S} : ∀ (rs : List Nat), (∀ i ∈ rs, i < st.length) → ∀ (j i : Nat), rs[j]? = some i → (rs.filterMap fun i => st[i]?)[j]? = st[i]?
  | [], _, j, i, h => by simp at h
  | r :: rs, hl, j, i, h => by
    have hr : r < st.length := hl r (by simp)
    have e : st[r]? = some st[r] := List.getElem?_eq_getElem hr
    rw [List.filterMap_cons, e]
    cases j with
    | zero => simp at h; subst h; simp
    | succ j => simpa using map_getO rs (fun i hi => hl i (by simp [hi])) j i (by simpa using h)
theorem fm_nodup {ρ' : List Addr} (nd : ρ'.Nodup) : ∀ (rs : List Nat), rs.Nodup → (rs.filterMap fun i => ρ'[i]?).Nodup
  | [], _ => by simp
  | r :: rs, h => by
    rw [List.nodup_cons] at h
    rw [List.filterMap_cons]
    cases e : ρ'[r]? with
    | none => simpa using fm_nodup nd rs h.2
    | some a =>
      refine List.nodup_cons.mpr ⟨fun hm => ?_, fm_nodup nd rs h.2⟩
      obtain ⟨i, hi, e2⟩ := fm_mem hm
      obtain ⟨g1, g2⟩ := List.getElem?_eq_some_iff.mp e
      obtain ⟨g3, g4⟩ := List.getElem?_eq_some_iff.mp e2
      have : r = i := (List.getElem_inj nd).mp (g2.trans g4.symm)
      exact h.1 (this ▸ hi)
theorem gc_post {st0 : S} {r : R D} {Q : VK} {W : XW} (r0 : Rel N K ρ H st0) (h : Post N K ρ H (gc st0 r) (kD K Q) W) : Post N K ρ H r (kD K Q) W := by
  cases r with
  | bad => exact h
  | ex c fs st =>
    simp only [gc] at h
    split at h
    · rename_i hc
      obtain ⟨h1, h2⟩ := Bool.and_eq_true_iff.mp hc
      refine fun ρ' H' dx x rl q => h ρ H' dx x.cut (r0.cut x rl h1) ?_
      rcases q with q | ⟨a, l, q1, q2, q3⟩
      · exact .inl q
      · refine .inr ⟨a, l, q1, q2, fun n d hd => ?_⟩
        obtain ⟨y, v, g1, g2, g3⟩ := q3 n d hd
        refine ⟨y, v, g1, g2, Rep.sub (ρ := ρ') (fun i hi => pre_get x.pre ?_) g3⟩
        rw [r0.len]
        refine below_mem h2 ?_
        have key : ∀ (l : List (Nat × D)), l.lookup n = some d → i ∈ refsFs l := by
          intro l
          induction l with
          | nil => intro e; cases e
          | cons p l ih =>
            intro e
            obtain ⟨m, b⟩ := p
            rw [List.lookup_cons] at e
            rw [refsFs]
            split at e
            · cases e; simp [hi]
            · simp [ih e]
        exact key fs hd
    · exact h
  | ok d st =>
    simp only [gc] at h
    split at h
    · rename_i hc
      split at h
      · rename_i hb
        refine fun ρ' H' x rl v rv => h ρ H' x.cut (r0.cut x rl hc) v (Rep.sub (ρ := ρ') (fun i hi => pre_get x.pre ?_) rv)
        rw [r0.len]; exact below_mem hb hi
      · split at h
        · rename_i hn
          intro ρ' H' x rl v rv
          have rc := r0.cut x rl hc
          have hall := List.all_eq_true.mp hn
          generalize hrs : newRefs st0.length d = rs at h hall
          have hnd : rs.Nodup := by rw [← hrs]; exact nodup_dedN _
          have hge : ∀ i ∈ rs, st0.length ≤ i := fun i hi => by
            rw [← hrs] at hi
            unfold newRefs at hi
            rw [mem_dedN, List.mem_filter] at hi
            exact of_decide_eq_true hi.2
          have hlt : ∀ i ∈ rs, i < st.length := fun i hi => by
            have := hall i hi
            split at this
            · rename_i o e; exact (List.getElem?_eq_some_iff.mp e).1
            · cases this
          have hlt' : ∀ i ∈ rs, i < ρ'.length := fun i hi => by rw [rl.len]; exact hlt i hi
          have hfr : ∀ i ∈ rs, ∀ a, ρ'[i]? = some a → a ∉ ρ ∧ ∀ o, H a = some o → IsTbl o := fun i hi a e => by
            have hnot : a ∉ ρ := fun hm => by
              obtain ⟨j, hj⟩ := List.mem_iff_getElem?.mp hm
              obtain ⟨g1, g2⟩ := List.getElem?_eq_some_iff.mp (get_pre x.pre hj)
              obtain ⟨g3, g4⟩ := List.getElem?_eq_some_iff.mp e
              have : j = i := (List.getElem_inj rl.nd).mp (g2.trans g4.symm)
              have h5 := (List.getElem?_eq_some_iff.mp hj).1
              have h6 := hge i hi
              rw [r0.len] at h5
              omega
            exact ⟨hnot, x.new a (List.mem_of_getElem? e) hnot⟩
          have ex : Ext ρ H (ρ ++ rs.filterMap fun i => ρ'[i]?) H' := ⟨List.prefix_append _ _, fun b hb nb => by
            rcases List.mem_append.mp hb with hb | hb
            · exact absurd hb nb
            · obtain ⟨i, hi, e⟩ := fm_mem hb
              exact (hfr i hi b e).2, x.tup, x.frz, x.out⟩
          have hren : ∀ i, (i < ρ.length ∨ i ∈ rs) → (ρ ++ rs.filterMap fun i => ρ'[i]?)[renum st0.length rs i]? = ρ'[i]? := fun i hi => by
            unfold renum
            by_cases hlt : i < st0.length
            · rw [if_pos hlt, List.getElem?_append_left (by rw [r0.len]; exact hlt)]
              exact pre_get x.pre (by rw [r0.len]; exact hlt)
            · rw [if_neg hlt]
              have hm : i ∈ rs := hi.resolve_left fun z => hlt (by rw [← r0.len]; exact z)
              rw [List.getElem?_append_right (by rw [r0.len]; omega), r0.len, Nat.add_sub_cancel_left]
              refine map_get rs hlt' _ i ?_
              exact get_idxN hm
          refine h (ρ ++ rs.filterMap fun i => ρ'[i]?) H' ex ⟨?_, ?_, ?_, fun z hz => (r0.zz z hz).ext r0 ex, rl.tabs⟩ v (Rep.mp (ρ := ρ') d v (fun i hi => hren i ?_) rv)
          · rw [List.length_append, List.length_append, rc.len, fm_length rs hlt', fm_length rs hlt]
          · refine List.nodup_append.mpr ⟨r0.nd, fm_nodup rl.nd rs hnd, fun a ha b hb e => ?_⟩
            obtain ⟨i, hi, e2⟩ := fm_mem hb
            exact (hfr i hi b e2).1 (e ▸ ha)
          · intro i a o h1 h2
            by_cases hi : i < ρ.length
            · rw [List.getElem?_append_left hi] at h1
              rw [List.getElem?_append_left (by rw [← rc.len]; exact hi)] at h2
              have ob := rc.obj i a o h1 h2
              refine ORel.sub (ρ := ρ) (fun j hj => ?_) ob
              exact List.getElem?_append_left (below_mem ob.below hj)
            · rw [List.getElem?_append_right (Nat.le_of_not_lt hi)] at h1
              rw [List.getElem?_append_right (by rw [← rc.len]; exact Nat.le_of_not_lt hi), ← rc.len] at h2
              have hj : i - ρ.length < rs.length := by
                have := (List.getElem?_eq_some_iff.mp h1).1
                rwa [fm_length rs hlt'] at this
              have er : rs[i - ρ.length]? = some rs[i - ρ.length] := List.getElem?_eq_getElem hj
              have hm : rs[i - ρ.length] ∈ rs := List.getElem_mem hj
              rw [map_get rs hlt' _ _ er] at h1
              rw [map_getO rs hlt _ _ er] at h2
              have ob := rl.obj _ a o h1 h2
              have hb := hall _ hm
              rw [h2] at hb
              refine ORel.sub (ρ := ρ') (fun j hj => ?_) ob
              have hjl : j < ρ.length := by rw [r0.len]; exact below_mem hb hj
              rw [List.getElem?_append_left hjl]
              exact pre_get x.pre hjl
          · by_cases hlt : i < st0.length
            · exact .inl (by rw [r0.len]; exact hlt)
            · right
              rw [← hrs]
              unfold newRefs
              rw [mem_dedN, List.mem_filter]
              exact ⟨hi, decide_eq_true (by omega)⟩
        · exact h
    · exact h
/-! ## a function applied: on an empty store where nothing is referred to -/
def appF (F : List D → M D) (ds : List D) : M D := fun st => if (refsL ds).isEmpty = true then (match F ds [] with
  | .ok d s => if (d.refs.isEmpty && s.isEmpty) = true then .ok d st else .ok (d.mp (fun i => st.length + i)) (st ++ s.map (O.mp fun i => st.length + i))
  | .ex c fs s => if (refsFs fs).isEmpty = true then .ex c fs st else .bad
  | .bad => .bad) else F ds st
theorem Rel.nil {H : Hp} (hz : N.z = none) (ht : LamX.Tabs N.tb H) : Rel N K [] H [] := ⟨rfl, List.nodup_nil, fun i a o h _ => by simp at h, fun z e => (by rw [hz] at e; cases e), ht⟩
theorem isEmpty_eq {α : Type} {l : List α} (h : l.isEmpty = true) : l = [] := List.isEmpty_iff.mp h
theorem app_post {F : List D → M D} {ds : List D} {vs : List V} {st : S} {Q : VK} {W : XW} (hz : N.z = none) (r : Rel N K ρ H st) (rs : Reps K ρ H ds vs) (h : Post N K ρ H (appF F ds st) (kD K Q) W) :
    ∃ (ρ0 : List Addr) (st0 : S), Rel N K ρ0 H st0 ∧ Reps K ρ0 H ds vs ∧ Post N K ρ0 H (F ds st0) (kD K Q) W := by
  unfold appF at h
  split at h
  · rename_i he
    have hnr := isEmpty_eq he
    refine ⟨[], [], Rel.nil hz r.tabs, ?_, ?_⟩
    · have := Reps.mp (ρ := ρ) (ρ' := []) (f := fun i => i) ds vs (fun i hi => by rw [hnr] at hi; cases hi) rs
      rwa [mpL_id] at this
    · have old : ∀ {ρ' : List Addr} {H' : Hp}, Ext [] H ρ' H' → ∀ b o, H b = some o → ¬ IsTbl o → H' b = some o := fun x b o e => x.out b o e (by simp)
      cases hF : F ds [] with
      | bad => rw [hF] at h; exact h
      | ex c fs s =>
        rw [hF] at h
        obtain ⟨h1, h⟩ := h.ite
        have hfs := isEmpty_eq h1
        intro ρ' H' dx x rl q
        have ex : Ext ρ H ρ H' := ⟨List.prefix_rfl, fun _ h n => absurd h n, x.tup, x.frz, fun b o e _ => old x b o e⟩
        refine h ρ H' dx ex ⟨r.len, r.nd, fun i a o h1 h2 => ?_, fun z hz => (r.zz z hz).ext r ex, rl.tabs⟩ ?_
        · obtain ⟨u, hu, hk⟩ := (r.obj i a o h1 h2).has
          exact ORel.ext ex ((old x a u hu hk.tbl).trans hu.symm) (r.obj i a o h1 h2)
        · rcases q with q | ⟨a, l, q1, q2, q3⟩
          · exact .inl q
          · refine .inr ⟨a, l, q1, q2, fun n d hd => ?_⟩
            obtain ⟨y, v, g1, g2, g3⟩ := q3 n d hd
            refine ⟨y, v, g1, g2, Rep.sub (ρ := ρ') (fun i hi => ?_) g3⟩
            exfalso
            have key : ∀ (l : List (Nat × D)), l.lookup n = some d → i ∈ refsFs l := by
              intro l
              induction l with
              | nil => intro e; cases e
              | cons p l ih =>
                intro e
                obtain ⟨m, b⟩ := p
                rw [List.lookup_cons] at e
                rw [refsFs]
                split at e
                · cases e; simp [hi]
                · simp [ih e]
            have := key fs hd
            rw [hfs] at this
            cases this
      | ok d s =>
        rw [hF] at h
        intro ρ' H' x rl v rv
        have dis : ∀ a ∈ ρ', a ∉ ρ := fun a ha hm => by
          obtain ⟨i, o, _, _, h3⟩ := r.mem hm
          obtain ⟨u, hu, hk⟩ := h3.has
          exact hk.tbl (x.new a ha (by simp) u hu)
        have ex : Ext ρ H (ρ ++ ρ') H' := ⟨List.prefix_append _ _, fun b hb nb => by
          rcases List.mem_append.mp hb with hb | hb
          · exact absurd hb nb
          · exact x.new b hb (by simp), x.tup, x.frz, fun b o e _ => old x b o e⟩
        have ex0 : Ext ρ H ρ H' := ⟨List.prefix_rfl, fun _ h n => absurd h n, x.tup, x.frz, fun b o e _ => old x b o e⟩
        have sh : ∀ i, i < ρ'.length → (ρ ++ ρ')[st.length + i]? = ρ'[i]? := fun i hi => by
          rw [← r.len, List.getElem?_append_right (Nat.le_add_right _ _), Nat.add_sub_cancel_left]
        dsimp only at h
        split at h
        · rename_i hc
          obtain ⟨h1, h2⟩ := Bool.and_eq_true_iff.mp hc
          have hd := isEmpty_eq h1
          refine h ρ H' ex0 ⟨r.len, r.nd, fun i a o g1 g2 => ?_, fun z hz => (r.zz z hz).ext r ex0, rl.tabs⟩ v (Rep.sub (ρ := ρ') (fun i hi => by rw [hd] at hi; cases hi) rv)
          obtain ⟨u, hu, hk⟩ := (r.obj i a o g1 g2).has
          exact ORel.ext ex0 ((old x a u hu hk.tbl).trans hu.symm) (r.obj i a o g1 g2)
        · refine h (ρ ++ ρ') H' ex ⟨?_, ?_, fun i a o g1 g2 => ?_, fun z hz => (r.zz z hz).ext r ex, rl.tabs⟩ v (Rep.mp (ρ := ρ') d v (fun i hi => sh i (below_mem (Rep.below d v rv) hi)) rv)
          · simp [r.len, rl.len]
          · exact List.nodup_append.mpr ⟨r.nd, rl.nd, fun a ha b hb e => dis b hb (e ▸ ha)⟩
          · by_cases hi : i < ρ.length
            · rw [List.getElem?_append_left hi] at g1
              rw [List.getElem?_append_left (by rw [← r.len]; exact hi)] at g2
              obtain ⟨u, hu, hk⟩ := (r.obj i a o g1 g2).has
              exact ORel.ext ex ((old x a u hu hk.tbl).trans hu.symm) (r.obj i a o g1 g2)
            · rw [List.getElem?_append_right (Nat.le_of_not_lt hi)] at g1
              rw [List.getElem?_append_right (by rw [← r.len]; exact Nat.le_of_not_lt hi), ← r.len, List.getElem?_map] at g2
              cases e : s[i - ρ.length]? with
              | none => rw [e] at g2; cases g2
              | some o' =>
                rw [e] at g2
                have g2 : O.mp _ o' = o := Option.some.inj g2
                subst g2
                have ob := rl.obj _ a o' g1 e
                refine ORel.mp (ρ := ρ') (fun j hj => ?_) ob
                have := sh j (below_mem ob.below hj)
                rwa [← r.len] at this
  · exact ⟨ρ, st, r, rs, h⟩
end
end Mi
set_option Elab.async false
set_option linter.all false
set_option maxRecDepth 100000
set_option maxHeartbeats 1000000
namespace Mi
open PySem L2
/-! ## what a def promises -/
def spF (N : Nm) (K : PySem.W.Frag) (n : Nat) (F : List D → M D) : Sp := fun vs H Q E => ∃ (ρ : List Addr) (st : S) (ds : List D), Rel N K ρ H st ∧ Reps K ρ H ds vs ∧ ds.length = n ∧ Post N K ρ H (F ds st) (kD K Q) E
abbrev Passing (X : Cx) (W : WX) : Prop := ∀ σ, PassesAt (L2.CX X.prog X.w) X σ (WE W σ)
/-- all that stays the same through a law -/
structure G where
  P : Program
  w : World
  K : PySem.W.Frag
  mg : Str → Option Value
  base : Heap
  N : Nm
  hz : N.z = none
/-- a def at f -/
def G.Fn (g : G) (k : Nat) (f : Addr) (n : Nat) (F : List D → M D) : Prop := ∃ (fd : FuncData) (ps : List Str), Binds g.K fd ps [] ∧ ps.length = n ∧ FnOk g.P g.w g.K g.mg g.base (L2.CX g.P g.w) k f fd ps (spF g.N g.K n F)
/-- a def of the module by its name; a method; a class that is made -/
structure G.Gl (g : G) (k : Nat) (x : Str) (n : Nat) (F : List D → M D) : Prop where
  ex : ∃ f, g.mg x = some (.ref f) ∧ PySem.W.keepIn g.K (.ref f) = true ∧ g.Fn k f n F
structure G.Me (g : G) (k : Nat) (c : Nat) (m : Str) (n : Nat) (F : List D → M D) : Prop where
  ex : ∃ f, L2.Meth g.K (g.N.cl g.K c) m f ∧ g.Fn k f n F
  cls : ClsG g.N g.K c
  no : m ∉ g.N.an
structure G.Mk (g : G) (k : Nat) (x : Str) (c : Nat) (n : Nat) (F : List D → M D) : Prop where
  ex : ∃ f, L2.Mk g.K (g.N.cl g.K c) f ∧ g.Fn k f n F
  at_ : g.mg x = some (.ref (g.N.cl g.K c))
  cls : ClsG g.N g.K c
/-- a context of this law -/
structure G.In (g : G) (X : Cx) : Prop where
  P : X.prog = g.P
  w : X.w = g.w
  K : X.K = g.K
  mg : X.mg = g.mg
  base : X.base = g.base
theorem G.Fn.at {g : G} {X : Cx} {k : Nat} {f : Addr} {n : Nat} {F : List D → M D} (h : g.Fn k f n F) (i : g.In X) : ∃ (fd : FuncData) (ps : List Str), Binds X.K fd ps [] ∧ ps.length = n ∧ FnOk X.prog X.w X.K X.mg X.base (L2.CX X.prog X.w) k f fd ps (spF g.N X.K n F) := by
  obtain ⟨h1, h2, h3, h4, h5⟩ := i
  rw [h1, h2, h3, h4, h5]; exact h
section
variable {g : G} {W : WX} {X : Cx} {pos p apos : Pos} {a o e : Expr} {es : List Expr} {fa fo : Ev → M D} {fs : Ev → M (List D)} {x m : Str} {k n c : Nat} {F : List D → M D}
theorem se_call (h : g.Gl k x n F) (i : g.In X) (hr : Room k X.A) (hx : Passing X W) (hg : L2.Gl X x) (ha : SA g.N W X (e :: es) fs) (hdb : (x == ("__debug__" : Str)) = false := by decide)
    (he : starEach (e :: es) X.env = (false, eval e X.env) :: starEach es X.env := by rfl) (hpl : (backTo pos (starEach es X.env)).any (·.1) = false := by rfl) (hn : ∀ η st ds s, fs η st = .ok ds s → ds.length = n) :
    SE g.N W X (.Call (.Name x p) (e :: es) [] pos) (callE (appF F) fs) := by
  obtain ⟨f, h1, h2, h3⟩ := h.ex
  obtain ⟨fd, ps, h4, h5, h6⟩ := h3.at i
  refine PE.imp (pe_callS h6 hr hg (by rw [i.mg]; exact h1) (by rw [i.K]; exact h2) h4 hx ha hdb he hpl) fun σ H Q ⟨η, st, ρ, hE, hR, hP⟩ => ?_
  refine ⟨η, st, ρ, hE, hR, ?_⟩
  cases q : fs η st with
  | bad => unfold callE at hP; rw [q] at hP; exact hP
  | ex c fs' st' => unfold callE at hP; rw [q] at hP; exact hP
  | ok ds s1 =>
    unfold callE at hP; rw [q] at hP
    intro ρ1 H1 e1 r1 vs rs
    obtain ⟨ρ0, st0, h7, h8, h9⟩ := app_post g.hz r1 rs (Post.ext e1 hP)
    exact ⟨ρ0, st0, ds, h7, h8, hn η st ds s1 q, h9⟩
/-- o.m(..) -/
def methE (c : Nat) (F : List D → M D) (o : Ev → M D) (a : Ev → M (List D)) : Ev → M D := fun η st => (o η st).bind fun d s1 => match d with
  | .ref i => (match s1[i]? with
    | some (.ins c' _) => if c' = c then (a η s1).bind fun ds s2 => appF F (.ref i :: ds) s2 else .bad
    | _ => .bad)
  | _ => .bad
def tMethS (C : Addr) (m : Str) (sp : Sp) (E : St → XK) (ta : TE) (t : TA) : TE := fun σ H Q => ta σ H fun x H1 => ∃ a dx fs, x = .ref a ∧ H1 a = some (.ins C dx fs) ∧ fs.lookup m = none ∧
  t σ H1 fun vs H2 => sp (x :: vs) H2 Q (E σ)
theorem pe_methX {CX : CXT} {C f : Addr} {fd : FuncData} {ps : List Str} {sp : Sp} {E : St → XK} {ta : TE} {t : TA} {pl : Sem Bool} (he : PE X o ta) (cl : Cls X.K C) (hm : Meth X.K C m f) (G : FnOk X.prog X.w X.K X.mg X.base CX k f fd ps sp) (hr : Room k X.A) (hb : Binds X.K fd ps [])
    (hx : ∀ σ, PassesAt CX X σ (E σ)) (ha : PA X (e :: es) t) (hst : starEach (e :: es) X.env = (false, eval e X.env) :: starEach es X.env) (hpl : (backTo pos (starEach es X.env)).any (·.1) = false)
    (ht : eval (.Call (.Attribute o m apos) (e :: es) [] pos) X.env = (do
      let ov ← eval o X.env
      standAt apos.atName
      let (f, first) ← holding [ov] (getMethod ov m pl)
      callWith pos f first (backTo pos (starEach (e :: es) X.env)) (backToKw pos (keywordEach [] X.env)))) :
    PE X (.Call (.Attribute o m apos) (e :: es) [] pos) (tMethS C m sp E ta t) := by
  refine ⟨fun pins s σ H Q I h => PySem.W.methodCall_KW (pl := pl) (thn (he.run pins s σ H _ I h) fun u s1 ⟨x, H1, I1, rx, a, dx, fs, ex, ea, l, q⟩ => ?_) ht⟩
  subst ex
  obtain rfl : u = Value.ref a := rx
  refine getmeth_ok I1 ea cl hm l ?_
  refine PySem.W.callWith_K (h₀ := X.base) (first := [.ref a]) I.ok.mod.kin hm.kp (thn (ha.run pos pins s1 σ H1 _ I1 q) fun us s2 ⟨vs, H2, I2, r, q2⟩ => ⟨I2.kIn, ?_⟩) hst hpl
  exact run_fnS (us := .ref a :: us) (vs := .ref a :: vs) G hr hb (hx σ) I2 (.cons rfl r) q2
theorem pe_methX0 {CX : CXT} {C f : Addr} {fd : FuncData} {ps : List Str} {sp : Sp} {E : St → XK} {ta : TE} {pl : Sem Bool} (he : PE X o ta) (cl : Cls X.K C) (hm : Meth X.K C m f) (G : FnOk X.prog X.w X.K X.mg X.base CX k f fd ps sp) (hr : Room k X.A) (hb : Binds X.K fd ps [])
    (hx : ∀ σ, PassesAt CX X σ (E σ))
    (ht : eval (.Call (.Attribute o m apos) [] [] pos) X.env = (do
      let ov ← eval o X.env
      standAt apos.atName
      let (f, first) ← holding [ov] (getMethod ov m pl)
      callWith pos f first (backTo pos (starEach [] X.env)) (backToKw pos (keywordEach [] X.env)))) :
    PE X (.Call (.Attribute o m apos) [] [] pos) (tMethS C m sp E ta tNil) := by
  refine ⟨fun pins s σ H Q I h => PySem.W.methodCall_KW (pl := pl) (thn (he.run pins s σ H _ I h) fun u s1 ⟨x, H1, I1, rx, a, dx, fs, ex, ea, l, q⟩ => ?_) ht⟩
  subst ex
  obtain rfl : u = Value.ref a := rx
  refine getmeth_ok I1 ea cl hm l ?_
  exact PySem.W.callWith_K0 (first := [.ref a]) I1.kIn hm.kp (run_fnS (us := [.ref a]) (vs := [.ref a]) G hr hb (hx σ) I1 (.cons rfl .nil) q)
theorem tMeth_of (h : g.Me k c m n F) (i : g.In X) {σ : St} {H : Hp} {Q : VK} (hn : ∀ η st ds s, fs η st = .ok ds s → ds.length + 1 = n) (q : tOf g.N W X.K (methE c F fo fs) σ H Q) :
    tMethS (g.N.cl X.K c) m (spF g.N X.K n F) (WE W) (tOf g.N W X.K fo) (tOfA g.N W X.K fs) σ H Q := by
  obtain ⟨η, st, ρ, hE, hR, hP⟩ := q
  refine ⟨η, st, ρ, hE, hR, Post.bind hP fun d s1 ρ1 H1 e1 r1 p1 v rv => ?_⟩
  split at p1
  · obtain ⟨q, hq, rfl⟩ := rv
    rename_i j
    split at p1
    · rename_i c' fs' h1
      obtain ⟨hc, p5⟩ := p1.ite
      clear p1
      subst hc
      obtain ⟨dx, l, g1, g2, g3⟩ := r1.obj _ _ _ hq h1
      refine ⟨q, dx, l, rfl, g1, Fls.none h.no g2, ?_⟩
      refine ⟨η, s1, ρ1, hE.ext e1, r1, ?_⟩
      cases z : fs η s1 with
      | bad => rw [z] at p5; exact p5
      | ex c fs' st' => rw [z] at p5; exact p5
      | ok ds s2 =>
        rw [z] at p5
        intro ρ2 H2 e2 r2 vs rs
        obtain ⟨ρ0, st0, h7, h8, h9⟩ := app_post g.hz r2 (show Reps X.K ρ2 H2 (.ref j :: ds) (.ref q :: vs) from ⟨_, _, rfl, ⟨q, get_pre e2.pre hq, rfl⟩, rs⟩) (Post.ext e2 p5)
        exact ⟨ρ0, st0, _, h7, h8, hn η s1 ds s2 z, h9⟩
    · exact p1.elim
  · exact p1.elim
theorem se_meth {pl : Sem Bool} (h : g.Me k c m n F) (i : g.In X) (hr : Room k X.A) (hx : Passing X W) (ho : SE g.N W X o fo) (ha : SA g.N W X (e :: es) fs) (hn : ∀ η st ds s, fs η st = .ok ds s → ds.length + 1 = n)
    (hst : starEach (e :: es) X.env = (false, eval e X.env) :: starEach es X.env := by rfl) (hpl : (backTo pos (starEach es X.env)).any (·.1) = false := by rfl)
    (ht : eval (.Call (.Attribute o m apos) (e :: es) [] pos) X.env = (do
      let ov ← eval o X.env
      standAt apos.atName
      let (f, first) ← holding [ov] (getMethod ov m pl)
      callWith pos f first (backTo pos (starEach (e :: es) X.env)) (backToKw pos (keywordEach [] X.env))) := by rfl) :
    SE g.N W X (.Call (.Attribute o m apos) (e :: es) [] pos) (methE c F fo fs) := by
  obtain ⟨f, h1, h3⟩ := h.ex
  obtain ⟨fd, ps, h4, h5, h6⟩ := h3.at i
  have h1' : Meth X.K (g.N.cl X.K c) m f := by rw [i.K]; exact h1
  have hc : Cls X.K (g.N.cl X.K c) := by rw [i.K]; exact h.cls.cls
  exact PE.imp (pe_methX (pl := pl) ho hc h1' h6 hr h4 hx ha hst hpl ht) fun σ H Q q => tMeth_of h i hn q
theorem se_meth0 {pl : Sem Bool} (h : g.Me k c m 1 F) (i : g.In X) (hr : Room k X.A) (hx : Passing X W) (ho : SE g.N W X o fo)
    (ht : eval (.Call (.Attribute o m apos) [] [] pos) X.env = (do
      let ov ← eval o X.env
      standAt apos.atName
      let (f, first) ← holding [ov] (getMethod ov m pl)
      callWith pos f first (backTo pos (starEach [] X.env)) (backToKw pos (keywordEach [] X.env))) := by rfl) :
    SE g.N W X (.Call (.Attribute o m apos) [] [] pos) (methE c F fo nilA) := by
  obtain ⟨f, h1, h3⟩ := h.ex
  obtain ⟨fd, ps, h4, h5, h6⟩ := h3.at i
  have h1' : Meth X.K (g.N.cl X.K c) m f := by rw [i.K]; exact h1
  have hc : Cls X.K (g.N.cl X.K c) := by rw [i.K]; exact h.cls.cls
  refine PE.imp (pe_methX0 (pl := pl) ho hc h1' h6 hr h4 hx ht) fun σ H Q q => ?_
  obtain ⟨η, st, ρ, hE, hR, hP⟩ := tMeth_of h i (fun η st ds s e => by cases e; rfl) q
  refine ⟨η, st, ρ, hE, hR, Post.imp hP (fun d ρ1 H1 e1 hk v rv => ?_) fun _ _ _ z => z⟩
  obtain ⟨a, dx, l, e1, e2, e3, η', st', ρ', hE', hR', hP'⟩ := hk v rv
  exact ⟨a, dx, l, e1, e2, e3, hP'.ok hR' [] rfl⟩
/-- C(..) -/
def mkE (c : Nat) (F : List D → M D) (a : Ev → M (List D)) : Ev → M D := fun η st => (a η st).bind fun ds s1 => match F (.ref s1.length :: ds) (s1 ++ [.ins c []]) with
  | .ok .non s2 => .ok (.ref s1.length) s2
  | _ => .bad
theorem tMake_of (h : g.Mk k x c n F) (i : g.In X) {σ : St} {H : Hp} {Q : VK} (hn : ∀ η st ds s, fs η st = .ok ds s → ds.length + 1 = n) (q : tOf g.N W X.K (mkE c F fs) σ H Q) :
    tMake (g.N.cl X.K c) (spF g.N X.K n F) [] E0 (tOfA g.N W X.K fs) σ H Q := by
  obtain ⟨η, st, ρ, hE, hR, hP⟩ := q
  refine ⟨η, st, ρ, hE, hR, ?_⟩
  unfold mkE at hP
  cases z : fs η st with
  | bad => rw [z] at hP; exact hP
  | ex c fs' st' => rw [z] at hP; exact hP
  | ok ds s1 =>
    rw [z] at hP
    intro ρ1 H1 e1 r1 vs rs y dx hy hdx hne
    have p1 := Post.ext e1 hP
    have r2 := r1.fresh (o := .own y) hdx
    have x2 := Ext.fresh (o := .own y) r1 hdx
    have hy2 : upd H1 dx (.own y) y = none := by rw [upd_ne (Ne.symm hne)]; exact hy
    have x3 := Ext.push (o := .ins (g.N.cl X.K c) dx []) r2 hy2
    have r3 := r2.push (o := .ins (g.N.cl X.K c) dx []) (ob := .ins c []) hy2 ⟨dx, [], upd_same, rfl, by rw [i.K]; exact h.cls⟩
    refine ⟨ρ1 ++ [y], s1 ++ [.ins c []], .ref s1.length :: ds, r3, ⟨_, _, rfl, ⟨y, get_last r1.len, rfl⟩, ?_⟩, ?_, ?_⟩
    · rw [List.append_nil]; exact Reps.ext (x2.trans x3) _ _ rs
    · exact hn η st ds s1 z
    · have p2 : Post g.N X.K ρ1 H1 (match F (.ref s1.length :: ds) (s1 ++ [.ins c []]) with
        | .ok .non s2 => .ok (.ref s1.length) s2
        | _ => .bad) (kD X.K Q) (fun c d H' => W c d σ H') := p1
      cases zF : F (.ref s1.length :: ds) (s1 ++ [.ins c []]) with
      | bad => rw [zF] at p2; exact p2
      | ex _ _ _ => rw [zF] at p2; exact p2.elim
      | ok d s2 =>
        rw [zF] at p2
        cases d with
        | non =>
          intro ρ4 H4 e4 r4 v rv
          refine ⟨rv, p2 ρ4 H4 ((x2.trans x3).trans e4) r4 _ ⟨y, get_pre e4.pre (get_last r1.len), rfl⟩⟩
        | _ => exact p2.elim
theorem se_mk (h : g.Mk k x c n F) (i : g.In X) (hr : Room (k + 1) X.A) (hg : L2.Gl X x) (ha : SA g.N W X (e :: es) fs) (hn : ∀ η st ds s, fs η st = .ok ds s → ds.length + 1 = n) (hdb : (x == ("__debug__" : Str)) = false := by decide)
    (he : starEach (e :: es) X.env = (false, eval e X.env) :: starEach es X.env := by rfl) (hpl : (backTo pos (starEach es X.env)).any (·.1) = false := by rfl) :
    SE g.N W X (.Call (.Name x p) (e :: es) [] pos) (mkE c F fs) := by
  obtain ⟨f, h1, h3⟩ := h.ex
  obtain ⟨fd, ps, h4, h5, h6⟩ := h3.at i
  exact PE.imp (pe_make (by rw [i.K]; exact h1) h6 hr hg (by rw [i.mg, i.K]; exact h.at_) h4 .nil passL ha hdb he hpl) fun σ H Q q => tMake_of h i hn q
theorem se_mk0 (h : g.Mk k x c 1 F) (i : g.In X) (hr : Room (k + 1) X.A) (hg : L2.Gl X x) (hdb : (x == ("__debug__" : Str)) = false := by decide) :
    SE g.N W X (.Call (.Name x p) [] [] pos) (mkE c F nilA) := by
  obtain ⟨f, h1, h3⟩ := h.ex
  obtain ⟨fd, ps, h4, h5, h6⟩ := h3.at i
  have h1' : L2.Mk X.K (g.N.cl X.K c) f := by rw [i.K]; exact h1
  have h2' : X.mg x = some (.ref (g.N.cl X.K c)) := by rw [i.mg, i.K]; exact h.at_
  refine PE.imp (pe_make0 h1' h6 hr hg h2' h4 .nil passL hdb) fun σ H Q q => ?_
  obtain ⟨η, st, ρ, hE, hR, hP⟩ := tMake_of h i (fun η st ds s e => by cases e; rfl) q
  exact hP.ok hR [] rfl
end
/-! ## statements -/
inductive SR where
  | nx (η : Ev) (s : S)
  | rt (d : D) (s : S)
  | bk (η : Ev) (s : S)
  | ct (η : Ev) (s : S)
  | ex (c : Nat) (fs : List (Nat × D)) (η : Ev) (s : S)
  | bad
def SPost (N : Nm) (K : PySem.W.Frag) (ρ : List Addr) (H : Hp) (r : SR) (D : Ends) (W : WX) : Prop :=
  match r with
  | .nx η s => ∀ ρ' H' σ', Ext ρ H ρ' H' → Rel N K ρ' H' s → ERel N K ρ' H' η σ' → D.nx σ' H'
  | .rt d s => ∀ ρ' H' v, Ext ρ H ρ' H' → Rel N K ρ' H' s → Rep K ρ' H' d v → D.rt v H'
  | .bk η s => ∀ ρ' H' σ', Ext ρ H ρ' H' → Rel N K ρ' H' s → ERel N K ρ' H' η σ' → D.bk σ' H'
  | .ct η s => ∀ ρ' H' σ', Ext ρ H ρ' H' → Rel N K ρ' H' s → ERel N K ρ' H' η σ' → D.ct σ' H'
  | .ex c fs η s => ∀ ρ' H' dx σ', Ext ρ H ρ' H' → Rel N K ρ' H' s → XD N K ρ' H' fs dx → ERel N K ρ' H' η σ' → W (.ref (N.cl K c)) dx σ' H'
  | .bad => False
abbrev SF := Ev → S → SR
def tOfS (N : Nm) (W : WX) (K : PySem.W.Frag) (f : SF) : TS := fun D σ H => ∃ η st ρ, ERel N K ρ H η σ ∧ Rel N K ρ H st ∧ SPost N K ρ H (f η st) D W
abbrev SS (N : Nm) (W : WX) (X : Cx) (st : Stmt) (f : SF) : Prop := PS X st (tOfS N W X.K f)
abbrev SSs (N : Nm) (W : WX) (X : Cx) (st : List Stmt) (f : SF) : Prop := PSs X st (tOfS N W X.K f)
def R.bs {α : Type} (r : R α) (η : Ev) (f : α → S → SR) : SR := match r with
  | .ok a s => f a s
  | .ex c fs s => .ex c fs η s
  | .bad => .bad
section
variable {N : Nm} {K : PySem.W.Frag} {ρ ρ1 : List Addr} {H H1 : Hp} {α : Type} {W : WX} {D : Ends}
theorem SPost.ext {r : SR} (x : Ext ρ H ρ1 H1) (h : SPost N K ρ H r D W) : SPost N K ρ1 H1 r D W := by
  cases r with
  | nx η s => exact fun ρ' H' σ' e => h ρ' H' σ' (x.trans e)
  | rt d s => exact fun ρ' H' σ' e => h ρ' H' σ' (x.trans e)
  | bk η s => exact fun ρ' H' σ' e => h ρ' H' σ' (x.trans e)
  | ct η s => exact fun ρ' H' σ' e => h ρ' H' σ' (x.trans e)
  | ex c fs η s => exact fun ρ' H' dx σ' e => h ρ' H' dx σ' (x.trans e)
  | bad => exact h
theorem SPost.bs {r : R α} {η : Ev} {σ : St} {f : α → S → SR} {k1 : α → List Addr → Hp → Prop} (h : SPost N K ρ H (r.bs η f) D W) (hE : ERel N K ρ H η σ)
    (hk : ∀ a st ρ1 H1, Ext ρ H ρ1 H1 → Rel N K ρ1 H1 st → SPost N K ρ1 H1 (f a st) D W → k1 a ρ1 H1) : Post N K ρ H r k1 (fun c d H' => W c d σ H') := by
  cases r with
  | ok a st => exact fun ρ' H' e r => hk a st ρ' H' e r (SPost.ext e h)
  | ex c fs st => exact fun ρ' H' dx e r q => h ρ' H' dx σ e r q (hE.ext e)
  | bad => exact h
end
/-- one after another -/
def SR.seq (r : SR) (f : SF) : SR := match r with
  | .nx η s => f η s
  | r => r
def seqS (a b : SF) : SF := fun η st => (a η st).seq b
def nilS : SF := fun η st => .nx η st
section
variable {N : Nm} {W : WX} {X : Cx} {pos pos' : Pos} {a b c e o : Expr} {fa fb fc fo fv : Ev → M D} {ba : Ev → M Bool} {f f1 f2 : SF} {st : Stmt} {sts sts2 : List Stmt} {i : Nat} {x : Str}
theorem ss_nil : SSs N W X [] nilS := PSs.imp pss_nil fun D σ H ⟨η, st, ρ, hE, hR, hP⟩ => hP ρ H σ (Ext.refl _ _) hR hE
theorem ss_cons (h1 : SS N W X st f1) (h2 : SSs N W X sts f2) : SSs N W X (st :: sts) (seqS f1 f2) := PSs.imp (pss_cons h1 h2) fun D σ H ⟨η, st, ρ, hE, hR, hP⟩ => ⟨η, st, ρ, hE, hR, by
  unfold seqS at hP
  cases z : f1 η st with
  | nx η1 s1 => rw [z] at hP; exact fun ρ' H' σ' x r e => ⟨η1, s1, ρ', e, r, SPost.ext x hP⟩
  | rt d s => rw [z] at hP; exact hP
  | bk η1 s1 => rw [z] at hP; exact hP
  | ct η1 s1 => rw [z] at hP; exact hP
  | ex c fs η1 s1 => rw [z] at hP; exact hP
  | bad => rw [z] at hP; exact hP⟩
theorem ss_one (h1 : SS N W X st f1) : SSs N W X [st] f1 := pss_one h1
theorem s_pass : SS N W X (.Pass pos) nilS := PS.imp ps_pass fun D σ H ⟨η, st, ρ, hE, hR, hP⟩ => hP ρ H σ (Ext.refl _ _) hR hE
def bkS : SF := fun η st => .bk η st
def ctS : SF := fun η st => .ct η st
theorem s_break : SS N W X (.Break pos) bkS := PS.imp ps_break fun D σ H ⟨η, st, ρ, hE, hR, hP⟩ => hP ρ H σ (Ext.refl _ _) hR hE
theorem s_continue : SS N W X (.Continue pos) ctS := PS.imp ps_continue fun D σ H ⟨η, st, ρ, hE, hR, hP⟩ => hP ρ H σ (Ext.refl _ _) hR hE
/-- e -/
def exprS (fa : Ev → M D) : SF := fun η st => (fa η st).bs η fun _ s => .nx η s
theorem s_expr (ha : SE N W X a fa) (hs : swapsWith a none pos.line X.env = pure false := by rfl) : SS N W X (.Expr a pos) (exprS fa) := PS.imp (ps_expr ha hs) fun D σ H ⟨η, st, ρ, hE, hR, hP⟩ =>
  ⟨η, st, ρ, hE, hR, SPost.bs hP hE fun d s1 ρ1 H1 e1 r1 p1 v rv => p1 ρ1 H1 σ (Ext.refl _ _) r1 (hE.ext e1)⟩
/-- return e -/
def retS (fa : Ev → M D) : SF := fun η st => (fa η st).bs η fun d s => .rt d s
theorem s_ret (ha : SE N W X a fa) : SS N W X (.Return (some a) pos) (retS fa) := PS.imp (ps_ret ha) fun D σ H ⟨η, st, ρ, hE, hR, hP⟩ =>
  ⟨η, st, ρ, hE, hR, SPost.bs hP hE fun d s1 ρ1 H1 e1 r1 p1 v rv => p1 ρ1 H1 v (Ext.refl _ _) r1 rv⟩
def retN : SF := fun _ st => .rt .non st
theorem s_retN : SS N W X (.Return none pos) retN := PS.imp ps_retN fun D σ H ⟨η, st, ρ, hE, hR, hP⟩ => hP ρ H .non (Ext.refl _ _) hR rfl
/-- if -/
def ifS (c : Ev → M Bool) (a b : SF) : SF := fun η st => (c η st).bs η fun k s => if k = true then a η s else b η s
theorem s_if (hc : SB N W X c ba) (h1 : SSs N W X sts f1) (h2 : SSs N W X sts2 f2) : SS N W X (.If c sts sts2 pos) (ifS ba f1 f2) := PS.imp (ps_if hc h1 h2) fun D σ H ⟨η, st, ρ, hE, hR, hP⟩ =>
  ⟨η, st, ρ, hE, hR, SPost.bs hP hE fun k s1 ρ1 H1 e1 r1 p1 => by
    cases k with
    | true => exact ⟨η, s1, ρ1, hE.ext e1, r1, p1⟩
    | false => exact ⟨η, s1, ρ1, hE.ext e1, r1, p1⟩⟩
/-- x = e -/
def setS (i : Nat) (fa : Ev → M D) : SF := fun η st => (fa η st).bs η fun d s => .nx (η.set i (some d)) s
theorem s_set (i : Nat) (hz : N.off i) (hN : X.N.Nodup) (hi : X.N[i]? = some x) (hx : Loc X.env.scope x) (ha : SE N W X a fa) (hs : swapsWith a (some (.Name x pos')) pos.line X.env = pure false := by rfl)
    (hf : X.fn x = true ∨ X.env.scope.names.lookup x = some .local := by first | exact .inl rfl | exact .inr rfl | assumption) : SS N W X (.Assign [.Name x pos'] a pos) (setS i fa) := PS.imp (ps_set hN hi hx ha hs hf) fun D σ H ⟨η, st, ρ, hE, hR, hP⟩ =>
  ⟨η, st, ρ, hE, hR, SPost.bs hP hE fun d s1 ρ1 H1 e1 r1 p1 v rv => p1 ρ1 H1 _ (Ext.refl _ _) r1 ((hE.ext e1).set hz rv)⟩
/-- o.f = e -/
def setA (n : Nat) (fv fo : Ev → M D) : SF := fun η st => (fv η st).bs η fun d s1 => (fo η s1).bs η fun q s2 => match q with
  | .ref i => (match s2[i]? with
    | some (.ins c fs) => if fs.length < 1000 then .nx η (s2.set i (.ins c (putA n d fs))) else .bad
    | _ => .bad)
  | _ => .bad
theorem s_att {n : Nat} (hN : N.an.Nodup) (hx : N.an[n]? = some x) (hv : SE N W X a fv) (ho : SE N W X o fo) (hs : swapsWith a (some (.Attribute o x pos')) pos.line X.env = pure false := by rfl) : SS N W X (.Assign [.Attribute o x pos'] a pos) (setA n fv fo) :=
  PS.imp (ps_fld ho hv hs) fun D σ H ⟨η, st, ρ, hE, hR, hP⟩ => ⟨η, st, ρ, hE, hR, SPost.bs hP hE fun d s1 ρ1 H1 e1 r1 p1 v rv => ⟨η, s1, ρ1, hE.ext e1, r1, SPost.bs p1 (hE.ext e1) fun q s2 ρ2 H2 e2 r2 p2 w rw' => by
    split at p2
    · obtain ⟨y, hy, rfl⟩ := rw'
      split at p2
      · rename_i c fs h1
        obtain ⟨dx, l, g1, g2, g3⟩ := r2.obj _ _ _ hy h1
        by_cases hl : fs.length < 1000
        · rw [if_pos hl] at p2
          refine ⟨y, _, dx, l, rfl, g1, g3.cls, g3.noat n x hx, by rw [Fls.length g2]; exact hl, ?_⟩
          have x3 := Ext.set (o := .ins (N.cl X.K c) dx (putF x v l)) r2 hy
          exact p2 ρ2 _ σ x3 (r2.set hy ⟨dx, _, upd_same, Fls.put hN hx (Rep.ext (e2.trans x3) d v rv) (Fls.ext x3 _ _ g2), g3⟩) (((hE.ext e1).ext e2).ext x3)
        · rw [if_neg hl] at p2; exact p2.elim
      · exact p2.elim
    · exact p2.elim⟩⟩
/-- d[k] = e -/
def setD (fv fo fk : Ev → M D) : SF := fun η st => (fv η st).bs η fun d s1 => (fo η s1).bs η fun q s2 => (fk η s2).bs η fun k s3 => match dctOf s3 q with
  | some (n, kvs) => if isKey k = true ∧ kvs.length < sizeLine then .nx η (s3.set n (.dct (putD kvs k d))) else .bad
  | none => .bad
theorem s_dput (hu : X.A.units + 1 < cLine) (hv : SE N W X a fv) (ho : SE N W X o fo) (hk : SE N W X b fb) (hs : swapsWith a (some (.Subscript o b pos')) pos.line X.env = pure false := by rfl) : SS N W X (.Assign [.Subscript o b pos'] a pos) (setD fv fo fb) :=
  PS.imp (ps_dput hu ho hk hv hs) fun D σ H ⟨η, st, ρ, hE, hR, hP⟩ => ⟨η, st, ρ, hE, hR, SPost.bs hP hE fun d s1 ρ1 H1 e1 r1 p1 v rv => ⟨η, s1, ρ1, hE.ext e1, r1, SPost.bs p1 (hE.ext e1) fun q s2 ρ2 H2 e2 r2 p2 w rw' =>
    ⟨η, s2, ρ2, (hE.ext e1).ext e2, r2, SPost.bs p2 ((hE.ext e1).ext e2) fun k s3 ρ3 H3 e3 r3 p3 y ry => by
      split at p3
      · rename_i n kvs hd
        obtain ⟨z, l, rfl, h1, h2, h3, h4⟩ := dctOf_ok r3 hd (Rep.ext e3 q w rw')
        by_cases hc : isKey k = true ∧ kvs.length < sizeLine
        · rw [if_pos hc] at p3
          obtain ⟨k', kr, rfl⟩ := isKey_ok hc.1 ry
          have x3 := Ext.set (o := .dK (putK l k' v)) r3 h1
          refine ⟨z, _, rfl, DPut.k h2 (by rw [KVs.length h3]; exact hc.2), ?_⟩
          exact p3 ρ3 _ σ x3 (r3.set h1 ⟨_, upd_same, KVs.put kr (Rep.ext ((e2.trans e3).trans x3) d v rv) (KVs.ext x3 _ _ h3)⟩) ((((hE.ext e1).ext e2).ext e3).ext x3)
        · rw [if_neg hc] at p3; exact p3.elim
      · exact p3.elim⟩⟩⟩
/-- xs[i] = e -/
def setL (fv fo fk : Ev → M D) : SF := fun η st => (fv η st).bs η fun d s1 => (fo η s1).bs η fun q s2 => (fk η s2).bs η fun k s3 => match q, k with
  | .ref n, .int i => (match s3[n]? with
    | some (.lst ds) => (match ixN ds.length i with
      | some j => .nx η (s3.set n (.lst (ds.set j d)))
      | none => .bad)
    | _ => .bad)
  | _, _ => .bad
theorem tSetL_of {D : Ends} {σ : St} {H : Hp} (q : tOfS N W X.K (setL fv fo fb) D σ H) : tAsg (tOf N W X.K fv) (gSub (tOf N W X.K fo) (tOf N W X.K fb) rSetL) D σ H := by
  obtain ⟨η, st, ρ, hE, hR, hP⟩ := q
  refine ⟨η, st, ρ, hE, hR, SPost.bs hP hE fun d s1 ρ1 H1 e1 r1 p1 v rv => ⟨η, s1, ρ1, hE.ext e1, r1, SPost.bs p1 (hE.ext e1) fun q s2 ρ2 H2 e2 r2 p2 w rw' =>
    ⟨η, s2, ρ2, (hE.ext e1).ext e2, r2, SPost.bs p2 ((hE.ext e1).ext e2) fun k s3 ρ3 H3 e3 r3 p3 y ry => ?_⟩⟩⟩
  split at p3
  · rename_i n i
    obtain ⟨z, hz, rfl⟩ := Rep.ext e3 _ w rw'
    have ry : y = .int i := ry
    subst ry
    split at p3
    · rename_i ds h1
      obtain ⟨vs, g1, g2⟩ := ref_lst r3 hz h1
      split at p3
      · rename_i j hj
        refine ⟨z, vs, i, j, rfl, rfl, g1, by rw [Reps.length g2]; exact hj, ?_⟩
        have x3 := Ext.set (o := .lst (vs.set j v)) r3 hz
        exact p3 ρ3 _ σ x3 (r3.set hz ⟨_, upd_same, Reps.set j (Reps.ext x3 _ _ g2) (Rep.ext ((e2.trans e3).trans x3) d v rv)⟩) ((((hE.ext e1).ext e2).ext e3).ext x3)
      · exact p3.elim
    · exact p3.elim
  · exact p3.elim
theorem s_lput (h : PS X st (tAsg (tOf N W X.K fv) (gSub (tOf N W X.K fo) (tOf N W X.K fb) rSetL))) : SS N W X st (setL fv fo fb) := PS.imp h fun _ _ _ q => tSetL_of q
/-! ## targets -/
abbrev TgF := D → Ev → Option Ev
def tgN (i : Nat) : TgF := fun d η => some (η.set i (some d))
def setMany : List Nat → List D → Ev → Option Ev
  | [], [], η => some η
  | i :: is, d :: ds, η => setMany is ds (η.set i (some d))
  | _, _, _ => none
def tgT (is : List Nat) : TgF := fun d η => match d with
  | .tup ds => setMany is ds η
  | _ => none
/-- a target and what it does -/
def TgOk (N : Nm) (X : Cx) (tg : Expr) (t : TgF) (g : TG) : Prop := PG X tg g ∧ ∀ (ρ : List Addr) (H : Hp) (d : D) (v : V) (η η' : Ev) (σ : St) (Q : St → Hp → Prop), t d η = some η' → Rep X.K ρ H d v → ERel N X.K ρ H η σ → (∀ σ', ERel N X.K ρ H η' σ' → Q σ' H) → g v σ H Q
theorem tg_name (i : Nat) (hz : N.off i) (hN : X.N.Nodup) (hi : X.N[i]? = some x) (hx : Loc X.env.scope x) (hf : X.fn x = true ∨ X.env.scope.names.lookup x = some .local := by first | exact .inl rfl | exact .inr rfl | assumption) : TgOk N X (.Name x pos) (tgN i) (gName i) :=
  ⟨pg_name hN hi hx hf, fun ρ H d v η η' σ Q h rv hE q => by
    cases h
    exact q _ (hE.set hz rv)⟩
/-- names one after another -/
def gNames : List Nat → TGs
  | [] => gNil
  | i :: is => gCons (gName i) (gNames is)
theorem gNames_of {ρ : List Addr} {H : Hp} {K : PySem.W.Frag} : ∀ (is : List Nat) (ds : List D) (vs : List V) (η η' : Ev) (σ : St) (Q : St → Hp → Prop), setMany is ds η = some η' → (∀ i ∈ is, N.off i) → Reps K ρ H ds vs → ERel N K ρ H η σ → (∀ σ', ERel N K ρ H η' σ' → Q σ' H) → gNames is vs σ H Q
  | [], [], vs, η, η', σ, Q, h, hz, rs, hE, q => by
    cases h
    have rs : vs = [] := rs
    exact ⟨rs, q _ hE⟩
  | i :: is, d :: ds, vs, η, η', σ, Q, h, hz, rs, hE, q => by
    obtain ⟨v, r, rfl, h1, h2⟩ := rs
    exact ⟨v, r, rfl, gNames_of is ds r _ η' _ Q h (fun j hj => hz j (List.mem_cons_of_mem _ hj)) h2 (hE.set (hz i List.mem_cons_self) h1) q⟩
  | [], _ :: _, _, _, _, _, _, h, _, _, _, _ => by cases h
  | _ :: _, [], _, _, _, _, _, h, _, _, _, _ => by cases h
theorem setMany_len : ∀ (is : List Nat) (ds : List D) (η η' : Ev), setMany is ds η = some η' → ds.length = is.length
  | [], [], _, _, _ => rfl
  | i :: is, d :: ds, η, η', h => by simp [setMany_len is ds _ _ h]
  | [], _ :: _, _, _, h => by cases h
  | _ :: _, [], _, _, h => by cases h
theorem tg_tup {es : List Expr} {k : Nat} {is : List Nat} (hz : ∀ i ∈ is, N.off i) (hp : PG X (.Tuple es k pos) (gTup X.K is.length (gNames is))) : TgOk N X (.Tuple es k pos) (tgT is) (gTup X.K is.length (gNames is)) :=
  ⟨hp, fun ρ H d v η η' σ Q h rv hE q => by
    unfold tgT at h
    split at h
    · obtain ⟨a, vs, rfl, sa, ra⟩ := rv
      exact ⟨a, vs, rfl, sa.sq, by rw [Reps.length ra, setMany_len _ _ _ _ h], gNames_of is _ vs η η' σ Q h hz ra hE q⟩
    · cases h⟩
/-- (a, b, ..) = e -/
def unpS (t : TgF) (fa : Ev → M D) : SF := fun η st => (fa η st).bs η fun d s => match t d η with
  | some η' => .nx η' s
  | none => .bad
theorem s_unp {tg : Expr} {t : TgF} {g : TG} (ht : TgOk N X tg t g) (h : PS X st (tAsg (tOf N W X.K fa) g)) : SS N W X st (unpS t fa) := PS.imp h fun D σ H ⟨η, st, ρ, hE, hR, hP⟩ =>
  ⟨η, st, ρ, hE, hR, SPost.bs hP hE fun d s1 ρ1 H1 e1 r1 p1 v rv => by
    split at p1
    · rename_i η' hη
      exact ht.2 ρ1 H1 d v η η' σ D.nx hη rv (hE.ext e1) fun σ' hE' => p1 ρ1 H1 σ' (Ext.refl _ _) r1 hE'
    · exact p1.elim⟩
/-- a, b = x, y -/
def parS (i j : Nat) (fs : Ev → M (List D)) : SF := fun η st => (fs η st).bs η fun ds s => match ds with
  | [d, e] => .nx ((η.set i (some d)).set j (some e)) s
  | _ => .bad
theorem s_par {i j : Nat} {fs : Ev → M (List D)} (hi : N.off i) (hj : N.off j) (h : PS X st (tPar i j (tOfA N W X.K fs))) : SS N W X st (parS i j fs) := PS.imp h fun D σ H ⟨η, st, ρ, hE, hR, hP⟩ =>
  ⟨η, st, ρ, hE, hR, SPost.bs hP hE fun ds s1 ρ1 H1 e1 r1 p1 vs rs => by
    split at p1
    · obtain ⟨v, w, rfl, rv, rw'⟩ := reps2 rs
      exact ⟨v, w, rfl, p1 ρ1 H1 _ (Ext.refl _ _) r1 (((hE.ext e1).set hi rv).set hj rw')⟩
    · exact p1.elim⟩
end
/-! ## for -/
def loop (t : TgF) (chk : S → Bool) (body : SF) : List D → Ev → S → SR
  | [], η, s => if chk s = true then .nx η s else .bad
  | d :: ds, η, s => if chk s = true then (match t d η with
    | none => .bad
    | some η1 => match body η1 s with
      | .nx η2 s2 => loop t chk body ds η2 s2
      | .ct η2 s2 => loop t chk body ds η2 s2
      | .bk η2 s2 => .nx η2 s2
      | r => r) else .bad
/-- what is walked -/
def itemsI (s : S) : D → Option (List D)
  | .str x => some (x.cps.toList.map fun c => D.str ⟨#[c]⟩)
  | d => itemsOf s d
def chkOf (ds : List D) : D → S → Bool
  | .ref n => fun s => match s[n]? with
    | some o => beqO o (.lst ds)
    | none => false
  | _ => fun _ => true
def forS (fa : Ev → M D) (t : TgF) (body : SF) : SF := fun η st => (fa η st).bs η fun d s => match itemsI s d with
  | some ds => loop t (chkOf ds d) body ds η s
  | none => .bad
def iSeq (K : PySem.W.Frag) (tl : TE) : TI := fun σ H R => tl σ H fun x H1 => (∃ a, x = .ref a ∧ (∃ xs, SqL K H1 a xs) ∧ R (Itl K a) H1) ∨ ((∃ a, x = .ref a ∧ (∃ xs, SqT K H1 a xs) ∧ R (Itt K a) H1) ∨ ∃ z, x = .str z ∧ R (Its z) H1)
section
variable {N : Nm} {W : WX} {X : Cx} {pos pos' : Pos} {a b c e o tg : Expr} {fa fb fc fo fv : Ev → M D} {ba : Ev → M Bool} {f f1 f2 : SF} {st : Stmt} {sts sts2 : List Stmt} {i : Nat} {x : Str} {t : TgF} {g : TG}
theorem pi_seq {l : Expr} {tl : TE} (hl : PE X l tl) : PI X tg l (iSeq X.K tl) := by
  refine ⟨fun pins s σ H R I h => thn (hl.run pins s σ H _ I h) fun v s1 ⟨x, H1, I1, r1, q1⟩ => ?_⟩
  rcases q1 with ⟨a, rfl, ⟨xs, hq⟩, q⟩ | ⟨a, rfl, ⟨xs, hq⟩, q⟩ | ⟨z, rfl, q⟩
  · cases r1
    obtain ⟨its, rv, p, hz⟩ := I1.list hq
    exact wpAny_pyIter_list p.isList (pi_one (tk := s1.toks) I1 _ (turn_list a _) ⟨_, Heap.get?_push_size _ rfl, rfl, rfl⟩ q)
  · cases r1
    obtain ⟨its, rv, p, hz⟩ := I1.tuple hq
    exact wpAny_pyIter_tuple (show s1.heap.IsTuple a its.toArray from p) (pi_one (tk := s1.toks) I1 _ (turn_tuple a _) ⟨_, Heap.get?_push_size _ rfl, rfl, rfl⟩ q)
  · obtain ⟨t, rfl⟩ := r1
    cases ha : z.cps.all (· < 128)
    · exact wpAny_pyIter_wide ha (pi_one (tk := s1.toks) I1 _ (turn_str _ z t "str_iterator" (.inr rfl)) ⟨_, Heap.get?_push_size _ rfl, rfl, rfl⟩ q)
    · exact wpAny_pyIter_ascii ha (pi_one (tk := s1.toks) I1 _ (turn_str _ z t "str_ascii_iterator" (.inl rfl)) ⟨_, Heap.get?_push_size _ rfl, rfl, rfl⟩ q)
/-- the iterator J walks ds wherever Sd holds -/
structure Walks (K : PySem.W.Frag) (J : It) (ds : List D) (Sd : List Addr → Hp → S → Prop) : Prop where
  go : ∀ (i : Nat) ρ H s, Sd ρ H s → i < ds.length → J.go i H
  stop : ∀ (i : Nat) ρ H s, Sd ρ H s → ds.length ≤ i → J.stop i H
  yld : ∀ (i : Nat) ρ H s x H' d, Sd ρ H s → ds[i]? = some d → J.yld i H x H' → H' = H ∧ Rep K ρ H d x
theorem loop_of {J : It} {ds : List D} {chk : S → Bool} {Sd : List Addr → Hp → S → Prop} {D : Ends} {σ : St} {H : Hp} {η : Ev} {s : S} {ρ : List Addr} (w : Walks X.K J ds Sd) (hs : ∀ ρ' H' s', Ext ρ H ρ' H' → Rel N X.K ρ' H' s' → chk s' = true → Sd ρ' H' s') (ht : TgOk N X tg t g)
    (hE : ERel N X.K ρ H η σ) (hR : Rel N X.K ρ H s) (hP : SPost N X.K ρ H (loop t chk f ds η s) D W) :
    ∃ W' : Nat → Nat → St → Hp → Prop, (∃ m, W' 0 m σ H) ∧ ∀ i m σ H, W' i m σ H →
      (J.stop i H ∧ D.nx σ H) ∨ (J.go i H ∧ ∃ N' : St → Hp → Prop, (∀ σ' H', N' σ' H' → ∃ m', m' < m ∧ W' (i + 1) m' σ' H') ∧ ∀ x H', J.yld i H x H' → g x σ H' fun σ2 H2 => tOfS N W X.K f { D with nx := N', ct := N', bk := D.nx } σ2 H2) := by
  refine ⟨fun i m σ' H' => m = ds.length - i ∧ i ≤ ds.length ∧ ∃ η' s' ρ', Ext ρ H ρ' H' ∧ ERel N X.K ρ' H' η' σ' ∧ Rel N X.K ρ' H' s' ∧ SPost N X.K ρ' H' (loop t chk f (ds.drop i) η' s') D W, ⟨ds.length, by simp, Nat.zero_le _, η, s, ρ, Ext.refl _ _, hE, hR, by simpa using hP⟩, ?_⟩
  rintro i m σ' H' ⟨rfl, hi, η', s', ρ', x', hE', hR', hP'⟩
  by_cases hlt : i < ds.length
  · rw [List.drop_eq_getElem_cons hlt] at hP'
    unfold loop at hP'
    by_cases hc : chk s' = true
    · rw [if_pos hc] at hP'
      have sd := hs ρ' H' s' x' hR' hc
      refine .inr ⟨w.go i ρ' H' s' sd hlt, fun σ2 H2 => ∃ η2 s2 ρ2, Ext ρ H ρ2 H2 ∧ ERel N X.K ρ2 H2 η2 σ2 ∧ Rel N X.K ρ2 H2 s2 ∧ SPost N X.K ρ2 H2 (loop t chk f (ds.drop (i + 1)) η2 s2) D W, fun σ2 H2 h2 => ⟨ds.length - (i + 1), by omega, rfl, hlt, h2⟩, fun x H2 hy => ?_⟩
      obtain ⟨rfl, rx⟩ := w.yld i ρ' H' s' x H2 ds[i] sd (List.getElem?_eq_getElem hlt) hy
      cases hη : t ds[i] η' with
      | none => rw [hη] at hP'; exact hP'.elim
      | some η1 =>
        rw [hη] at hP'
        refine ht.2 ρ' _ ds[i] x η' η1 σ' _ hη rx hE' fun σ2 hE2 => ⟨η1, s', ρ', hE2, hR', ?_⟩
        dsimp only at hP'
        cases z : f η1 s' with
        | nx η2 s2 => rw [z] at hP'; exact fun ρ3 H3 σ3 e3 r3 E3 => ⟨η2, s2, ρ3, x'.trans e3, E3, r3, SPost.ext e3 hP'⟩
        | ct η2 s2 => rw [z] at hP'; exact fun ρ3 H3 σ3 e3 r3 E3 => ⟨η2, s2, ρ3, x'.trans e3, E3, r3, SPost.ext e3 hP'⟩
        | bk η2 s2 => rw [z] at hP'; exact hP'
        | rt d s2 => rw [z] at hP'; exact hP'
        | ex c fs η2 s2 => rw [z] at hP'; exact hP'
        | bad => rw [z] at hP'; exact hP'
    · rw [if_neg hc] at hP'; exact hP'.elim
  · have e : i = ds.length := by omega
    subst e
    rw [List.drop_length] at hP'
    unfold loop at hP'
    by_cases hc : chk s' = true
    · rw [if_pos hc] at hP'
      exact .inl ⟨w.stop _ ρ' H' s' (hs ρ' H' s' x' hR' hc) (Nat.le_refl _), hP' ρ' H' σ' (Ext.refl _ _) hR' hE'⟩
    · rw [if_neg hc] at hP'; exact hP'.elim
/-- what stands when a value is walked -/
theorem walk_of_val {ρ : List Addr} {H : Hp} {d : D} {v : V} {s : S} {ds : List D} (hR : Rel N X.K ρ H s) (h : itemsI s d = some ds) (rv : Rep X.K ρ H d v) {R : It → Hp → Prop}
    (q : ∀ J Sd, Walks X.K J ds Sd → (∀ ρ' H' s', Ext ρ H ρ' H' → Rel N X.K ρ' H' s' → chkOf ds d s' = true → Sd ρ' H' s') → R J H) :
    (∃ a, v = .ref a ∧ (∃ xs, SqL X.K H a xs) ∧ R (Itl X.K a) H) ∨ ((∃ a, v = .ref a ∧ (∃ xs, SqT X.K H a xs) ∧ R (Itt X.K a) H) ∨ ∃ z, v = .str z ∧ R (Its z) H) := by
  have wl : ∀ {a : Addr}, Walks X.K (Itl X.K a) ds (fun ρ' H' s' => ∃ vs, SqL X.K H' a vs ∧ Reps X.K ρ' H' ds vs) := fun {a} => {
    go := fun i ρ' H' s' ⟨vs, h1, h2⟩ hi => ⟨vs, vs[i]'(by rw [Reps.length h2]; exact hi), h1, List.getElem?_eq_getElem _⟩
    stop := fun i ρ' H' s' ⟨vs, h1, h2⟩ hi => ⟨vs, h1, by rw [Reps.length h2]; exact hi⟩
    yld := fun i ρ' H' s' x H2 d ⟨vs, h1, h2⟩ hd ⟨e, y⟩ => by
      obtain ⟨v, g1, g2⟩ := Reps.get h2 hd
      have := y vs h1
      rw [g1] at this; cases this
      exact ⟨e, g2⟩ }
  have wt : ∀ {a : Addr}, Walks X.K (Itt X.K a) ds (fun ρ' H' s' => ∃ vs, SqT X.K H' a vs ∧ Reps X.K ρ' H' ds vs) := fun {a} => {
    go := fun i ρ' H' s' ⟨vs, h1, h2⟩ hi => ⟨vs, vs[i]'(by rw [Reps.length h2]; exact hi), h1, List.getElem?_eq_getElem _⟩
    stop := fun i ρ' H' s' ⟨vs, h1, h2⟩ hi => ⟨vs, h1, by rw [Reps.length h2]; exact hi⟩
    yld := fun i ρ' H' s' x H2 d ⟨vs, h1, h2⟩ hd ⟨e, y⟩ => by
      obtain ⟨v, g1, g2⟩ := Reps.get h2 hd
      have := y vs h1
      rw [g1] at this; cases this
      exact ⟨e, g2⟩ }
  cases d with
  | str z =>
    simp only [itemsI] at h
    cases h
    refine .inr (.inr ⟨z, rv, q (Its z) (fun _ _ _ => True) ?_ fun _ _ _ _ _ _ => trivial⟩)
    exact {
      go := fun i _ _ _ _ hi => (show i < z.cps.size by simpa using hi)
      stop := fun i _ _ _ _ hi => (show z.cps.size ≤ i by simpa using hi)
      yld := fun i ρ' H' s' x H2 d _ hd ⟨e, c, g1, g2⟩ => by
        subst g2
        rw [List.getElem?_map] at hd
        have : z.cps.toList[i]? = some c := by simpa using g1
        rw [this] at hd
        have hd : D.str ⟨#[c]⟩ = d := Option.some.inj hd
        subst hd
        exact ⟨e, rfl⟩ }
  | tup es =>
    simp only [itemsI, itemsOf] at h
    cases h
    obtain ⟨a, vs, rfl, sa, ra⟩ := rv
    exact .inr (.inl ⟨a, rfl, ⟨vs, sa.sq⟩, q _ _ wt fun ρ' H' s' x r _ => ⟨vs, (TupN.ext x sa).sq, Reps.ext x _ _ ra⟩⟩)
  | scr ns =>
    simp only [itemsI, itemsOf] at h
    cases h
    obtain ⟨a, rfl, h1⟩ := rv
    have sq : ∀ {H' : Hp}, (∃ o, H' a = some (.frz o (.lst (ns.map V.int)))) ∨ _ → SqL X.K H' a (ns.map V.int) := fun {H'} h1 => by
      rcases h1 with ⟨o, h1⟩ | h1
      · exact .inl (.inr ⟨o, h1⟩)
      · exact .inr h1
    refine .inl ⟨a, rfl, ⟨_, sq h1⟩, q _ _ wl fun ρ' H' s' x r _ => ⟨ns.map V.int, sq ?_, Reps.ints ns⟩⟩
    rcases h1 with ⟨o, h1⟩ | h1
    · exact .inl ⟨o, x.frz _ _ _ h1⟩
    · exact .inr h1
  | ref n =>
    simp only [itemsI, itemsOf] at h
    obtain ⟨a, ha, rfl⟩ := rv
    split at h
    · rename_i es h1
      cases h
      obtain ⟨vs, g1, g2⟩ := ref_lst hR ha h1
      refine .inl ⟨a, rfl, ⟨vs, SqL.of g1⟩, q _ _ wl fun ρ' H' s' x r hc => ?_⟩
      unfold chkOf at hc
      dsimp only at hc
      split at hc
      · rename_i o ho
        have := beqO_eq _ _ hc
        subst this
        obtain ⟨vs', g3, g4⟩ := ref_lst r (get_pre x.pre ha) ho
        exact ⟨vs', SqL.of g3, g4⟩
      · cases hc
    · cases h
  | non => simp [itemsI, itemsOf] at h
  | bl _ => simp [itemsI, itemsOf] at h
  | int _ => simp [itemsI, itemsOf] at h
theorem s_for (hp : PassesOwn (model X.prog X.w) X.A X.env X.xe) (hc : X.calm = true) (ha : SE N W X a fa) (ht : TgOk N X tg t g) (hb : SSs N W X sts f) (hs : ∀ x, foldedSetIterable a X.env x = pure x := by intro _; rfl) :
    SS N W X (.For tg a sts [] pos) (forS fa t f) := PS.imp (ps_for hp hc (pi_seq ha) ht.1 hb hs) fun D σ H ⟨η, st, ρ, hE, hR, hP⟩ => ⟨η, st, ρ, hE, hR, SPost.bs hP hE fun d s1 ρ1 H1 e1 r1 p1 v rv => by
    split at p1
    · rename_i ds hi
      exact walk_of_val (R := fun J H1 => ∃ W' : Nat → Nat → St → Hp → Prop, (∃ m, W' 0 m σ H1) ∧ ∀ i m σ H, W' i m σ H → (J.stop i H ∧ D.nx σ H) ∨ (J.go i H ∧ ∃ N' : St → Hp → Prop, (∀ σ' H', N' σ' H' → ∃ m', m' < m ∧ W' (i + 1) m' σ' H') ∧ ∀ x H', J.yld i H x H' → g x σ H' fun σ2 H2 => tOfS N W X.K f { D with nx := N', ct := N', bk := D.nx } σ2 H2)) r1 hi rv
        fun J Sd w hs => loop_of w hs ht (hE.ext e1) r1 p1
    · exact p1.elim⟩
/-- range -/
def rngL (lo : Int) : Nat → List D
  | 0 => []
  | n + 1 => .int lo :: rngL (lo + 1) n
theorem rngL_get : ∀ (n : Nat) (lo : Int) (i : Nat) (d : D), (rngL lo n)[i]? = some d → d = .int (lo + i)
  | 0, _, _, _, h => by simp [rngL] at h
  | n + 1, lo, 0, d, h => by simp [rngL] at h; rw [← h]; simp
  | n + 1, lo, i + 1, d, h => by
    rw [rngL_get n (lo + 1) i d (by simpa [rngL] using h)]
    congr 1; omega
theorem rngL_len : ∀ (n : Nat) (lo : Int), (rngL lo n).length = n
  | 0, _ => rfl
  | n + 1, lo => by simp [rngL, rngL_len n]
theorem walk_rng (K : PySem.W.Frag) (lo : Int) (n : Nat) : Walks K (Itr lo n) (rngL lo n) (fun _ _ _ => True) where
  go := fun i _ _ _ _ hi => by rw [rngL_len] at hi; exact hi
  stop := fun i _ _ _ _ hi => by rw [rngL_len] at hi; exact hi
  yld := fun i ρ H s x H' d _ hd ⟨e, y⟩ => by
    subst y
    rw [rngL_get n lo i d hd]
    exact ⟨e, rfl⟩
def small62 (i : Int) : Bool := decide (-4611686018427387904 ≤ i) && decide (i < 4611686018427387904)
def rng1 : List D → M (List D)
  | [.int j], s => if small62 j = true then .ok (rngL 0 j.toNat) s else .bad
  | _, _ => .bad
def rng2 : List D → M (List D)
  | [.int i, .int j], s => if (small62 i && small62 j) = true then .ok (rngL i (j - i).toNat) s else .bad
  | _, _ => .bad
theorem small62_ok {i : Int} (h : small62 i = true) : -(2 ^ 62) ≤ i ∧ i < 2 ^ 62 := by
  simp only [small62, Bool.and_eq_true, decide_eq_true_eq] at h
  omega
def forR (rg : List D → M (List D)) (fs : Ev → M (List D)) (t : TgF) (body : SF) : SF := fun η st => (fs η st).bs η fun ds s => (rg ds s).bs η fun is s2 => loop t (fun _ => true) body is η s2
theorem s_forR1 {fs : Ev → M (List D)} {p q : Pos} (hp : PassesOwn (model X.prog X.w) X.A X.env X.xe) (hc : X.calm = true) (hg : Gl X "range") (hm : X.mg "range" = none) (ha : SA N W X [a] fs) (ht : TgOk N X tg t g) (hb : SSs N W X sts f)
    (hst : starEach [a] X.env = [(false, eval a X.env)] := by rfl) (hs : ∀ x, foldedSetIterable (.Call (.Name "range" p) [a] [] q) X.env x = pure x := by intro _; rfl) :
    SS N W X (.For tg (.Call (.Name "range" p) [a] [] q) sts [] pos) (forR rng1 fs t f) := PS.imp (ps_for hp hc (pi_range1 hg hm ha hst) ht.1 hb hs) fun D σ H ⟨η, st, ρ, hE, hR, hP⟩ => ⟨η, st, ρ, hE, hR, SPost.bs hP hE fun ds s1 ρ1 H1 e1 r1 p1 vs rs => by
    unfold rng1 at p1
    split at p1
    · obtain ⟨v, rfl, rv⟩ := reps1 rs
      have rv : v = .int _ := rv
      subst rv
      split at p1
      · rename_i hs
        obtain ⟨h1, h2⟩ := small62_ok hs
        exact ⟨_, rfl, h1, h2, loop_of (walk_rng X.K 0 _) (fun _ _ _ _ _ _ => trivial) ht (hE.ext e1) r1 p1⟩
      · exact p1.elim
    · exact p1.elim⟩
theorem s_forR2 {fs : Ev → M (List D)} {p q : Pos} (hp : PassesOwn (model X.prog X.w) X.A X.env X.xe) (hc : X.calm = true) (hg : Gl X "range") (hm : X.mg "range" = none) (ha : SA N W X [a, b] fs) (ht : TgOk N X tg t g) (hb : SSs N W X sts f)
    (hst : starEach [a, b] X.env = [(false, eval a X.env), (false, eval b X.env)] := by rfl) (hst2 : starEach [b] X.env = [(false, eval b X.env)] := by rfl) (hs : ∀ x, foldedSetIterable (.Call (.Name "range" p) [a, b] [] q) X.env x = pure x := by intro _; rfl) :
    SS N W X (.For tg (.Call (.Name "range" p) [a, b] [] q) sts [] pos) (forR rng2 fs t f) := PS.imp (ps_for hp hc (pi_range2 hg hm ha hst hst2) ht.1 hb hs) fun D σ H ⟨η, st, ρ, hE, hR, hP⟩ => ⟨η, st, ρ, hE, hR, SPost.bs hP hE fun ds s1 ρ1 H1 e1 r1 p1 vs rs => by
    unfold rng2 at p1
    split at p1
    · obtain ⟨v, w, rfl, rv, rw'⟩ := reps2 rs
      have rv : v = .int _ := rv
      have rw' : w = .int _ := rw'
      subst rv rw'
      split at p1
      · rename_i hs
        obtain ⟨hs1, hs2⟩ := Bool.and_eq_true_iff.mp hs
        obtain ⟨h1, h2⟩ := small62_ok hs1
        obtain ⟨h3, h4⟩ := small62_ok hs2
        exact ⟨_, _, rfl, ⟨h1, h2, h3, h4⟩, loop_of (walk_rng X.K _ _) (fun _ _ _ _ _ _ => trivial) ht (hE.ext e1) r1 p1⟩
      · exact p1.elim
    · exact p1.elim⟩
/-! ## while -/
def whl (c : Ev → M Bool) (body : SF) : Nat → Ev → S → SR
  | 0, _, _ => .bad
  | n + 1, η, s => (c η s).bs η fun k s1 => if k = true then (match body η s1 with
    | .nx η2 s2 => whl c body n η2 s2
    | .ct η2 s2 => whl c body n η2 s2
    | .bk η2 s2 => .nx η2 s2
    | r => r) else .nx η s1
def whileS (n : Nat) (c : Ev → M Bool) (body : SF) : SF := fun η st => whl c body n η st
theorem s_while {n : Nat} (hp : PassesOwn (model X.prog X.w) X.A X.env X.xe) (hc : SB N W X c ba) (hb : SSs N W X sts f) : SS N W X (.While c sts [] pos) (whileS n ba f) := PS.imp (ps_while hp hc hb) fun D σ H ⟨η, st, ρ, hE, hR, hP⟩ => by
  refine ⟨fun m σ' H' => ∃ η' s' ρ', ERel N X.K ρ' H' η' σ' ∧ Rel N X.K ρ' H' s' ∧ SPost N X.K ρ' H' (whl ba f m η' s') D W, ⟨n, η, st, ρ, hE, hR, hP⟩, ?_⟩
  rintro m σ' H' ⟨η', s', ρ', hE', hR', hP'⟩
  cases m with
  | zero => exact hP'.elim
  | succ m =>
    unfold whl at hP'
    refine ⟨η', s', ρ', hE', hR', SPost.bs hP' hE' fun k s1 ρ1 H1 e1 r1 p1 => ?_⟩
    cases k with
    | false => exact p1 ρ1 H1 σ' (Ext.refl _ _) r1 (hE'.ext e1)
    | true =>
      refine ⟨fun σ2 H2 => ∃ η2 s2 ρ2, ERel N X.K ρ2 H2 η2 σ2 ∧ Rel N X.K ρ2 H2 s2 ∧ SPost N X.K ρ2 H2 (whl ba f m η2 s2) D W, fun σ2 H2 h2 => ⟨m, Nat.lt_succ_self _, h2⟩, η', s1, ρ1, hE'.ext e1, r1, ?_⟩
      have p2 : SPost N X.K ρ1 H1 (match f η' s1 with
        | .nx η2 s2 => whl ba f m η2 s2
        | .ct η2 s2 => whl ba f m η2 s2
        | .bk η2 s2 => .nx η2 s2
        | r => r) D W := p1
      cases z : f η' s1 with
      | nx η2 s2 => rw [z] at p2; exact fun ρ3 H3 σ3 e3 r3 E3 => ⟨η2, s2, ρ3, E3, r3, SPost.ext e3 p2⟩
      | ct η2 s2 => rw [z] at p2; exact fun ρ3 H3 σ3 e3 r3 E3 => ⟨η2, s2, ρ3, E3, r3, SPost.ext e3 p2⟩
      | bk η2 s2 => rw [z] at p2; exact p2
      | rt d s2 => rw [z] at p2; exact p2
      | ex c fs η2 s2 => rw [z] at p2; exact p2
      | bad => rw [z] at p2; exact p2
end
/-! ## a def -/
def runB (n : Nat) (f : SF) (ds : List D) : M D := fun st => match f (ds.map some ++ List.replicate (n - ds.length) none) st with
  | .nx _ s => .ok .non s
  | .rt d s => .ok d s
  | .ex c fs _ s => .ex c fs s
  | _ => .bad
def fnF (n : Nat) (f : SF) (ds : List D) : M D := fun st => gc st (runB n f ds st)
theorem start_rel {N : Nm} (hz : N.z = none) {K : PySem.W.Frag} {ρ : List Addr} {H : Hp} {ds : List D} {vs : List V} {Nn : List Str} (h : Reps K ρ H ds vs) : ERel N K ρ H (ds.map some ++ List.replicate (Nn.length - ds.length) none) (L2.start Nn vs) := by
  unfold L2.start
  have hl := Reps.length h
  refine ⟨by simp [hl], fun i d e => ?_, fun z e => (by rw [hz] at e; cases e)⟩
  by_cases hi : i < ds.length
  · rw [List.getElem?_append_left (by simpa using hi), List.getElem?_map] at e
    cases q : ds[i]? with
    | none => rw [q] at e; cases e
    | some d' =>
      rw [q] at e
      have e : d' = d := Option.some.inj (Option.some.inj e)
      subst e
      obtain ⟨v, h1, h2⟩ := Reps.get h q
      exact ⟨v, by rw [List.getElem?_append_left (by simpa [hl] using hi), List.getElem?_map, h1]; rfl, h2⟩
  · rw [List.getElem?_append_right (by simpa using Nat.le_of_not_lt hi)] at e
    rw [List.getElem?_replicate] at e
    split at e <;> cases e
/-- a context of the law: a def's, a block's, .. -/
structure Ctx0 (g : G) (Nn : List Str) (sc : Scope) (X : Cx) : Prop where
  inn : g.In X
  nm : X.N = Nn
  sc : X.env.scope = sc
  un : X.A.units + 64 < cLine
structure Ctx (g : G) (k : Nat) (Nn : List Str) (sc : Scope) (X : Cx) (W : WX) : Prop extends Ctx0 g Nn sc X where
  calm : X.calm = true
  room : Room k X.A
  pass : Passing X W
/-- a def's, or that of a try's suite -/
structure DefC (g : G) (k : Nat) (Nn : List Str) (sc : Scope) (q : Str) (cd : Value) (X : Cx) (W : WX) : Prop extends Ctx g k Nn sc X W where
  fn : ∀ y, X.fn y = true
  takes : Takes X W
  own : PassesOwn (model X.prog X.w) X.A X.env X.xe
  stack : X.stack = X.env :: X.outer
  frame : X.env.frame = some X.env.locals
  qual : X.env.qual = q ++ ".<locals>."
  code : X.env.code = cd
theorem fn_okP {g : G} {k n : Nat} {f : Addr} {x qual : Str} {st : Stmt} {fd : FuncData} {Nn ps : List Str} {body : SF} (F : L2.Fun g.K x qual st f fd) (Sc : FnScope Nn ps (defScope st)) (hb : Binds g.K fd ps []) (hn : ps.length = n)
    (hbody : ∀ (X : Cx) (W : WX), DefC g k Nn (defScope st) qual fd.code X W → SSs g.N W X (defBody st) body) :
    FnOk g.P g.w g.K g.mg g.base (L2.CX g.P g.w) (k + 1) f fd ps (spF g.N g.K n (fnF Nn.length body)) := by
  obtain ⟨oc, od, kV, doc, pm, an, cdv, ct, osl, rfl, lk, hcd⟩ := F.ex
  refine fn_of lk hcd Sc (fun vs H Q E h => ?_) fun A outer s H vs Q E hr h => ?_
  · obtain ⟨ρ, st, ds, _, h2, h3, _⟩ := h
    rw [Reps.length h2, h3, hn]
  · obtain ⟨ρ, st', ds, hR, hrs, _, hP⟩ := h
    have tk : Takes (cxOf (L2.CX g.P g.w) g.P g.w g.K g.mg g.base Nn qual (defScope st) f cdv A outer s H E) (fun cls d _ H => E cls d H) := takes_of rfl rfl rfl rfl
    refine ⟨_, hbody (cxOf (L2.CX g.P g.w) g.P g.w g.K g.mg g.base Nn qual (defScope st) f cdv A outer s H E) (fun cls d _ H => E cls d H) ⟨⟨⟨⟨rfl, rfl, rfl, rfl, rfl⟩, rfl, rfl, hr.units⟩, rfl, hr, fun σ => passAt tk σ⟩, fun _ => rfl, tk, passes_of rfl, rfl, rfl, rfl, rfl⟩, ?_⟩
    refine ⟨_, st', ρ, start_rel g.hz hrs, hR, ?_⟩
    have hP := gc_post hR hP
    unfold runB at hP
    split at hP
    · rename_i z
      rw [z]
      exact fun ρ' H' σ' x r e => hP ρ' H' x r .non rfl
    · rename_i z
      rw [z]
      exact fun ρ' H' v x r e => hP ρ' H' x r v e
    · rename_i z
      rw [z]
      exact fun ρ' H' dx σ' x r q e => hP ρ' H' dx x r q
    · exact hP.elim
theorem fn_ok {g : G} {k n : Nat} {f : Addr} {x qual : Str} {st : Stmt} {fd : FuncData} {Nn ps : List Str} {body : SF} (F : L2.Fun g.K x qual st f fd) (Sc : FnScope Nn ps (defScope st)) (hb : Binds g.K fd ps []) (hn : ps.length = n)
    (hbody : ∀ (X : Cx) (W : WX), DefC g k Nn (defScope st) qual fd.code X W → SSs g.N W X (defBody st) body) : g.Fn (k + 1) f n (fnF Nn.length body) := ⟨fd, ps, hb, hn, fn_okP F Sc hb hn hbody⟩
end Mi
set_option Elab.async false
set_option linter.all false
set_option maxRecDepth 100000
set_option maxHeartbeats 2000000
namespace Mi
open PySem PySem.Spec PyProof.Rows L2
/-! ## an exception out of a comprehension -/
abbrev blkX (X : Cx) (s : Shared) (H : Hp) (scope : Scope) (cenv : Env) (fp : List Addr) (E : Value → Shared → Prop) : Cx := (X.blk s H scope cenv fp).wish E
theorem hide (h : Heap) (C : Addr) : ∃ G : Heap, (∀ b, b ≠ C → G.get? b = h.get? b) ∧ G.get? C = none := by
  obtain ⟨G, h1, h2⟩ := restrict h fun b => decide (b ≠ C)
  exact ⟨G, fun b hb => h1 b (decide_eq_true hb), h2 C (by simp)⟩
section
variable {X : Cx} {pins : List (Addr × Obj)} {σ : L2.St} {H : Hp} {s s' : Shared}
/-- a call's exception, flying over our frames -/
theorem call_air {E : XK} {u : Value} (I : Inv X pins σ H s) (c : L2.CX X.prog X.w X.stack H s E u s') :
    ∃ (a : Addr) (B : Heap) (sI : Shared) (H' : Hp) (cls : Value) (d : Option Addr), u = .ref a ∧ Inv X pins σ H' sI ∧ (∀ b o, sI.heap.get? b = some o → b ∉ frs X.stack → B.get? b = some o) ∧ sI.heap.UpToSlots s'.heap ∧
      HandSPX.FlyingZ B X.stack a (Zc cls d) s'.heap ∧ H' a = none ∧ s'.os = sI.os ∧ AllBare s'.gens ∧ E cls d H' := by
  obtain ⟨a, B, H', cls, d, rfl, fl, hok, ub, na, os, ag, hE⟩ := c
  obtain ⟨Gr, g1, g2⟩ := restrict s'.heap fun b => (B.get? b).isSome || decide (b ∈ frs X.stack)
  have inB : ∀ b o, B.get? b = some o → Gr.get? b = some o := fun b o e => (g1 b (by rw [e]; rfl)).trans (fl.1 b o e)
  have inF : ∀ b, b ∈ frs X.stack → Gr.get? b = s'.heap.get? b := fun b hb => g1 b (by rw [decide_eq_true hb, Bool.or_true])
  have back : ∀ b o, Gr.get? b = some o → s'.heap.get? b = some o ∧ ((B.get? b).isSome = true ∨ b ∈ frs X.stack) := fun b o e => by
    by_cases q : ((B.get? b).isSome || decide (b ∈ frs X.stack)) = true
    · rw [g1 b q] at e
      exact ⟨e, (Bool.or_eq_true_iff.mp q).imp id of_decide_eq_true⟩
    · rw [g2 b (by simpa using q)] at e; cases e
  refine ⟨a, B, { s with heap := Gr, gens := s'.gens, drawn := s'.drawn, toks := s'.toks }, H', cls, d, rfl, ?_, fun b o e hb => ?_, Heap.UpToSlots.of_keeps fun b o e => (back b o e).1, fl, na, os, ag, hE⟩
  · refine I.call (ch := []) ⟨fun b o e n hb _ => inB b o (ub.keep b o e n hb), fun b o e n hb _ => ?_, fun b o e n _ => ub.free b o e n, fun b o e _ => ?_, ub.tups, ub.frzs, ub.tbls⟩ (hok.kept inB) ag (fun _ z => nomatch z)
    · obtain ⟨sl, q⟩ := ub.slot b o e hb
      exact ⟨sl, (inF b hb).trans q⟩
    · by_cases hb : b ∈ frs X.stack
      · obtain ⟨sl, q⟩ := ub.slot b o e hb
        exact ⟨_, (inF b hb).trans q⟩
      · obtain ⟨o', q⟩ := ub.there b o e hb
        exact ⟨o', inB b o' q⟩
  · obtain ⟨e', h⟩ := back b o e
    obtain ⟨o', q⟩ := Option.isSome_iff_exists.mp (h.resolve_right hb)
    have z := fl.1 b o' q
    rw [e'] at z; cases z
    exact q
/-- .. out of a comprehension's block at C, begun at s3 -/
theorem blk_passes {W : WX} {scope : Scope} {ce : Env} {fp : List Addr} {s3 : Shared} {H3 : Hp} (hs : X.stack = X.env :: X.outer) (hf : X.env.frame = some X.env.locals) (tk : Takes X W) (I3 : Inv X pins σ H3 s3) (f3 : ∀ b ∈ fp, FpOk X pins H3 b ∧ b < s3.heap.objs.size)
    (cF : ce.frame = X.env.frame) (cL : ce.locals = s3.heap.objs.size) (σ' : L2.St) :
    PassesAt (L2.CX X.prog X.w) (blkX X s3 H3 scope ce fp (notedBy (model X.prog X.w) X.A ce (CompFails (model X.prog X.w) X.A X.xe ce))) σ' (fun cls d H' => W cls d σ H') := fun pins' H s e s' I c => by
  obtain ⟨a, B, sI, H', cls, d, rfl, J, nb, up, fl, na, os, ag, hW⟩ := call_air (X := blkX X s3 H3 scope ce fp _) I c
  have hfr : X.A.frames = some (X.env :: X.outer) := by rw [I3.ok.frames, hs]
  have nb : ∀ b o, sI.heap.get? b = some o → b ∉ frs X.stack → B.get? b = some o := nb
  have fl : HandSPX.FlyingZ B (X.env :: X.outer) a (Zc cls d) s'.heap := by rw [← hs]; exact fl
  show wpAny _ _ (noteFrame (.ref a) ce) _ _ _
  rw [noteFrame_env _ cF]
  refine HandSPX.looks_onZ Zc.steady hfr hf fl fun h1 hh1 up1 => ?_
  obtain ⟨m, hn, _⟩ := J.loc
  have hn : sI.heap.Ns ce.locals m := hn
  refine ⟨m, (hn.upToSlots up).upToSlots up1, fun h2 m2 hn2 hs2 => ?_⟩
  -- the ground without the block
  obtain ⟨B2, b1, b2⟩ := hide B ce.locals
  have bB : ∀ b o, B2.get? b = some o → B.get? b = some o ∧ b ≠ ce.locals := fun b o e => by
    have hne : b ≠ ce.locals := fun z => by rw [z, b2] at e; cases e
    exact ⟨(b1 b hne).symm.trans e, hne⟩
  have bN : ∀ b, B.get? b = none → B2.get? b = none := fun b e => by
    cases q : B2.get? b with
    | none => rfl
    | some o => rw [(bB b o q).1] at e; cases e
  obtain ⟨k1, k2, k3, oe, vs, T, oT, ts, he, hz, hd, g1, gn, gT, hT, hdT, g3⟩ := hh1
  have dC : ∀ {b : Addr} {o : Obj} {us : Array Value}, h1.get? b = some o → o.data = .fields us → b ≠ ce.locals := fun {b o us} e q z => by
    obtain ⟨oC, es, ep, hC, hdC, _⟩ := (hn.upToSlots up).upToSlots up1
    rw [z, hC] at e; cases e
    rw [hdC] at q; cases q
  have hh2 : HandSPX.HeldZ B2 (X.env :: X.outer) a (Zc cls d) X.env.locals h2 := by
    refine ⟨fun b o e => (hs2.2 b (bB b o e).2).trans (k1 b o (bB b o e).1), bN a k2, ?_, oe, vs, T, oT, ts, (hs2.2 a (dC he hd)).trans he, hz, hd, g1, bN T gn, gT, (hs2.2 T (dC hT hdT)).trans hT, hdT, g3⟩
    refine Heap.FunFrames.sameBut hs2 hn2 (funFrames_none k3 fun L hL => bN L ?_)
    obtain ⟨z, _⟩ := k3.mem hL
    exact z
  unfold PySem.passOn
  refine wpAny_bind (wpAny_field ((hs2.2 a (dC he hd)).trans he) hd g1 ?_)
  rw [if_neg (show ¬ ((Value.ref T == Value.none) = true) from by simp), cF, hf]
  have fin : wpAny (model X.prog X.w) X.A (setFlight (.ref a) (some X.env.locals)) (fun _ s4 => wpAny (model X.prog X.w) X.A (throw (.ref a) : Sem Value) (fun _ _ => False) X.xe s4) X.xe { s' with heap := h2 } := by
    refine HandSPX.setFlight_onZ hh2 fun h4 hh4 up4 => wpAny_throw (tk _ _ ?_)
    -- the state around, without the block
    have I7 : Inv X pins σ H' sI := I3.call' (ch := fp) J.os J.base J.hok J.bare fun b hb => ⟨(f3 b hb).1.2.2.2.1, (f3 b hb).1.2.1, (f3 b hb).1.2.2.2.2.1, (f3 b hb).1.2.2.2.2.2⟩
    have nC : H' ce.locals = none := J.free
    have fC := I3.fpOk (b := ce.locals) (H' := H') (by rw [cL]; exact Nat.le_refl _) nC
    obtain ⟨G, q1, q2⟩ := hide sI.heap ce.locals
    obtain ⟨f0, f1, f2, f4, f5, f6⟩ := fC
    have I8 : Inv X pins σ H' { sI with heap := G } := I7.turned (t' := sI.toks) (it := ce.locals) (fun b o hb e => (q1 b hb).trans e) f0 f1 f4 f5 f6
    have qG : ∀ b o, G.get? b = some o → sI.heap.get? b = some o ∧ b ≠ ce.locals := fun b o e => by
      have hne : b ≠ ce.locals := fun z => by rw [z, q2] at e; cases e
      exact ⟨(q1 b hne).symm.trans e, hne⟩
    refine ⟨a, B2, { sI with heap := G }, pins, σ, H', cls, d, rfl, I8, fun b o e hb => ?_, fun b o e hd' => ?_, .inr (.inr (by rw [hs]; exact hh4)), na, os, ag, hW⟩
    · obtain ⟨e1, e2⟩ := qG b o e
      exact (b1 b e2).trans (nb b o e1 hb)
    · obtain ⟨e1, e2⟩ := qG b o e
      obtain ⟨sl1, x1⟩ := up b o e1 hd'
      obtain ⟨sl2, x2⟩ := up1 b _ x1 hd'
      obtain ⟨sl3, x3⟩ := up4 b _ ((hs2.2 b e2).trans x2) hd'
      exact ⟨sl3, x3⟩
  first
    | exact wpAny_bind (wpAny_pure (wpAny_bind fin))
    | exact wpAny_bind fin
end
end Mi
set_option Elab.async false
set_option linter.all false
set_option maxRecDepth 100000
set_option maxHeartbeats 2000000
namespace Mi
open PySem PySem.Spec PyProof.Rows L2
/-! ## list comprehensions whose element may raise -/
abbrev atS (W : WX) (σ : L2.St) : WX := fun c d _ H => W c d σ H
/-- a block of X, begun at slots σ -/
def Blk (X : Cx) (W : WX) (σ : L2.St) (scope : Scope) (Y : Cx) : Prop := ∃ s H C cl fp E, Y = blkX X s H scope (compEnvC scope cl C X.env) fp E ∧ Passing Y (atS W σ)
def tLcX (wi : TI) (g : TG) (tt : L2.St → TT) (te : L2.St → TE) (vs : List Nat) : TE := fun σ H Q => wi σ H fun J H1 => ∀ D, H1 D = none → ∃ W : Nat → Nat → Hp → Prop, (∃ m, W 0 m (upd H1 D (.lst []))) ∧ ∀ i m H, W i m H →
  (J.stop i H ∧ Q (.ref D) H) ∨ (J.go i H ∧ ∃ Nx : Hp → Prop, (∀ H', Nx H' → ∃ m', m' < m ∧ W (i + 1) m' H') ∧ ∀ x H', J.yld i H x H' → g x (wipe σ vs) H' fun σ2 H2 => wipe σ2 vs = wipe σ vs ∧ tt σ σ2 H2 fun b H3 =>
    if b = true then te σ σ2 H3 fun y H4 => ∃ acc, H4 D = some (.lst acc) ∧ acc.length < sizeLine ∧ Nx (upd H4 D (.lst (acc ++ [y]))) else Nx H3)
section
variable {X : Cx} {W : WX}
theorem lc_coreX {pins : List (Addr × Obj)} {s : Shared} {σ : L2.St} {H : Hp} {Q : VK} {elt tg iter : Expr} {ifs : List Expr} {scope : Scope} {own : List (Str × Nat)} {pos pos' : Pos} {wi : TI} {g : TG} {tt : L2.St → TT} {te : L2.St → TE} {use : Option (Value → Sem Unit)} {Qf : Value → Shared → Prop}
    (hk : X.stack = X.env :: X.outer) (hf : X.env.frame = some X.env.locals) (tk : Takes X W)
    (hc : X.calm = true) (hN : X.N.Nodup) (I : Inv X pins σ H s) (hi : PI X tg iter wi) (ok : BlkOk X.N X.env.scope scope own)
    (hg : ∀ σ Y, Blk X W σ scope Y → PG Y tg g) (ht : ∀ σ Y, Blk X W σ scope Y → PTs Y ifs (tt σ)) (he : ∀ σ Y, Blk X W σ scope Y → PE Y elt (te σ)) (hs : ∀ x, foldedSetIterable iter X.env x = pure x)
    (h : tLcX wi g tt te (own.map (·.2)) σ H Q)
    (hRR : ∀ D (ce : Env) s' m H', Inv X pins σ H' s' → Q (.ref D) H' → s'.heap.Ns ce.locals m → FpOk X pins H' ce.locals → compEnds (model X.prog X.w) X.A X.xe use Qf (.ref D) ce (.ok .next) s') :
    wpAny (model X.prog X.w) X.A (comprehension (.ListComp elt [⟨tg, iter, ifs, 0⟩] scope pos) scope X.env pos' (newList []) false (eval iter X.env) use) Qf X.xe s := by
  have hfree : ∀ y ∈ scope.names, y.2 = .free → ∃ c, X.env.cells.lookup y.1 = some c := fun y hy e => by
    rcases ok.free y hy e with k | k
    · exact I.ok.has _ (.inl k)
    · exact I.ok.has _ (.inr k)
  refine comprehension_at (use := use) rfl hs (closure_ok hfree) ok.kind (fun y hy e => by rw [ok.uniq y hy, e])
    (thn (hi.run pins s σ H _ I h) fun xv s1 hx => thn hx fun itv s2 h2 => ?_)
  obtain ⟨it, fp, tn, J, H2, e, I2, T, st2, f2, q⟩ := h2
  subst e
  refine wpAny_newObj_type (newEnv_comp ?_) (by show 0 ≤ sizeLine; decide)
  generalize hD : s2.heap.objs.size = D
  have hDn : H2 D = none := I2.hok.fresh (Nat.le_of_eq hD)
  obtain ⟨W', ⟨m0, w0⟩, turn⟩ := q D hDn
  generalize hs3 : ({ s2 with heap := s2.heap.push { cls := .type "list", data := .seq ([] : List Value).toArray } } : Shared) = s3
  have I3 : Inv X pins σ (upd H2 D (.lst [])) s3 := by
    rw [← hs3]
    refine I2.laid (t' := s2.toks) (fun b o e => Heap.get?_push_of_some _ e) (Nat.le_of_eq hD) ⟨Nat.zero_le _, [], 0, .nil, ?_⟩
    rw [← hD]
    exact Heap.get?_push_size _ rfl
  have h3 : s3.heap = s2.heap.push { cls := .type "list", data := .seq ([] : List Value).toArray } := by rw [← hs3]
  have sz : ∀ b ∈ fp, b < s2.heap.objs.size := fun b hb => by
    obtain ⟨o, e, _⟩ := T.obj _ _ st2 b hb
    exact Heap.lt_size e
  have f3 : ∀ b ∈ fp, FpOk X pins (upd H2 D (.lst [])) b ∧ b < s3.heap.objs.size := fun b hb => by
    have hlt := sz b hb
    refine ⟨⟨?_, (f2 b hb).2⟩, by rw [h3, Heap.size_push]; exact Nat.lt_succ_of_lt hlt⟩
    rw [upd_ne (by rw [← hD]; exact Nat.ne_of_lt hlt)]
    exact (f2 b hb).1
  have st3 : tn 0 s3.heap := T.keep _ _ _ st2 fun b _ o e => by rw [h3]; exact Heap.get?_push_of_some _ e
  have I4 := block_start I3 ok hN f3
  show codeAny _ _ (.compStart (.ListComp elt [⟨tg, iter, ifs, 0⟩] scope pos) 0 (.ref it) (.ref D) (compEnvC scope (cellsFrom (s3.heap.objs.size + 1) scope.names (cloFrom X.env.cells scope.names [])) s3.heap.objs.size X.env))
    (compEnds (model X.prog X.w) X.A X.xe use Qf (.ref D) (compEnvC scope (cellsFrom (s3.heap.objs.size + 1) scope.names (cloFrom X.env.cells scope.names [])) s3.heap.objs.size X.env)) { s3 with heap := pushCells (s3.heap.push { cls := .type "dict", data := .dict #[] }) scope.names }
  have nfp : ∀ b ∈ fp, (upd H2 D (.lst [])) b = none := fun b hb => (f3 b hb).1.1
  generalize hcl : cellsFrom (s3.heap.objs.size + 1) scope.names (cloFrom X.env.cells scope.names []) = cl at I4 ⊢
  generalize hH3 : upd H2 D (.lst []) = H3 at I3 I4 w0 nfp f3
  have bk : ∀ ce : Env, ce = compEnvC scope cl s3.heap.objs.size X.env → Blk X W σ scope (blkX X s3 H3 scope ce fp (notedBy (model X.prog X.w) X.A ce (CompFails (model X.prog X.w) X.A X.xe ce))) := fun ce hce =>
    ⟨s3, H3, s3.heap.objs.size, cl, fp, notedBy (model X.prog X.w) X.A ce (CompFails (model X.prog X.w) X.A X.xe ce), by rw [← hce], fun σ' => blk_passes hk hf tk I3 f3 (by rw [hce]; rfl) (by rw [hce]; rfl) σ'⟩
  generalize hce : compEnvC scope cl s3.heap.objs.size X.env = ce at I4 ⊢
  have bk := bk ce hce.symm
  have cL : ce.locals = s3.heap.objs.size := by subst hce; rfl
  have pg := hg σ _ bk
  have pt := ht σ _ bk
  have pe := he σ _ bk
  have I4 := I4.wish (notedBy (model X.prog X.w) X.A ce (CompFails (model X.prog X.w) X.A X.xe ce))
  generalize hs4 : ({ s3 with heap := pushCells (s3.heap.push { cls := .type "dict", data := .dict #[] }) scope.names } : Shared) = s4 at I4 ⊢
  have st4 : tn 0 s4.heap := T.keep _ _ _ st3 fun b _ o e => by rw [← hs4]; exact pushCells_keeps _ _ _ _ (Heap.get?_push_of_some _ e)
  have hRe : (fun e s' => compEnds (model X.prog X.w) X.A X.xe use Qf (.ref D) ce (.error e) s') = CompFails (model X.prog X.w) X.A X.xe ce := by funext e s'; cases use <;> rfl
  generalize hZ : blkX X s3 H3 scope ce fp (notedBy (model X.prog X.w) X.A ce (CompFails (model X.prog X.w) X.A X.xe ce)) = Z at pg pt pe
  have stat : ∀ {σ' : L2.St} {H' : Hp} {s' : Shared}, Inv Z [] σ' H' s' → (∀ b ∈ fp, H' b = none) → ∀ b ∈ fp, FpOk Z [] H' b := fun {σ' H' s'} I' hn b hb => by
    subst hZ
    exact ⟨hn b hb, (I'.ok.exf b hb).1, I'.ok.exfs b hb, .inl hb, fun x c e => (I'.ok.exf b hb).2 x c e, fun p hp => absurd (show p ∈ ([] : List (Addr × Obj)) ++ [] from hp) (by simp)⟩
  have I4' : Inv Z [] (wipe σ (own.map (·.2))) H3 s4 := by subst hZ; exact I4
  have zp : Z.prog = X.prog := by subst hZ; rfl
  have zw : Z.w = X.w := by subst hZ; rfl
  have zA : Z.A = X.A := by subst hZ; rfl
  have loop : codeAny (model X.prog X.w) X.A (.compLoop (.ListComp elt [⟨tg, iter, ifs, 0⟩] scope pos) 0 (.ref it) (.ref D) ce) (compEnds (model X.prog X.w) X.A X.xe use Qf (.ref D) ce) s4 := by
    refine compLoop_any (fun n s' => ∃ i H', Inv Z [] (wipe σ (own.map (·.2))) H' s' ∧ tn i s'.heap ∧ (∀ b ∈ fp, H' b = none) ∧ W' i n H') ?_ m0 ⟨0, H3, I4', st4, nfp, w0⟩
    rw [hRe]
    rintro n s5 ⟨i, H5, I5, st5, n5, w5⟩
    rcases turn i n H5 w5 with ⟨stop, qq⟩ | ⟨go, Nx, hNx, step⟩
    · have td := T.done Z (by subst hZ; rfl) (by subst hZ; rfl) (by subst hZ; rfl) (by subst hZ; exact hc) i [] s5 _ H5 (fun _ _ => False) I5 (stat I5 n5) st5 stop
      subst hZ
      refine thnF td fun r s6 ⟨hr, I6⟩ => ?_
      subst hr
      have I7 : Inv X pins σ H5 s6 := I3.call' (ch := fp) I6.os I6.base I6.hok I6.bare fun b hb => ⟨(f3 b hb).1.2.2.2.1, (f3 b hb).1.2.1, (f3 b hb).1.2.2.2.2.1, (f3 b hb).1.2.2.2.2.2⟩
      have nC : H5 ce.locals = none := I6.free
      obtain ⟨m, hn, _⟩ := I6.loc
      have hn : s6.heap.Ns ce.locals m := hn
      exact hRR D ce s6 m H5 I7 qq hn (I3.fpOk (by rw [cL]; exact Nat.le_refl _) nC)
    · have ti := T.item Z (by subst hZ; rfl) (by subst hZ; rfl) (by subst hZ; rfl) (by subst hZ; exact hc) i [] s5 _ H5 (fun _ _ => False) I5 (stat I5 n5) st5 go
      have fin : ∀ {s' s7 : Shared} {H' : Hp} {σ8 : L2.St}, tn (i + 1) s7.heap → wipe σ8 (own.map (·.2)) = wipe σ (own.map (·.2)) → Inv Z ([] ++ pinsAt fp s7.heap) σ8 H' s' → Nx H' → ∃ m, m < n ∧ ∃ i H', Inv Z [] (wipe σ (own.map (·.2))) H' s' ∧ tn i s'.heap ∧ (∀ b ∈ fp, H' b = none) ∧ W' i m H' := fun {s' s7 H' σ8} st7 hw8 I' nx => by
        obtain ⟨m', hm, w'⟩ := hNx H' nx
        have pin' : ∀ b ∈ fp, ∀ o, s7.heap.get? b = some o → s'.heap.get? b = some o ∧ H' b = none := fun b hb o e =>
          let z := I'.pin (b, o) (List.mem_append_right _ (List.mem_append_right _ (mem_pinsAt hb e)))
          ⟨z.1, z.2.1⟩
        have hl : (wipe σ (own.map (·.2))).length = σ8.length := by rw [← hw8, wipe_length]
        refine ⟨m', hm, i + 1, H', (I'.unpinned (pins := [])).weak hl (fun j v e => ?_), T.keep _ _ _ st7 fun b hb o e => (pin' b hb o e).1, fun b hb => ?_, w'⟩
        · rw [← hw8] at e
          exact (wipe_some e).1
        · obtain ⟨o, e, _⟩ := T.obj _ _ st7 b hb
          exact (pin' b hb o e).2
      subst hZ
      refine thnF ti fun r s6 ⟨u, hr, h6⟩ => ?_
      subst hr
      refine thnF h6 fun _ s7 ⟨x, H7, I7, r7, y7, st7, n7⟩ => ?_
      have I7' := I7.pinned (stat I7 n7) (T.obj _ _ st7)
      refine thn (pg.run _ s7 _ H7 x u _ I7' r7 (step x H7 y7)) fun _ s8 ⟨σ8, H8, I8, hw8, q8⟩ => ?_
      refine thn (pt.run _ s8 σ8 H8 _ I8 q8) fun b s9 ⟨H9, I9, q9⟩ => ?_
      cases b with
      | false =>
        simp only [Bool.false_eq_true, if_false] at q9 ⊢
        exact fin st7 hw8 I9 q9
      | true =>
        simp only [if_true] at q9 ⊢
        refine thn (pe.run _ s9 σ8 H9 _ I9 q9) fun z s10 ⟨yv, H10, I10, r10, acc, hD10, hz10, nx⟩ => ?_
        exact app_ok (X := blkX X s3 H3 scope ce fp (notedBy (model X.prog X.w) X.A ce (CompFails (model X.prog X.w) X.A X.xe ce))) I10 hD10 hz10 r10 fun s11 I11 => fin st7 hw8 I11 nx
  exact codeAny_compStart_list loop (T.self X.A 0 _ _ _ st4 loop)
/-- as a value -/
theorem pe_lcX {elt tg iter : Expr} {ifs : List Expr} {scope : Scope} {own : List (Str × Nat)} {pos : Pos} {wi : TI} {g : TG} {tt : L2.St → TT} {te : L2.St → TE} (hk : X.stack = X.env :: X.outer) (hf : X.env.frame = some X.env.locals) (tk : Takes X W) (hc : X.calm = true) (hN : X.N.Nodup) (hi : PI X tg iter wi) (ok : BlkOk X.N X.env.scope scope own)
    (hg : ∀ σ Y, Blk X W σ scope Y → PG Y tg g) (ht : ∀ σ Y, Blk X W σ scope Y → PTs Y ifs (tt σ)) (he : ∀ σ Y, Blk X W σ scope Y → PE Y elt (te σ)) (hs : ∀ x, foldedSetIterable iter X.env x = pure x := by intro _; rfl) :
    PE X (.ListComp elt [⟨tg, iter, ifs, 0⟩] scope pos) (tLcX wi g tt te (own.map (·.2))) := by
  refine ⟨fun pins s σ H Q I h => ?_⟩
  rw [eval_ListComp]
  refine lc_coreX hk hf tk hc hN I hi ok hg ht he hs h fun D ce s' m H' I' q hn f => ⟨m, hn, fun h'' sb => ?_⟩
  obtain ⟨f0, f1, f2, f3, f4, f5⟩ := f
  exact ⟨.ref D, H', I'.turned (t' := s'.toks) (fun b o hb e => (sb.2 b hb).trans e) f0 f1 f3 f4 f5, rfl, q⟩
/-- name = [..] on one line, the name a local -/
theorem ps_setLcX {i : Nat} {y : Str} {py : Pos} {elt tg iter : Expr} {ifs : List Expr} {scope : Scope} {own : List (Str × Nat)} {pos spos : Pos} {wi : TI} {g : TG} {tt : L2.St → TT} {te : L2.St → TE} (hk : X.stack = X.env :: X.outer) (hf : X.env.frame = some X.env.locals) (tk : Takes X W) (hc : X.calm = true) (hN : X.N.Nodup) (hy : X.N[i]? = some y) (hyl : X.env.scope.names.lookup y = some .local)
    (hsw : swapsWith (.ListComp elt [⟨tg, iter, ifs, 0⟩] scope pos) (some (.Name y py)) spos.line X.env = pure true) (hi : PI X tg iter wi) (ok : BlkOk X.N X.env.scope scope own)
    (hg : ∀ σ Y, Blk X W σ scope Y → PG Y tg g) (ht : ∀ σ Y, Blk X W σ scope Y → PTs Y ifs (tt σ)) (he : ∀ σ Y, Blk X W σ scope Y → PE Y elt (te σ)) (hs : ∀ x, foldedSetIterable iter X.env x = pure x := by intro _; rfl) :
    PS X (.Assign [.Name y py] (.ListComp elt [⟨tg, iter, ifs, 0⟩] scope pos) spos) (tAsg (tLcX wi g tt te (own.map (·.2))) (gName i)) := by
  refine ⟨fun pins s σ H D I h => ?_⟩
  rw [exec_Assign_Name_used _ _ _ _ hsw]
  refine wpAny_bind (wpAny_standAt (wpAny_bind ?_))
  show wpAny _ X.A (do let _ ← comprehension (.ListComp elt [⟨tg, iter, ifs, 0⟩] scope pos) scope X.env (firstIterPos [⟨tg, iter, ifs, 0⟩] pos) (newList []) false (eval iter X.env) (some (assign (.Name y py) X.env))) _ _ s
  have h : tLcX wi g tt te (own.map (·.2)) σ H (fun x H1 => gName i x σ H1 D.nx) := h
  refine wpAny_bind (thn (lc_coreX (Qf := fun _ s' => SP X pins D .next s') hk hf tk hc hN I hi ok hg ht he hs h fun L ce s' m H' I' q hn f => ?_) fun _ s' hq => wpAny_pure (wpAny_pure hq))
  show wpAny _ _ (assign (.Name y py) X.env (.ref L)) _ _ _
  refine wpAny_assign_Name (store_ok2 (v := V.ref L) I' hN hy (.inl hyl) rfl (fun s2 I2 ⟨a, sb, ha⟩ => ?_) (.inr hyl))
  obtain ⟨f0, f1, f2, f3, f4, f5⟩ := f
  have haC : ce.locals ≠ a := by
    rcases ha with z | z
    · rw [z]; exact f1
    · exact fun e => f4 y a z e.symm
  refine ⟨m, hn.sameBut sb haC, fun h3 sb3 => ?_⟩
  exact ⟨_, H', I2.turned (t' := s2.toks) (fun b o hb e => (sb3.2 b hb).trans e) f0 f1 f3 f4 f5, q⟩
end
/-! ## writing at what is not known -/
section
variable {N : Nm} {K : PySem.W.Frag} {ρ ρ' : List Addr} {H H' : Hp} {D : Addr} {xs : List V} {o : HO}
structure Oth (ρ : List Addr) (H : Hp) (ρ' : List Addr) (H' : Hp) (D : Addr) : Prop where
  lst : ∃ xs, H D = some (.lst xs)
  same : ∀ b, b ≠ D → H' b = H b
  pre : ρ <+: ρ'
mutual
theorem Rep.oth (q : Oth ρ H ρ' H' D) : ∀ (d : Mi.D) (v : V), Rep K ρ H d v → Rep K ρ' H' d v
  | .non, _, h => h
  | .bl _, _, h => h
  | .int _, _, h => h
  | .str _, _, h => h
  | .tup ds, v, h => by
    obtain ⟨a, vs, e, s, r⟩ := h
    obtain ⟨xs, hD⟩ := q.lst
    refine ⟨a, vs, e, ?_, Reps.oth q ds vs r⟩
    rcases s with ⟨o', h, d⟩ | h
    · refine .inl ⟨o', ?_, d⟩
      rw [q.same a (fun z => by rw [z, hD] at h; cases h)]; exact h
    · exact .inr h
  | .ref n, v, h => by
    obtain ⟨a, e, r⟩ := h
    exact ⟨a, get_pre q.pre e, r⟩
  | .scr ns, v, h => by
    obtain ⟨xs, hD⟩ := q.lst
    obtain ⟨a, e, h | h⟩ := h
    · obtain ⟨o', h⟩ := h
      refine ⟨a, e, .inl ⟨o', ?_⟩⟩
      rw [q.same a (fun z => by rw [z, hD] at h; cases h)]; exact h
    · exact ⟨a, e, .inr h⟩
theorem Reps.oth (q : Oth ρ H ρ' H' D) : ∀ (ds : List Mi.D) (vs : List V), Reps K ρ H ds vs → Reps K ρ' H' ds vs
  | [], _, h => h
  | d :: ds, vs, h => by
    obtain ⟨v, r, e, h1, h2⟩ := h
    exact ⟨v, r, e, Rep.oth q d v h1, Reps.oth q ds r h2⟩
end
theorem KVs.oth (q : Oth ρ H ρ' H' D) : ∀ (kvs : List (Mi.D × Mi.D)) (l : List (Key × V)), KVs K ρ H kvs l → KVs K ρ' H' kvs l
  | [], _, h => h
  | (k, d) :: r, l, h => by
    obtain ⟨k', v, l', e, h1, h2, h3⟩ := h
    exact ⟨k', v, l', e, h1, Rep.oth q d v h2, KVs.oth q r l' h3⟩
theorem Fls.oth (q : Oth ρ H ρ' H' D) : ∀ (fs : List (Nat × Mi.D)) (l : List (Str × V)), Fls N K ρ H fs l → Fls N K ρ' H' fs l
  | [], _, h => h
  | (k, d) :: r, l, h => by
    obtain ⟨k', v, l', e, h1, h2, h3⟩ := h
    exact ⟨k', v, l', e, h1, Rep.oth q d v h2, Fls.oth q r l' h3⟩
theorem ORel.oth (q : Oth ρ H ρ' H' D) {a : Addr} (hne : a ≠ D) : ∀ {ob : O}, ORel N K ρ H a ob → ORel N K ρ' H' a ob
  | .lst ds, z => by
    obtain ⟨vs, h3, h4⟩ := z
    exact ⟨vs, (q.same a hne).trans h3, Reps.oth q _ _ h4⟩
  | .dct kvs, z => by
    obtain ⟨vs, h3, h4⟩ := z
    exact ⟨vs, (q.same a hne).trans h3, KVs.oth q _ _ h4⟩
  | .ins c fs, z => by
    obtain ⟨dx, vs, h3, h4, h5⟩ := z
    exact ⟨dx, vs, (q.same a hne).trans h3, Fls.oth q _ _ h4, h5⟩
theorem XD.oth (q : Oth ρ H ρ' H' D) {fs : List (Nat × Mi.D)} {dx : Option Addr} (h : XD N K ρ H fs dx) : XD N K ρ' H' fs dx := by
  rcases h with h | ⟨a, l, e, h1, h2⟩
  · exact .inl h
  · obtain ⟨xs, hD⟩ := q.lst
    refine .inr ⟨a, l, e, by rw [q.same a (fun z => by rw [z, hD] at h1; cases h1)]; exact h1, fun n d hn => ?_⟩
    obtain ⟨y, v, g1, g2, g3⟩ := h2 n d hn
    exact ⟨y, v, g1, g2, Rep.oth q d v g3⟩
theorem Oth.upd (hD : H D = some (.lst xs)) : Oth ρ H ρ (upd H D o) D := ⟨⟨xs, hD⟩, fun b hb => upd_ne hb, List.prefix_rfl⟩
theorem Rel.oth {st : S} (r : Rel N K ρ H st) (hD : H D = some (.lst xs)) (hn : D ∉ ρ) : Rel N K ρ (upd H D o) st where
  len := r.len
  nd := r.nd
  obj := fun i a ob h1 h2 => ORel.oth (Oth.upd hD) (fun e => hn (e ▸ List.mem_of_getElem? h1)) (r.obj i a ob h1 h2)
  zz := fun z hz => (r.zz z hz).oth (Oth.upd hD)
  tabs := tabs_upd r.tabs fun u hu => by rw [hD] at hu; cases hu; exact .inl ⟨_, rfl⟩
theorem Ext.oth (x : Ext ρ H ρ' H') (hD : H D = none) : Ext ρ H ρ' (L2.upd H' D o) where
  pre := x.pre
  new := x.new
  tup := fun b xs h => by rw [upd_ne (ne_of_none h hD)]; exact x.tup b xs h
  frz := fun b o' u h => by rw [upd_ne (ne_of_none h hD)]; exact x.frz b o' u h
  out := fun b o' h n ht => by rw [upd_ne (ne_of_none h hD)]; exact x.out b o' h n ht
/-- the new list known from now on -/
theorem Ext.add (x : Ext ρ H ρ' H') (hD : H D = none) : Ext ρ H (ρ' ++ [D]) H' where
  pre := x.pre.trans (List.prefix_append _ _)
  new := fun b h n o e => by
    rcases List.mem_append.mp h with h | h
    · exact x.new b h n o e
    · rw [List.mem_singleton.mp h, hD] at e; cases e
  tup := x.tup
  frz := x.frz
  out := x.out
theorem Rel.add {st : S} {ds : List Mi.D} (r : Rel N K ρ H st) (hD : H D = some (.lst xs)) (hn : D ∉ ρ) (hr : Reps K ρ H ds xs) : Rel N K (ρ ++ [D]) H (st ++ [.lst ds]) where
  len := by simp [r.len]
  nd := by
    refine List.nodup_append.mpr ⟨r.nd, by simp, fun a ha b hb e => ?_⟩
    rw [List.mem_singleton.mp hb] at e
    exact hn (e ▸ ha)
  obj := fun i a ob h1 h2 => by
    have q : Oth ρ H (ρ ++ [D]) H D := ⟨⟨xs, hD⟩, fun _ _ => rfl, List.prefix_append _ _⟩
    by_cases hi : i < ρ.length
    · rw [List.getElem?_append_left hi] at h1
      rw [List.getElem?_append_left (by rw [← r.len]; exact hi)] at h2
      exact ORel.oth q (fun e => hn (e ▸ List.mem_of_getElem? h1)) (r.obj i a ob h1 h2)
    · rw [List.getElem?_append_right (Nat.le_of_not_lt hi)] at h1
      rw [List.getElem?_append_right (by rw [← r.len]; exact Nat.le_of_not_lt hi)] at h2
      rw [r.len] at h1
      have hz : i - st.length = 0 := by
        have := (List.getElem?_eq_some_iff.mp h1).1
        simp at this; omega
      rw [hz] at h1 h2
      simp at h1 h2
      subst h1 h2
      exact ⟨xs, hD, Reps.oth q _ _ hr⟩
  zz := fun z hz => (r.zz z hz).oth ⟨⟨xs, hD⟩, fun _ _ => rfl, List.prefix_append _ _⟩
  tabs := r.tabs
end
/-! ## what is walked -/
abbrev Src := List D × (S → Bool)
def tOfI (N : Nm) (W : WX) (K : PySem.W.Frag) (f : Ev → M Src) : TI := fun σ H R => ∃ η st ρ, ERel N K ρ H η σ ∧ Rel N K ρ H st ∧ Post N K ρ H (f η st)
  (fun p ρ1 H1 => ∀ J Sd, Walks K J p.1 Sd → (∀ ρ' H' s', Ext ρ1 H1 ρ' H' → Rel N K ρ' H' s' → p.2 s' = true → Sd ρ' H' s') → R J H1) (fun c d H' => W c d σ H')
abbrev SI (N : Nm) (W : WX) (X : Cx) (tg iter : Expr) (f : Ev → M Src) : Prop := PI X tg iter (tOfI N W X.K f)
theorem PI.imp {X : Cx} {tg e : Expr} {t t' : TI} (h : PI X tg e t) (hi : ∀ σ H R, t' σ H R → t σ H R) : PI X tg e t' := ⟨fun pins s σ H R I q => h.run pins s σ H R I (hi σ H R q)⟩
def srcV (fa : Ev → M D) : Ev → M Src := fun η st => (fa η st).bind fun d s => match itemsI s d with
  | some ds => .ok (ds, chkOf ds d) s
  | none => .bad
def srcR (rg : List D → M (List D)) (fs : Ev → M (List D)) : Ev → M Src := fun η st => (fs η st).bind fun ds s => (rg ds s).bind fun is s2 => .ok (is, fun _ => true) s2
section
variable {N : Nm} {W : WX} {X : Cx} {tg a b : Expr} {fa : Ev → M D} {fs : Ev → M (List D)} {p q : Pos}
theorem si_val (ha : SE N W X a fa) : SI N W X tg a (srcV fa) := PI.imp (pi_seq ha) fun σ H R ⟨η, st, ρ, hE, hR, hP⟩ => ⟨η, st, ρ, hE, hR, Post.bind hP fun d s1 ρ1 H1 e1 r1 p1 v rv => by
    split at p1
    · rename_i ds hi
      exact walk_of_val (R := R) r1 hi rv fun J Sd w hs => p1 ρ1 H1 (Ext.refl _ _) r1 J Sd w hs
    · exact p1.elim⟩
theorem si_rng1 (hg : Gl X "range") (hm : X.mg "range" = none) (ha : SA N W X [a] fs) (hst : starEach [a] X.env = [(false, eval a X.env)] := by rfl) : SI N W X tg (.Call (.Name "range" p) [a] [] q) (srcR rng1 fs) :=
  PI.imp (pi_range1 hg hm ha hst) fun σ H R ⟨η, st, ρ, hE, hR, hP⟩ => ⟨η, st, ρ, hE, hR, Post.bind hP fun ds s1 ρ1 H1 e1 r1 p1 vs rs => by
    unfold rng1 at p1
    split at p1
    · obtain ⟨v, rfl, rv⟩ := reps1 rs
      have rv : v = .int _ := rv
      subst rv
      split at p1
      · rename_i hs
        obtain ⟨h1, h2⟩ := small62_ok hs
        exact ⟨_, rfl, h1, h2, p1 ρ1 H1 (Ext.refl _ _) r1 _ _ (walk_rng X.K 0 _) (fun _ _ _ _ _ _ => trivial)⟩
      · exact p1.elim
    · exact p1.elim⟩
theorem si_rng2 (hg : Gl X "range") (hm : X.mg "range" = none) (ha : SA N W X [a, b] fs)
    (hst : starEach [a, b] X.env = [(false, eval a X.env), (false, eval b X.env)] := by rfl) (hst2 : starEach [b] X.env = [(false, eval b X.env)] := by rfl) : SI N W X tg (.Call (.Name "range" p) [a, b] [] q) (srcR rng2 fs) :=
  PI.imp (pi_range2 hg hm ha hst hst2) fun σ H R ⟨η, st, ρ, hE, hR, hP⟩ => ⟨η, st, ρ, hE, hR, Post.bind hP fun ds s1 ρ1 H1 e1 r1 p1 vs rs => by
    unfold rng2 at p1
    split at p1
    · obtain ⟨v, w, rfl, rv, rw'⟩ := reps2 rs
      have rv : v = .int _ := rv
      have rw' : w = .int _ := rw'
      subst rv rw'
      split at p1
      · rename_i hs
        obtain ⟨hs1, hs2⟩ := Bool.and_eq_true_iff.mp hs
        obtain ⟨h1, h2⟩ := small62_ok hs1
        obtain ⟨h3, h4⟩ := small62_ok hs2
        exact ⟨_, _, rfl, ⟨h1, h2, h3, h4⟩, p1 ρ1 H1 (Ext.refl _ _) r1 _ _ (walk_rng X.K _ _) (fun _ _ _ _ _ _ => trivial)⟩
      · exact p1.elim
    · exact p1.elim⟩
end
end Mi
set_option Elab.async false
set_option linter.all false
set_option maxRecDepth 100000
set_option maxHeartbeats 2000000
namespace Mi
open PySem PySem.Spec PyProof.Rows L2
theorem wipe_set' {σ : L2.St} {i : Nat} {o : Option V} : ∀ vs : List Nat, (wipe (σ.set i o) vs).set i none = (wipe σ vs).set i none
  | [] => by unfold wipe; rw [List.set_set]
  | v :: vs => by
    unfold wipe
    by_cases h : v = i
    · subst h; rw [List.set_set, List.set_set, wipe_set' vs]
    · rw [List.set_comm _ _ h, wipe_set' vs, List.set_comm _ _ (Ne.symm h)]
theorem wipe_set {σ : L2.St} {i : Nat} {o : Option V} : ∀ vs : List Nat, i ∈ vs → wipe (σ.set i o) vs = wipe σ vs
  | v :: vs, h => by
    unfold wipe
    by_cases hv : i = v
    · subst hv; exact wipe_set' vs
    · rw [wipe_set vs ((List.mem_cons.mp h).resolve_left hv)]
def wipeE (η : Ev) : List Nat → Ev
  | [] => η
  | v :: vs => (wipeE η vs).set v none
theorem ERel.wipe {N : Nm} {K : PySem.W.Frag} {ρ : List Addr} {H : Hp} {η : Ev} {σ : L2.St} (h : ERel N K ρ H η σ) : ∀ vs : List Nat, (∀ v ∈ vs, N.off v) → ERel N K ρ H (wipeE η vs) (L2.wipe σ vs)
  | [], _ => h
  | v :: vs, hz => (ERel.wipe h vs fun u hu => hz u (List.mem_cons_of_mem _ hu)).unset (hz v List.mem_cons_self)
def TgW (N : Nm) (K : PySem.W.Frag) (t : TgF) (g : TG) (vs : List Nat) : Prop := ∀ (ρ : List Addr) (H : Hp) (d : D) (v : V) (η η' : Ev) (σ : L2.St) (Q : L2.St → Hp → Prop), t d η = some η' → Rep K ρ H d v → ERel N K ρ H η σ → (∀ σ', ERel N K ρ H η' σ' → wipe σ' vs = wipe σ vs → Q σ' H) → g v σ H Q
theorem tgw_name {N : Nm} {K : PySem.W.Frag} {i : Nat} {vs : List Nat} (hz : N.off i) (hi : i ∈ vs) : TgW N K (tgN i) (gName i) vs := fun ρ H d v η η' σ Q h rv hE q => by
  cases h
  exact q _ (hE.set hz rv) (wipe_set _ hi)
theorem gNamesW_of {N : Nm} {ρ : List Addr} {H : Hp} {K : PySem.W.Frag} {ws : List Nat} : ∀ (is : List Nat) (ds : List D) (vs : List V) (η η' : Ev) (σ : L2.St) (Q : L2.St → Hp → Prop), (∀ i ∈ is, i ∈ ws) → (∀ i ∈ is, N.off i) → setMany is ds η = some η' → Reps K ρ H ds vs → ERel N K ρ H η σ → (∀ σ', ERel N K ρ H η' σ' → wipe σ' ws = wipe σ ws → Q σ' H) → gNames is vs σ H Q
  | [], [], vs, η, η', σ, Q, _, _, h, rs, hE, q => by
    cases h
    have rs : vs = [] := rs
    exact ⟨rs, q _ hE rfl⟩
  | i :: is, d :: ds, vs, η, η', σ, Q, hw, hz, h, rs, hE, q => by
    obtain ⟨v, r, rfl, h1, h2⟩ := rs
    refine ⟨v, r, rfl, gNamesW_of is ds r _ η' _ Q (fun j hj => hw j (List.mem_cons_of_mem _ hj)) (fun j hj => hz j (List.mem_cons_of_mem _ hj)) h h2 (hE.set (hz i List.mem_cons_self) h1) fun σ' e w => q σ' e (w.trans (wipe_set _ (hw i List.mem_cons_self)))⟩
  | [], _ :: _, _, _, _, _, _, _, _, h, _, _, _ => by cases h
  | _ :: _, [], _, _, _, _, _, _, _, h, _, _, _ => by cases h
theorem tgw_tup {N : Nm} {K : PySem.W.Frag} {is vs : List Nat} (hz : ∀ i ∈ is, N.off i) (hi : ∀ i ∈ is, i ∈ vs) : TgW N K (tgT is) (gTup K is.length (gNames is)) vs := fun ρ H d v η η' σ Q h rv hE q => by
  unfold tgT at h
  split at h
  · obtain ⟨a, xs, rfl, sa, ra⟩ := rv
    exact ⟨a, xs, rfl, sa.sq, by rw [Reps.length ra, setMany_len _ _ _ _ h], gNamesW_of is _ xs η η' σ Q hi hz h ra hE q⟩
  · cases h
/-! ## the mirror -/
def lcL (t : TgF) (chk : S → Bool) (c : Ev → M Bool) (f : Ev → M D) (η : Ev) : List D → List D → S → R (List D)
  | [], acc, s => if chk s = true then .ok acc s else .bad
  | d :: ds, acc, s => if chk s = true then (match t d η with
    | none => .bad
    | some η1 => (c η1 s).bind fun b s1 => if b = true then (f η1 s1).bind fun y s2 => if acc.length < 1000000 then lcL t chk c f η ds (acc ++ [y]) s2 else .bad else lcL t chk c f η ds acc s1) else .bad
def lcE (src : Ev → M Src) (t : TgF) (c : Ev → M Bool) (f : Ev → M D) (vs : List Nat) : Ev → M D := fun η st => (src η st).bind fun p s1 => (lcL t p.2 c f (wipeE η vs) p.1 [] s1).bind fun acc s2 => .ok (.ref s2.length) (s2 ++ [.lst acc])
def yesB : Ev → M Bool := fun _ s => .ok true s
theorem Post.bindB {N : Nm} {K : PySem.W.Frag} {ρ0 ρ : List Addr} {H0 H : Hp} {α β : Type} {r : R α} {f : α → S → R β} {k : β → List Addr → Hp → Prop} {k1 : α → List Addr → Hp → Prop} {W : XW} (x : Ext ρ0 H0 ρ H) (h : Post N K ρ0 H0 (r.bind f) k W)
    (hk : ∀ a st ρ1 H1, Ext ρ H ρ1 H1 → Rel N K ρ1 H1 st → Post N K ρ0 H0 (f a st) k W → k1 a ρ1 H1) : Post N K ρ H r k1 W := by
  cases r with
  | ok a st => exact fun ρ' H' e r => hk a st ρ' H' e r h
  | ex c fs st => exact fun ρ' H' dx e r q => h ρ' H' dx (x.trans e) r q
  | bad => exact h
theorem Ext.keepsOut {ρ ρ' : List Addr} {H H' : Hp} {D : Addr} {o : HO} (x : Ext ρ H ρ' H') (hD : H D = some o) (hn : D ∉ ρ) (ht : ¬ IsTbl o) : D ∉ ρ' ∧ H' D = some o := by
  exact ⟨fun hm => ht (x.new D hm hn o hD), x.out D o hD hn ht⟩
theorem wipe_twice (σ : L2.St) : ∀ vs : List Nat, wipe (wipe σ vs) vs = wipe σ vs
  | [] => rfl
  | v :: vs => by
    show wipe ((wipe σ vs).set v none) (v :: vs) = _
    rw [wipe_set _ List.mem_cons_self]
    show (wipe (wipe σ vs) vs).set v none = _
    rw [wipe_twice σ vs]; rfl
section
variable {N : Nm} {W : WX} {K : PySem.W.Frag}
theorem yesB_of {σ : L2.St} {H : Hp} {Q : Bool → Hp → Prop} (q : tOfB N W K yesB σ H Q) : tYes σ H Q := by
  obtain ⟨η, st, ρ, hE, hR, hP⟩ := q
  exact hP ρ H (Ext.refl _ _) hR
theorem lc_loop {ds : List Mi.D} {chk : S → Bool} {J : It} {Sd : List Addr → Hp → S → Prop} {ρ1 : List Addr} {H1 : Hp} {s1 : S} {η0 : Ev} {D : Addr} {t : TgF} {g : TG} {c : Ev → M Bool} {f : Ev → M Mi.D} {vs : List Nat} {σ : L2.St} {Q : VK} (ht : TgW N K t g vs) (w : Walks K J ds Sd)
    (hs : ∀ ρ' H' s', Ext ρ1 H1 ρ' H' → Rel N K ρ' H' s' → chk s' = true → Sd ρ' H' s') (hD : H1 D = none) (hE1 : ERel N K ρ1 H1 η0 (wipe σ vs)) (r1 : Rel N K ρ1 H1 s1)
    (p1 : Post N K ρ1 H1 ((lcL t chk c f η0 ds [] s1).bind fun acc s2 => .ok (.ref s2.length) (s2 ++ [.lst acc])) (kD K Q) (fun c d H' => W c d σ H')) :
    ∃ W' : Nat → Nat → Hp → Prop, (∃ m, W' 0 m (upd H1 D (.lst []))) ∧ ∀ i m H, W' i m H →
      (J.stop i H ∧ Q (.ref D) H) ∨ (J.go i H ∧ ∃ Nx : Hp → Prop, (∀ H', Nx H' → ∃ m', m' < m ∧ W' (i + 1) m' H') ∧ ∀ x H', J.yld i H x H' → g x (wipe σ vs) H' fun σ2 H2 => wipe σ2 vs = wipe σ vs ∧ tOfB N (atS W σ) K c σ2 H2 fun b H3 =>
        if b = true then tOf N (atS W σ) K f σ2 H3 fun y H4 => ∃ acc, H4 D = some (.lst acc) ∧ acc.length < sizeLine ∧ Nx (upd H4 D (.lst (acc ++ [y]))) else Nx H3) := by
  refine ⟨fun i m H' => m = ds.length - i ∧ i ≤ ds.length ∧ ∃ acc xs s' ρ', Ext ρ1 H1 ρ' H' ∧ Rel N K ρ' H' s' ∧ D ∉ ρ' ∧ H' D = some (.lst xs) ∧ Reps K ρ' H' acc xs ∧
    Post N K ρ1 H1 ((lcL t chk c f η0 (ds.drop i) acc s').bind fun acc s2 => .ok (.ref s2.length) (s2 ++ [.lst acc])) (kD K Q) (fun c d H' => W c d σ H'), ?_, ?_⟩
  · exact ⟨ds.length, by simp, Nat.zero_le _, [], [], s1, ρ1, (Ext.refl _ _).oth hD, r1.fresh hD, r1.notin hD, upd_same, rfl, by simpa using p1⟩
  rintro i m H' ⟨rfl, hi, acc, xs, s', ρ', x', hR', hn', hD', ha', hP'⟩
  by_cases hlt : i < ds.length
  · rw [List.drop_eq_getElem_cons hlt] at hP'
    unfold lcL at hP'
    by_cases hc : chk s' = true
    · rw [if_pos hc] at hP'
      have sd := hs ρ' H' s' x' hR' hc
      refine .inr ⟨w.go i ρ' H' s' sd hlt, fun H2 => i + 1 ≤ ds.length ∧ ∃ acc xs s' ρ', Ext ρ1 H1 ρ' H2 ∧ Rel N K ρ' H2 s' ∧ D ∉ ρ' ∧ H2 D = some (.lst xs) ∧ Reps K ρ' H2 acc xs ∧
        Post N K ρ1 H1 ((lcL t chk c f η0 (ds.drop (i + 1)) acc s').bind fun acc s2 => .ok (.ref s2.length) (s2 ++ [.lst acc])) (kD K Q) (fun c d H' => W c d σ H'), fun H2 ⟨h1, h2⟩ => ⟨ds.length - (i + 1), by omega, rfl, h1, h2⟩, fun x H2 hy => ?_⟩
      obtain ⟨rfl, rx⟩ := w.yld i ρ' H' s' x H2 ds[i] sd (List.getElem?_eq_getElem hlt) hy
      cases hη : t ds[i] η0 with
      | none => rw [hη] at hP'; exact hP'.elim
      | some η1 =>
        rw [hη] at hP'
        dsimp only at hP'
        refine ht ρ' _ ds[i] x η0 η1 _ _ hη rx (hE1.ext x') fun σ2 hE2 hw2 => ⟨hw2.trans (wipe_twice _ _), η1, s', ρ', hE2, hR', ?_⟩
        have hP2 : Post N K ρ1 H1 ((c η1 s').bind fun b s1 => (if b = true then (f η1 s1).bind fun y s2 => if acc.length < 1000000 then lcL t chk c f η0 (ds.drop (i + 1)) (acc ++ [y]) s2 else .bad else lcL t chk c f η0 (ds.drop (i + 1)) acc s1).bind fun acc s2 => .ok (.ref s2.length) (s2 ++ [.lst acc])) (kD K Q) (fun c d H' => W c d σ H') := by
          cases z : c η1 s' with
          | bad => rw [z] at hP'; exact hP'
          | ex _ _ _ => rw [z] at hP'; exact hP'
          | ok b s3 => rw [z] at hP'; exact hP'
        refine Post.bindB x' hP2 fun b s3 ρ3 H3 e3 r3 p3 => ?_
        obtain ⟨n3, D3⟩ := e3.keepsOut hD' hn' (fun ⟨_, z⟩ => by cases z)
        have x3 := x'.trans e3
        have a3 := Reps.ext e3 _ _ ha'
        cases b with
        | false =>
          simp only [Bool.false_eq_true, if_false] at p3 ⊢
          exact ⟨hlt, acc, xs, s3, ρ3, x3, r3, n3, D3, a3, p3⟩
        | true =>
          simp only [if_true] at p3 ⊢
          refine ⟨η1, s3, ρ3, hE2.ext e3, r3, ?_⟩
          have hP4 : Post N K ρ1 H1 ((f η1 s3).bind fun y s2 => (if acc.length < 1000000 then lcL t chk c f η0 (ds.drop (i + 1)) (acc ++ [y]) s2 else .bad).bind fun acc s2 => .ok (.ref s2.length) (s2 ++ [.lst acc])) (kD K Q) (fun c d H' => W c d σ H') := by
            cases z : f η1 s3 with
            | bad => rw [z] at p3; exact p3
            | ex _ _ _ => rw [z] at p3; exact p3
            | ok b s3 => rw [z] at p3; exact p3
          refine Post.bindB x3 hP4 fun y s4 ρ4 H4 e4 r4 p4 v rv => ?_
          obtain ⟨n4, D4⟩ := e4.keepsOut D3 n3 (fun ⟨_, z⟩ => by cases z)
          by_cases hl : acc.length < 1000000
          · rw [if_pos hl] at p4
            have a4 := Reps.ext e4 _ _ a3
            refine ⟨xs, D4, ?_, hlt, acc ++ [y], xs ++ [v], s4, ρ4, (x3.trans e4).oth hD, r4.oth D4 n4, n4, upd_same, Reps.oth (Oth.upd D4) _ _ (Reps.append a4 ⟨v, [], rfl, rv, rfl⟩), p4⟩
            rw [Reps.length ha']
            exact Nat.lt_of_lt_of_le hl (by decide)
          · rw [if_neg hl] at p4; exact p4.elim
    · rw [if_neg hc] at hP'; exact hP'.elim
  · have e : i = ds.length := by omega
    subst e
    rw [List.drop_length] at hP'
    unfold lcL at hP'
    by_cases hc : chk s' = true
    · rw [if_pos hc] at hP'
      refine .inl ⟨w.stop _ ρ' H' s' (hs ρ' H' s' x' hR' hc) (Nat.le_refl _), ?_⟩
      exact hP' (ρ' ++ [D]) H' (x'.add hD) (hR'.add hD' hn' ha') (.ref D) ⟨D, by rw [← hR'.len]; simp, rfl⟩
    · rw [if_neg hc] at hP'; exact hP'.elim
theorem lc_of {src : Ev → M Src} {t : TgF} {g : TG} {c : Ev → M Bool} {f : Ev → M D} {vs : List Nat} {σ : L2.St} {H : Hp} {Q : VK} (hz : ∀ v ∈ vs, N.off v) (ht : TgW N K t g vs) (q : tOf N W K (lcE src t c f vs) σ H Q) :
    tLcX (tOfI N W K src) g (fun σ => tOfB N (atS W σ) K c) (fun σ => tOf N (atS W σ) K f) vs σ H Q := by
  obtain ⟨η, st, ρ, hE, hR, hP⟩ := q
  exact ⟨η, st, ρ, hE, hR, Post.bind hP fun p s1 ρ1 H1 e1 r1 p1 J Sd w hs D hD => lc_loop ht w hs hD ((hE.ext e1).wipe vs hz) r1 p1⟩
def noX {α : Type} (r : R α) : R α := match r with
  | .ex _ _ _ => .bad
  | r => r
abbrev WF : WX := fun _ _ _ _ => False
/-- the loop in which an exception is out of reach -/
def lcN (src : Ev → M Src) (t : TgF) (c : Ev → M Bool) (f : Ev → M D) (vs : List Nat) : Ev → M D := fun η st => (src η st).bind fun p s1 => noX ((lcL t p.2 c f (wipeE η vs) p.1 [] s1).bind fun acc s2 => .ok (.ref s2.length) (s2 ++ [.lst acc]))
theorem noX_post {α : Type} {ρ : List Addr} {H : Hp} {r : R α} {k : α → List Addr → Hp → Prop} {W W' : XW} (h : Post N K ρ H (noX r) k W) : Post N K ρ H r k W' := by
  cases r with
  | ok a s => exact h
  | bad => exact h
  | ex _ _ _ => exact h.elim
theorem lcN_of {src : Ev → M Src} {t : TgF} {g : TG} {c : Ev → M Bool} {f : Ev → M D} {vs : List Nat} {σ : L2.St} {H : Hp} {Q : VK} (hz : ∀ v ∈ vs, N.off v) (ht : TgW N K t g vs) (q : tOf N W K (lcN src t c f vs) σ H Q) :
    tLc (tOfI N W K src) g (tOfB N WF K c) (tOf N WF K f) vs σ H Q := by
  obtain ⟨η, st, ρ, hE, hR, hP⟩ := q
  exact ⟨η, st, ρ, hE, hR, Post.bind hP fun p s1 ρ1 H1 e1 r1 p1 J Sd w hs D hD => lc_loop (W := WF) ht w hs hD ((hE.ext e1).wipe vs hz) r1 (noX_post p1)⟩
end
end Mi
set_option Elab.async false
set_option linter.all false
set_option maxRecDepth 100000
set_option maxHeartbeats 2000000
namespace Mi
open PySem PySem.Spec PyProof.Rows L2
/-! ## rules by contexts -/
section
variable {g : G} {k : Nat} {Nn : List Str} {sc : Scope} {X : Cx} {W : WX} {q : Str} {cd : Value}
theorem G.off (g : G) (i : Nat) : g.N.off i := fun z e => by rw [g.hz] at e; cases e
def visB (sc : Scope) (x : Str) : Bool := match sc.names.lookup x with
  | some .local => true
  | some .cell => true
  | some .free => true
  | _ => false
theorem visB_ok {sc : Scope} {x : Str} (h : visB sc x = true) : Vis sc x := by
  unfold visB at h
  split at h
  · exact .inl (by assumption)
  · exact .inr (.inl (by assumption))
  · exact .inr (.inr (by assumption))
  · cases h
def locB (sc : Scope) (x : Str) : Bool := match sc.names.lookup x with
  | some .local => true
  | some .cell => true
  | _ => false
theorem locB_ok {sc : Scope} {x : Str} (h : locB sc x = true) : Loc sc x := by
  unfold locB at h
  split at h
  · exact .inl (by assumption)
  · exact .inr (by assumption)
  · cases h
def gloB (sc : Scope) (x : Str) : Bool := match sc.names.lookup x with
  | some .globalImplicit => true
  | _ => false
theorem gloB_ok {sc : Scope} {x : Str} (h : gloB sc x = true) : sc.names.lookup x = some .globalImplicit := by
  unfold gloB at h
  split at h
  · assumption
  · cases h
theorem Ctx0.gl (c : Ctx0 g Nn sc X) {x : Str} (h : gloB sc x = true) : Gl X x := by
  have := gloB_ok h
  rw [← c.sc] at this
  exact this
theorem Ctx0.var {N : Nm} {W' : WX} (c : Ctx0 g Nn sc X) (i : Nat) {x : Str} {pos : Pos} (hN : Nn[i]? = some x) (hv : visB sc x = true) (hd : (x == ("__debug__" : Str)) = false := by decide) (hcd : (x == ("__classdict__" : Str)) = false := by decide) : SE N W' X (.Name x pos) (vE i) :=
  se_var i (by rw [c.nm]; exact hN) (by rw [c.sc]; exact visB_ok hv) hd hcd
/-- a name that may be written here -/
structure Wr (X : Cx) (x : Str) : Prop where
  loc : Loc X.env.scope x
  fn : X.fn x = true ∨ X.env.scope.names.lookup x = some .local
theorem DefC.wr (c : DefC g k Nn sc q cd X W) {x : Str} (h : locB sc x = true) : Wr X x := ⟨by rw [c.sc]; exact locB_ok h, .inl (c.fn x)⟩
/-! ### blocks -/
variable {σ : L2.St} {scope : Scope} {Y : Cx}
theorem Blk.K (b : Blk X W σ scope Y) : Y.K = X.K := by
  obtain ⟨s, H, C, cl, fp, E, rfl, _⟩ := b
  rfl
theorem Ctx.blk (c : Ctx g k Nn sc X W) (b : Blk X W σ scope Y) : Ctx g k Nn (relS scope sc) Y (atS W σ) := by
  obtain ⟨s, H, C, cl, fp, E, rfl, hp⟩ := b
  exact ⟨⟨⟨c.inn.P, c.inn.w, c.inn.K, c.inn.mg, c.inn.base⟩, c.nm, by rw [← c.sc]; rfl, c.un⟩, c.calm, c.room, hp⟩
theorem Blk.wr (b : Blk X W σ scope Y) {x : Str} (h : locB scope x = true) : Wr Y x := by
  obtain ⟨s, H, C, cl, fp, E, rfl, hp⟩ := b
  rcases locB_ok h with h | h
  · have : (relS scope X.env.scope).names.lookup x = some .local := lookup_relS_keep (by decide) h
    exact ⟨.inl this, .inr this⟩
  · have : (relS scope X.env.scope).names.lookup x = some .cell := lookup_relS_keep (by decide) h
    refine ⟨.inr this, .inl ?_⟩
    show (scope.names.lookup x == some .cell) = true
    rw [h]; rfl
/-! ### targets -/
theorem Ctx0.pgn (c : Ctx0 g Nn sc X) (hN : Nn.Nodup) (i : Nat) {x : Str} {pos : Pos} (hi : Nn[i]? = some x) (w : Wr X x) : PG X (.Name x pos) (gName i) := pg_name (by rw [c.nm]; exact hN) (by rw [c.nm]; exact hi) w.loc w.fn
/-! ### comprehensions -/
variable {N : Nm} {elt tg iter : Expr} {ifs : List Expr} {own : List (Str × Nat)} {pos : Pos} {src : Ev → M Src} {t : TgF} {gt : TG} {ct : Ev → M Bool} {f : Ev → M D}
theorem pts_nilM : PTs X [] (tOfB N W X.K yesB) := ⟨fun pins s σ H Q I q => pts_nil.run pins s σ H Q I (yesB_of q)⟩
theorem DefC.lc {N : Nm} (own : List (Str × Nat)) (c : DefC g k Nn sc q cd X W) (hN : Nn.Nodup) (hok : blkC Nn sc scope own = true) (hz : ∀ v ∈ own.map (·.2), N.off v) (hi : SI N W X tg iter src) (tw : TgW N X.K t gt (own.map (·.2)))
    (hg : ∀ σ Y, Blk X W σ scope Y → PG Y tg gt) (ht : ∀ σ Y, Blk X W σ scope Y → PTs Y ifs (tOfB N (atS W σ) Y.K ct)) (he : ∀ σ Y, Blk X W σ scope Y → SE N (atS W σ) Y elt f) (hs : ∀ x, foldedSetIterable iter X.env x = pure x := by intro _; rfl) :
    SE N W X (.ListComp elt [⟨tg, iter, ifs, 0⟩] scope pos) (lcE src t ct f (own.map (·.2))) :=
  PE.imp (pe_lcX (W := W) (tt := fun σ => tOfB N (atS W σ) X.K ct) (te := fun σ => tOf N (atS W σ) X.K f) c.stack c.frame c.takes c.calm (by rw [c.nm]; exact hN) hi (by rw [c.nm, c.sc]; exact blkOk_by hok) hg (fun σ Y b => by rw [← b.K]; exact ht σ Y b) (fun σ Y b => by rw [← b.K]; exact he σ Y b) hs)
    fun σ H Q q => lc_of hz tw q
/-- y = [..] -/
theorem DefC.setLc {N : Nm} (i : Nat) (own : List (Str × Nat)) {y : Str} {py spos : Pos} (c : DefC g k Nn sc q cd X W) (hN : Nn.Nodup) (hy : Nn[i]? = some y) (hyl : sc.names.lookup y = some .local) (hk : sc.kind = .function) (hl : (py.line == pos.line) = true) (hso : (scope.names.any fun (n, k) => n == y && (k == .local || k == .cell)) = false)
    (hok : blkC Nn sc scope own = true) (hzi : N.off i) (hz : ∀ v ∈ own.map (·.2), N.off v) (hi : SI N W X tg iter src) (tw : TgW N X.K t gt (own.map (·.2)))
    (hg : ∀ σ Y, Blk X W σ scope Y → PG Y tg gt) (ht : ∀ σ Y, Blk X W σ scope Y → PTs Y ifs (tOfB N (atS W σ) Y.K ct)) (he : ∀ σ Y, Blk X W σ scope Y → SE N (atS W σ) Y elt f) (hs : ∀ x, foldedSetIterable iter X.env x = pure x := by intro _; rfl) :
    SS N W X (.Assign [.Name y py] (.ListComp elt [⟨tg, iter, ifs, 0⟩] scope pos) spos) (setS i (lcE src t ct f (own.map (·.2)))) := by
  refine PS.imp (ps_setLcX (i := i) (W := W) (tt := fun σ => tOfB N (atS W σ) X.K ct) (te := fun σ => tOf N (atS W σ) X.K f) c.stack c.frame c.takes c.calm (by rw [c.nm]; exact hN) (by rw [c.nm]; exact hy) (by rw [c.sc]; exact hyl)
    (sw_true (by rw [c.sc]; exact hk) (by rw [c.sc]; exact hyl) hl hso) hi (by rw [c.nm, c.sc]; exact blkOk_by hok) hg (fun σ Y b => by rw [← b.K]; exact ht σ Y b) (fun σ Y b => by rw [← b.K]; exact he σ Y b) hs) fun D σ H ⟨η, st, ρ, hE, hR, hP⟩ => ?_
  refine lc_of (Q := fun x H1 => gName i x σ H1 D.nx) hz tw ⟨η, st, ρ, hE, hR, SPost.bs hP hE fun d s1 ρ1 H1 e1 r1 p1 v rv => p1 ρ1 H1 _ (Ext.refl _ _) r1 ((hE.ext e1).set hzi rv)⟩
/-! ### a comprehension whose element raises nothing, in any context -/
/-- a block in which nothing may be raised -/
def BlkN (X : Cx) (scope : Scope) (Y : Cx) : Prop := ∃ s H C cl fp, Y = X.blk s H scope (compEnvC scope cl C X.env) fp
theorem Ctx.blkN (c : Ctx g k Nn sc X W) (b : BlkN X scope Y) : Ctx g k Nn (relS scope sc) Y WF := by
  obtain ⟨s, H, C, cl, fp, rfl⟩ := b
  refine ⟨⟨⟨c.inn.P, c.inn.w, c.inn.K, c.inn.mg, c.inn.base⟩, c.nm, by rw [← c.sc]; rfl, c.un⟩, c.calm, c.room, fun σ pins H s e s' I z => ?_⟩
  obtain ⟨_, _, _, _, _, _, _, _, _, _, _, _, z⟩ := z
  exact z.elim
theorem BlkN.K (b : BlkN X scope Y) : Y.K = X.K := by
  obtain ⟨s, H, C, cl, fp, rfl⟩ := b
  rfl
theorem BlkN.wr (b : BlkN X scope Y) {x : Str} (h : locB scope x = true) : Wr Y x := by
  obtain ⟨s, H, C, cl, fp, rfl⟩ := b
  rcases locB_ok h with h | h
  · have : (relS scope X.env.scope).names.lookup x = some .local := lookup_relS_keep (by decide) h
    exact ⟨.inl this, .inr this⟩
  · have : (relS scope X.env.scope).names.lookup x = some .cell := lookup_relS_keep (by decide) h
    refine ⟨.inr this, .inl ?_⟩
    show (scope.names.lookup x == some .cell) = true
    rw [h]; rfl
theorem Ctx.lcn {N : Nm} {W' : WX} (own : List (Str × Nat)) (c : Ctx g k Nn sc X W) (hN : Nn.Nodup) (hok : blkC Nn sc scope own = true) (hz : ∀ v ∈ own.map (·.2), N.off v) (hi : SI N W' X tg iter src) (tw : TgW N X.K t gt (own.map (·.2)))
    (hg : ∀ Y, BlkN X scope Y → PG Y tg gt) (ht : ∀ Y, BlkN X scope Y → PTs Y ifs (tOfB N WF Y.K ct)) (he : ∀ Y, BlkN X scope Y → SE N WF Y elt f) (hs : ∀ x, foldedSetIterable iter X.env x = pure x := by intro _; rfl) :
    SE N W' X (.ListComp elt [⟨tg, iter, ifs, 0⟩] scope pos) (lcN src t ct f (own.map (·.2))) :=
  PE.imp (pe_lc (tt := tOfB N WF X.K ct) (te := tOf N WF X.K f) c.calm (by rw [c.nm]; exact hN) hi (by rw [c.nm, c.sc]; exact blkOk_by hok) (fun s H C cl fp => hg _ ⟨s, H, C, cl, fp, rfl⟩) (fun s H C cl fp => ht _ ⟨s, H, C, cl, fp, rfl⟩) (fun s H C cl fp => he _ ⟨s, H, C, cl, fp, rfl⟩) hs)
    fun σ H Q q => lcN_of hz tw q
end
end Mi
set_option Elab.async false
set_option linter.all false
set_option maxRecDepth 100000
set_option maxHeartbeats 2000000
namespace Mi
open PySem PySem.Spec PyProof.Rows L2
/-! ## an own exception's __init__ -/
/-- the class at B, over ValueError, without an own __init__ -/
structure BaseI (K : PySem.W.Frag) (B : Addr) : Prop where
  ga : PySem.W.specialIn K (.ref B) "__getattribute__" = some (some (.builtin "type.__getattribute__"))
  rd : PySem.W.readsIn K B (.type "type") = true
  fc : PySem.W.findCls K (.ref B) (.type "type") "__init__" = some (.val (.builtin "ValueError.__init__"))
section
variable {X : Cx} {e : Expr} {es : List Expr} {ta : TA} {p1 p2 pos : Pos} {x : Str} {B : Addr}
theorem pe_clsinit {pl : Sem Bool} (T : BaseI X.K B) (hg : Gl X x) (hm : X.mg x = some (.ref B)) (ha : PA X (e :: es) ta) (hdb : (x == ("__debug__" : Str)) = false := by decide)
    (hc : eval (.Call (.Attribute (.Name x p1) "__init__" p2) (e :: es) [] pos) X.env = (do
      let ov ← eval (.Name x p1) X.env
      standAt p2.atName
      let (f, first) ← holding [ov] (getMethod ov "__init__" pl)
      callWith pos f first (backTo pos (starEach (e :: es) X.env)) (backToKw pos (keywordEach [] X.env))) := by rfl)
    (he : starEach (e :: es) X.env = (false, eval e X.env) :: starEach es X.env := by rfl) (hpl : (backTo pos (starEach es X.env)).any (·.1) = false := by rfl) :
    PE X (.Call (.Attribute (.Name x p1) "__init__" p2) (e :: es) [] pos) (tVeI X.K ta) := by
  refine ⟨fun pins s σ H Q I h => ?_⟩
  refine PySem.W.methodCall_KW (pl := pl) (ld_glob I hg hm ?_ hdb) hc
  refine PySem.W.method_cls I.kIn T.ga (PySem.W.cls_value I.kIn T.rd T.fc (by decide +kernel) ?_)
  show wpAny _ _ (callWith pos (Value.builtin "ValueError.__init__") [] (backTo pos (starEach (e :: es) X.env)) []) _ _ _
  refine PyProof.Rows.callWith_method1 (thn (ha.run pos pins _ σ H _ (I.tok _) h) fun us s1 ⟨vs, H1, I1, r1, a, C, ws, ev, hl, T, ea, q⟩ => ?_) he hpl
  subst ev
  cases r1 with
  | @cons _ u0 _ ur ra rw' =>
    obtain rfl : u0 = Value.ref a := ra
    have hlen : ur.length ≤ sizeLine := by
      rw [← Paired.length rw', sizeLine_eq]
      omega
    exact oinit_ok T I1 ea hlen fun s' J => ⟨.non, H1, J, rfl, q⟩
def tVars : List Nat → TA
  | [] => tNil
  | i :: is => tCons (tVar i) (tVars is)
def slots (σ : L2.St) : List Nat → Option (List V)
  | [] => some []
  | i :: is => match σ[i]?, slots σ is with
    | some (some v), some vs => some (v :: vs)
    | _, _ => none
theorem tVars_of {σ : L2.St} {H : Hp} : ∀ {is : List Nat} {vs : List V} {Q : List V → Hp → Prop}, slots σ is = some vs → Q vs H → tVars is σ H Q
  | [], vs, Q, h, q => by cases h; exact q
  | i :: is, vs, Q, h, q => by
    unfold slots at h
    split at h
    · rename_i v ws h1 h2
      cases h
      exact ⟨v, h1, tVars_of (Q := fun ws H' => Q (v :: ws) H') h2 q⟩
    · cases h
/-- self.f = v, .. -/
inductive Stores (X : Cx) : List Stmt → List (Str × Nat) → Prop
  | nil : Stores X [] []
  | cons {f v s : Str} {p1 p2 p3 p4 : Pos} {i : Nat} {ss : List Stmt} {xs : List (Str × Nat)} (h0 : PE X (.Name s p1) (tVar 0)) (hv : PE X (.Name v p3) (tVar i)) (hs : swapsWith (.Name v p3) (some (.Attribute (.Name s p1) f p2)) p4.line X.env = pure false) (h : Stores X ss xs) :
      Stores X (.Assign [.Attribute (.Name s p1) f p2] (.Name v p3) p4 :: ss) ((f, i) :: xs)
def fldsOf (σ : L2.St) : List (Str × Nat) → List (Str × V) → Option (List (Str × V))
  | [], fs => some fs
  | (f, i) :: xs, fs => match σ[i]? with
    | some (some v) => fldsOf σ xs ((f, v) :: fs)
    | _ => none
def tSt (C : Addr) (xs : List (Str × Nat)) : TS := fun D σ H => ∃ a d fs fs', σ[0]? = some (some (.ref a)) ∧ a ≠ d ∧ H a = some (exo a C (some d)) ∧ H d = some (exd d fs) ∧ fs.length + xs.length ≤ 900 ∧ fldsOf σ xs fs = some fs' ∧
  ∀ H', H' a = some (exo a C (some d)) → H' d = some (exd d fs') → (∀ b, b ≠ a → b ≠ d → H' b = H b) → D.nx σ H'
theorem stores_ok {C : Addr} (T : OexC X.K C) : ∀ {ss : List Stmt} {xs : List (Str × Nat)}, Stores X ss xs → (∀ p ∈ xs, PySem.W.findIn X.K (.ref C) p.1 = some none) → PSs X ss (tSt C xs)
  | _, _, .nil, _ => PSs.imp pss_nil fun D σ H ⟨a, d, fs, fs', h0, hne, ha, hd, hl, hf, q⟩ => by
    cases hf
    exact q H ha hd fun _ _ _ => rfl
  | _, _, .cons (f := f) h0 hv hs h, hn => PSs.imp (pss_cons (ps_ost h0 hv hs) (stores_ok T h fun p hp => hn p (List.mem_cons_of_mem _ hp))) fun D σ H ⟨a, d, fs, fs', g0, hne, ha, hd, hl, hf, q⟩ => by
    unfold fldsOf at hf
    split at hf
    · rename_i v hv
      refine ⟨v, hv, .ref a, g0, a, C, rfl, T, hn _ List.mem_cons_self, .inr ⟨d, fs, ha, hd, by simp at hl; omega, ?_⟩⟩
      refine ⟨a, d, (f, v) :: fs, fs', g0, hne, by rw [upd_ne hne]; exact ha, upd_same, by simp at hl ⊢; omega, hf, fun H' k1 k2 k3 => q H' k1 k2 fun b hb hd' => ?_⟩
      rw [k3 b hb hd', upd_ne hd']
    · cases hf
/-- what __init__ promises -/
def spI (C : Addr) (fl : List Str) : Sp := fun vs H Q _ => ∃ a ws, vs = .ref a :: ws ∧ ws.length = fl.length ∧ H a = some (exo a C none) ∧
  ∀ d H', H d = none → d ≠ a → H' a = some (exo a C (some d)) → H' d = some (exd d (fl.zip ws).reverse) → (∀ b, b ≠ a → b ≠ d → H' b = H b) → Q .non H'
end
/-- the body of such an __init__ -/
inductive InitB (X : Cx) (is : List Nat) (f0 : Str) (i0 : Nat) (xs : List (Str × Nat)) : List Stmt → Prop
  | mk {e : Expr} {pos : Pos} {v s : Str} {p1 p2 p3 p4 : Pos} {ss : List Stmt} (he : PE X e (tVeI X.K (tVars is))) (hs : swapsWith e none pos.line X.env = pure false) (h0 : PE X (.Name s p1) (tVar 0)) (hv : PE X (.Name v p3) (tVar i0))
      (hs2 : swapsWith (.Name v p3) (some (.Attribute (.Name s p1) f0 p2)) p4.line X.env = pure false) (h : Stores X ss xs) : InitB X is f0 i0 xs (.Expr e pos :: .Assign [.Attribute (.Name s p1) f0 p2] (.Name v p3) p4 :: ss)
theorem initB_ok {X : Cx} {C : Addr} {is : List Nat} {f0 : Str} {i0 : Nat} {xs : List (Str × Nat)} {ss : List Stmt} (T : OexC X.K C) (h : InitB X is f0 i0 xs ss) (hn : ∀ p ∈ (f0, i0) :: xs, PySem.W.findIn X.K (.ref C) p.1 = some none) {σ : L2.St} {H : Hp} {D : Ends} {a : Addr} {ws : List V} {v0 : V} {fs' : List (Str × V)}
    (hsl : slots σ is = some (.ref a :: ws)) (hl : ws.length ≤ 800) (h0 : σ[0]? = some (some (.ref a))) (hv : σ[i0]? = some (some v0)) (hf : fldsOf σ xs [(f0, v0)] = some fs') (hx : xs.length ≤ 800) (ea : H a = some (exo a C none))
    (q : ∀ d H', H d = none → d ≠ a → H' a = some (exo a C (some d)) → H' d = some (exd d fs') → (∀ b, b ≠ a → b ≠ d → H' b = H b) → D.nx σ H') : ∃ t, PSs X ss t ∧ t D σ H := by
  cases h with
  | mk he hs g0 gv hs2 hst =>
    refine ⟨_, pss_cons (ps_expr he hs) (pss_cons (ps_ost g0 gv hs2) (stores_ok T hst fun p hp => hn p (List.mem_cons_of_mem _ hp))), ?_⟩
    refine tVars_of hsl ⟨a, C, ws, rfl, by omega, T, ea, ?_⟩
    refine ⟨v0, hv, .ref a, h0, a, C, rfl, T, hn _ List.mem_cons_self, .inl ⟨ea, fun d hd hne => ?_⟩⟩
    refine ⟨a, d, [(f0, v0)], fs', h0, Ne.symm hne, upd_same, by rw [upd_ne hne]; exact upd_same, by simp; omega, hf, fun H' k1 k2 k3 => q d H' hd hne k1 k2 fun b hb hd' => ?_⟩
    rw [k3 b hb hd', upd_ne hb, upd_ne hd']
theorem init_ok {g : G} {k : Nat} {f : Addr} {x qual : Str} {st : Stmt} {fd : FuncData} {Nn ps : List Str} {C : Addr} {is : List Nat} {f0 : Str} {i0 : Nat} {xs : List (Str × Nat)} (fl : List Str) (F : L2.Fun g.K x qual st f fd) (Sc : FnScope Nn ps (defScope st)) (hps : ps.length = fl.length + 1) (hfl : fl.length ≤ 800) (hxl : xs.length ≤ 800) (T : OexC g.K C)
    (hno : ∀ p ∈ (f0, i0) :: xs, PySem.W.findIn g.K (.ref C) p.1 = some none)
    (hsl : ∀ (a : Addr) (ws : List V), ws.length = fl.length → slots (L2.start Nn (.ref a :: ws)) is = some (.ref a :: ws) ∧ (L2.start Nn (.ref a :: ws))[0]? = some (some (.ref a)) ∧ ∃ v0, (L2.start Nn (.ref a :: ws))[i0]? = some (some v0) ∧ fldsOf (L2.start Nn (.ref a :: ws)) xs [(f0, v0)] = some (fl.zip ws).reverse)
    (hbody : ∀ X : Cx, g.In X → X.N = Nn → X.env.scope = defScope st → InitB X is f0 i0 xs (defBody st)) : FnOk g.P g.w g.K g.mg g.base (L2.CX g.P g.w) (k + 1) f fd ps (spI C fl) := by
  refine F.okX Sc (fun vs H Q E h => ?_) fun cdv A outer s H vs Q E hr h => ?_
  · obtain ⟨a, ws, rfl, h2, _⟩ := h
    simp [h2, hps]
  · obtain ⟨a, ws, rfl, hl, ea, q⟩ := h
    obtain ⟨h1, h0, v0, h2, h3⟩ := hsl a ws hl
    exact initB_ok (X := cxOf (L2.CX g.P g.w) g.P g.w g.K g.mg g.base Nn qual (defScope st) f cdv A outer s H E) T (hbody _ ⟨rfl, rfl, rfl, rfl, rfl⟩ rfl rfl) hno h1 (by omega) h0 h2 h3 hxl ea q
/-! ## raise C(..) -/
/-- what is told of an exception class with own fields -/
structure G.Xm (g : G) (k : Nat) (x : Str) (c : Nat) (fl : List Nat) : Prop where
  ex : ∃ f fd ps, PySem.W.findIn g.K (.ref (g.N.cl g.K c)) "__init__" = some (some (.ref f)) ∧ PySem.W.typeIn g.K (.ref f) = some (.type "function") ∧ Binds g.K fd ps [] ∧ FnOk g.P g.w g.K g.mg g.base (L2.CX g.P g.w) k f fd ps (spI (g.N.cl g.K c) (fl.map fun n => g.N.an.getD n Str.empty))
  at_ : g.mg x = some (.ref (g.N.cl g.K c))
  oex : OexC g.K (g.N.cl g.K c)
  nm : ∀ n ∈ fl, n < g.N.an.length
  nd : g.N.an.Nodup
def raiseS (c : Nat) (fl : List Nat) (fs : Ev → M (List D)) : SF := fun η st => (fs η st).bs η fun ds s => if ds.length = fl.length ∧ fl.length ≤ 800 then .ex c (fl.zip ds).reverse η s else .bad
theorem fls_of {N : Nm} {K : PySem.W.Frag} {ρ : List Addr} {H : Hp} : ∀ (fl : List Nat) (ds : List D) (vs : List V), (∀ n ∈ fl, n < N.an.length) → Reps K ρ H ds vs → Fls N K ρ H (fl.zip ds) ((fl.map fun n => N.an.getD n Str.empty).zip vs)
  | [], ds, vs, _, _ => by
    show _ = _
    simp
  | n :: fl, [], vs, _, h => by
    have h : vs = [] := h
    subst h
    show _ = _
    simp
  | n :: fl, d :: ds, vs, hn, h => by
    obtain ⟨v, r, rfl, h1, h2⟩ := h
    have hlt := hn n List.mem_cons_self
    refine ⟨N.an.getD n Str.empty, v, _, rfl, ?_, h1, fls_of fl ds r (fun m hm => hn m (List.mem_cons_of_mem _ hm)) h2⟩
    rw [List.getD_eq_getElem?_getD, List.getElem?_eq_getElem hlt]; rfl
theorem fls_app {N : Nm} {K : PySem.W.Frag} {ρ : List Addr} {H : Hp} : ∀ {a b : List (Nat × D)} {l m : List (Str × V)}, Fls N K ρ H a l → Fls N K ρ H b m → Fls N K ρ H (a ++ b) (l ++ m)
  | [], b, l, m, h, h2 => by
    have h : l = [] := h
    subst h; exact h2
  | (n, d) :: a, b, l, m, h, h2 => by
    obtain ⟨y, v, l', rfl, h3, h4, h5⟩ := h
    exact ⟨y, v, _, rfl, h3, h4, fls_app h5 h2⟩
theorem fls_rev {N : Nm} {K : PySem.W.Frag} {ρ : List Addr} {H : Hp} : ∀ {a : List (Nat × D)} {l : List (Str × V)}, Fls N K ρ H a l → Fls N K ρ H a.reverse l.reverse
  | [], l, h => by
    have h : l = [] := h
    subst h; rfl
  | (n, d) :: a, l, h => by
    obtain ⟨y, v, l', rfl, h3, h4, h5⟩ := h
    rw [List.reverse_cons, List.reverse_cons]
    exact fls_app (fls_rev h5) ⟨y, v, [], rfl, h3, h4, rfl⟩
theorem fls_names {N : Nm} {K : PySem.W.Frag} {ρ : List Addr} {H : Hp} {n : Nat} {d : D} : ∀ {a : List (Nat × D)} {l : List (Str × V)}, Fls N K ρ H a l → a.lookup n = some d → ∃ x, N.an[n]? = some x
  | [], _, _, h => by cases h
  | (m, e) :: a, l, h, q => by
    obtain ⟨y, v, l', rfl, h3, h4, h5⟩ := h
    rw [List.lookup_cons] at q
    split at q
    · rename_i z
      have : n = m := by simpa using z
      subst this
      exact ⟨y, h3⟩
    · exact fls_names h5 q
theorem XD.of_fls {N : Nm} {K : PySem.W.Frag} {ρ : List Addr} {H : Hp} {d : Addr} {fs : List (Nat × D)} {l : List (Str × V)} (hN : N.an.Nodup) (hd : H d = some (.xd l)) (h : Fls N K ρ H fs l) : XD N K ρ H fs (some d) :=
  .inr ⟨d, l, rfl, hd, fun n e q => by
    obtain ⟨x, hx⟩ := fls_names h q
    obtain ⟨v, h1, h2⟩ := Fls.look hN hx h q
    exact ⟨x, v, hx, h1, h2⟩⟩
theorem DefC.raise {g : G} {k k' : Nat} {Nn : List Str} {sc : Scope} {X : Cx} {W : WX} {q : Str} {cd : Value} {x : Str} {c : Nat} {fl : List Nat} {e : Expr} {es : List Expr} {fs : Ev → M (List D)} {p pos pos' : Pos} (d : DefC g k Nn sc q cd X W) (h : g.Xm k' x c fl) (hk : k' + 1 ≤ k) (hx : gloB sc x = true) (ha : SA g.N W X (e :: es) fs)
    (hdb : (x == ("__debug__" : Str)) = false := by decide) (he : starEach (e :: es) X.env = (false, eval e X.env) :: starEach es X.env := by rfl) (hpl : (backTo pos (starEach es X.env)).any (·.1) = false := by rfl) :
    SS g.N W X (.Raise (some (.Call (.Name x p) (e :: es) [] pos)) none pos') (raiseS c fl fs) := by
  obtain ⟨f, fd, ps, h1, h2, h3, h4⟩ := h.ex
  obtain ⟨hP, hw, hK, hmg, hb⟩ := d.inn
  have h5 : FnOk X.prog X.w X.K X.mg X.base (L2.CX X.prog X.w) k' f fd ps (spI (g.N.cl g.K c) (fl.map fun n => g.N.an.getD n Str.empty)) := by rw [hP, hw, hK, hmg, hb]; exact h4
  have pm := pmk_oex (X := X) (p := p) (pos := pos) (C := g.N.cl g.K c) (dvs := []) (by rw [hK]; exact h.oex) (by rw [hK]; exact h1) (by rw [hK]; exact h2) h5 (d.room.mono hk) (by rw [hK]; exact h3) .nil passL (d.gl hx) (by rw [hmg]; exact h.at_) ha hdb he hpl
  refine PS.imp (ps_raise (pos := pos') d.calm d.takes pm) fun D σ H ⟨η, st, ρ, hE, hR, hP⟩ => ⟨η, st, ρ, hE, hR, SPost.bs hP hE fun ds s1 ρ1 H1 e1 r1 p1 vs rs => ?_⟩
  split at p1
  · rename_i hl
    have hvl : vs.length = fl.length := by rw [Reps.length rs]; exact hl.1
    refine ⟨by omega, fun a ha => ⟨a, vs, by simp, by simp [hvl], upd_same, fun dd H' hdd hne k1 k2 k3 => ?_⟩⟩
    rw [upd_ne hne] at hdd
    refine ⟨rfl, dd, _, k1, k2, hdd, ?_⟩
    have eH : upd (del H' a) dd (.xd (((fl.map fun n => g.N.an.getD n Str.empty).zip vs).reverse)) = upd H1 dd (.xd (((fl.map fun n => g.N.an.getD n Str.empty).zip vs).reverse)) := by
      funext b
      by_cases hb : b = dd
      · subst hb; rw [upd_same, upd_same]
      · rw [upd_ne hb, upd_ne hb]
        by_cases hba : b = a
        · subst hba; rw [del_same, ha]
        · rw [del_ne hba, k3 b hba hb, upd_ne hba]
    rw [eH]
    have x2 := Ext.fresh (o := .xd (((fl.map fun n => g.N.an.getD n Str.empty).zip vs).reverse)) r1 hdd
    have q := p1 ρ1 _ (some dd) σ x2 (r1.fresh hdd) (XD.of_fls h.nd upd_same (fls_rev (Fls.ext x2 _ _ (by rw [hK] at rs ⊢; exact fls_of fl ds vs h.nm rs)))) ((hE.ext e1).ext x2)
    rw [hK] at q
    exact q
  · exact p1.elim
end Mi
set_option Elab.async false
set_option linter.all false
set_option maxRecDepth 100000
set_option maxHeartbeats 2000000
namespace Mi
open PySem PySem.Spec PyProof.Rows L2
/-! ## try: .. except C as e: .. -/
/-- what is told of an exception class -/
structure XCl (N : Nm) (K : PySem.W.Frag) (c : Nat) : Prop where
  ix : c ∈ N.xs
  xf : XfC K (N.cl K c)
  is : ExcC K (N.cl K c)
  no : ∀ (n : Nat) (x : Str), N.an[n]? = some x → PySem.W.findIn K (.ref (N.cl K c)) x = some none
/-- the suite's context -/
structure SuC (g : G) (Nn : List Str) (sc : Scope) (i c : Nat) (fs : List (Nat × D)) (N : Nm) (Y : Cx) : Prop extends Ctx0 g Nn sc Y where
  fn : ∀ y, Y.fn y = true
  ex : ∃ (X : Cx) (a : Addr) (oe : Obj) (d : Option Addr) (pn : List (Addr × Obj)), Y = X.suite a ((a, oe) :: pn) ∧ Zc (.ref (g.N.cl g.K c)) d oe ∧ (∃ vs, oe.data = .fields vs) ∧ N = { g.N with z := some ⟨i, a, d, c, fs⟩ }
  xc : XCl g.N g.K c
theorem SuC.off {g : G} {Nn : List Str} {sc : Scope} {i c : Nat} {fs : List (Nat × D)} {N : Nm} {Y : Cx} (s : SuC g Nn sc i c fs N Y) {j : Nat} (h : i ≠ j) : N.off j := by
  obtain ⟨X, a, oe, d, pn, _, _, _, rfl⟩ := s.ex
  intro z e
  have e : some (Zx.mk i a d c fs) = some z := e
  cases e
  exact h
theorem SuC.wr {g : G} {Nn : List Str} {sc : Scope} {i c : Nat} {fs : List (Nat × D)} {N : Nm} {Y : Cx} (s : SuC g Nn sc i c fs N Y) {x : Str} (h : locB sc x = true) : Wr Y x := ⟨by rw [s.sc]; exact locB_ok h, .inl (s.fn x)⟩
/-- e.f -/
def xfE (o : Option D) : Ev → M D := fun _ st => match o with
  | some d => .ok d st
  | none => .bad
section
variable {g : G} {Nn : List Str} {sc : Scope} {i c : Nat} {fs : List (Nat × D)} {N : Nm} {Y : Cx} {W : WX} {p pos : Pos} {e x : Str}
theorem SuC.fld (s : SuC g Nn sc i c fs N Y) (n : Nat) (hn : g.N.an[n]? = some x) (he : Nn[i]? = some e) (hv : visB sc e = true) (hd : (e == ("__debug__" : Str)) = false := by decide) (hcd : (e == ("__classdict__" : Str)) = false := by decide)
    (hb : attributeBase (.Name e p) x Y.env (eval (.Name e p) Y.env) = eval (.Name e p) Y.env := by rfl) : SE N W Y (.Attribute (.Name e p) x pos) (xfE (fs.lookup n)) := by
  obtain ⟨X, a, oe, d, pn, rfl, hz, hf, rfl⟩ := s.ex
  have hK : X.K = g.K := s.inn.K
  have pv : PE (X.suite a ((a, oe) :: pn)) (.Name e p) (tVar i) := pe_var (by rw [s.nm]; exact he) (by rw [s.sc]; exact visB_ok hv) hd hcd
  refine PE.imp (pe_xf (X := X) (C := g.N.cl g.K c) (by rw [hK]; exact s.xc.xf) (by rw [hK]; exact s.xc.no n x hn) hz hf pv hb) fun σ H Q ⟨η, st, ρ, hE, hR, hP⟩ => ?_
  have h1 := hE.zs _ rfl
  have h2 := hR.zz _ rfl
  refine ⟨.ref a, h1, rfl, rfl, ?_⟩
  unfold xfE at hP
  split at hP
  · rename_i dd hl
    rcases h2 with ⟨h3, _⟩ | ⟨da, l, h3, h4, h5⟩
    · have h3 : fs = [] := h3
      rw [h3] at hl; cases hl
    · obtain ⟨y, v, g1, g2, g3⟩ := h5 n dd hl
      have : y = x := by
        have g1 : g.N.an[n]? = some y := g1
        rw [hn] at g1; cases g1; rfl
      subst this
      exact ⟨da, l, v, h3, h4, g2, hP ρ H (Ext.refl _ _) hR v g3⟩
  · exact hP.elim
end
/-! ### isinstance of the exception at hand -/
section
open PySem.W
variable {prog : Program} {w : World} {A : Around} {E : Value → Shared → Prop} {s : Shared} {K : Frag} {x D : Addr} {ox : Obj} {od : Option Obj}
theorem findObj_clsd {C : Addr} {nm : Str} {a b : Value} (hc : (clsIn K C).isSome = true) (ha : findIn K (.ref C) nm = some (some a)) (hb : specialIn K a "__get__" = some (some b)) (ht : takesIn K a = some true) : findObj K C od nm = some (.bind b a) := by
  obtain ⟨cd, hcd⟩ := Option.isSome_iff_exists.mp hc
  unfold findObj
  simp [hcd, ha, hb, ht]
/-- e.__class__, asked by isinstance -/
theorem cls_of_exc {Q : Option Value → Shared → Prop} (T : ExcC K D) (X : K.In s.heap) (I : InstAt s.heap x ox D od) (h : Q (some (.ref D)) { s with toks := s.toks + 1 }) : wpAny (model prog w) A (getAttr? (.ref x) "__class__") Q E s := by
  have fo : findObj K D od "__class__" = some (.bind (.builtin "getset_descriptor.__get__") (.builtin "object.__class__")) := by
    obtain ⟨cd, hc, _⟩ := any_some T.hd
    exact findObj_clsd (by rw [hc]; rfl) T.ha T.hn T.ht
  obtain ⟨hp, gs, dr, tk, os⟩ := s
  have l0 := I.type (M := model prog w)
  have l3 := looks_find (M := model prog w) X I fo
  have nb : (Value.builtin "BaseException.__getattribute__" == Value.builtin "object.__getattribute__") = false := by decide +kernel
  unfold getAttr? getAttrBy? getAttrBy
  refine wpAny_bind (wpAny_mkText (wpAny_bind (wpAny_attempt (wpAny_holding (wpAny_bind (l0.at (wpAny_bind ((looks_findIn X T.hg).at ?_))))))))
  show wpAny _ _ (if (onTheHeap (Value.ref D) && Value.builtin "BaseException.__getattribute__" == Value.builtin "object.__getattribute__") = true then _ else _) _ _ _
  rw [nb, Bool.and_false, if_neg Bool.false_ne_true]
  unfold getAttrByItsOwn hookBefore
  refine wpAny_bind ?_
  rw [if_pos (show onTheHeap (Value.ref D) = true from rfl)]
  refine (looks_findIn X T.hk).at (wpAny_bind (wpAny_attempt (wpAny_holding ?_)))
  unfold callGetattribute
  rw [show (false && onTheHeap (Value.builtin "BaseException.__getattribute__")) = false from rfl, if_neg (by decide)]
  unfold boundAndCalled
  rw [PySem.F.excAttr_ValueError.ga.bind (.ref x)]
  refine wpAny_bind (wpAny_pure ?_)
  show wpAny _ _ (call (.builtin "BaseException.__getattribute__") [.ref x, .str "__class__" tk]) _ _ _
  refine wpAny_call (codeAny_call_builtin PySem.F.excAttr_ValueError.ga.plain PySem.F.entry_bexc_ga ?_)
  refine @check_slot (model prog w) _ _ ⟨hp, gs, dr, tk + 1, os⟩ "BaseException.__getattribute__" "BaseException" "__getattribute__" (.ref x) [.str "__class__" tk] [] _ (by decide +kernel) (by decide +kernel) (l0.andThen (looks_subIn X T.hs)) (PySem.F.args_bexc_ga (.ref x) (.str "__class__" tk)) ?_
  unfold Builtin.«object.__getattribute__»
  refine wpAny_bind (wpAny_of_eq (a := ((Value.ref x : Value), [Value.str "__class__" tk])) (by first | rfl | (simp only [slotArgs]; rfl)) ?_)
  refine wpAny_bind (wpAny_pure (wpAny_bind (l0.at (wpAny_bind (l3.at ?_)))))
  show wpAny _ _ (holding [Value.builtin "object.__class__"] (call (.builtin "getset_descriptor.__get__") [.builtin "object.__class__", .ref x, .ref D]) >>= ret) _ _ _
  refine wpAny_bind (wpAny_holding (wpAny_call (class_get (s := ⟨hp, gs, dr, tk + 1, os⟩) (ox := ox) (od := od) X I T.hm ?_)))
  refine wpAny_pure ?_
  show wpAny _ _ (handedOut (.ref D)) _ _ _
  rw [handedOut_of (v := .ref D) rfl]
  first
    | exact wpAny_pure (wpAny_pure h)
    | exact wpAny_pure h
    | exact wpAny_pure (wpAny_bind (wpAny_pure (wpAny_pure h)))
theorem kit_exc (T : ExcC K D) : KitX K (.ref x) (.ref D) (fun h => ∃ od, InstAt h x ox D od) where
  ty := fun _ _ _ ⟨_, I⟩ => I.type
  it := fun _ _ X _ => by
    obtain ⟨cd, hc, _⟩ := any_some T.hd
    unfold clsIn at hc
    split at hc
    · rename_i ho
      intro A' Q' E' s' kp qq
      unfold isType loadHead
      exact wpAny_bind (wpAny_loadPart (kp _ _ (X _ _ ho)) (wpAny_pure qq))
    · cases hc
  ne := fun h tp dd its n sl X htp => by
    obtain ⟨cd, hc, _⟩ := any_some T.hd
    refine Bool.eq_false_iff.mpr fun qq => ?_
    have e : D = tp := Value.ref.inj (beq_iff_eq.mp qq)
    subst e
    unfold clsIn at hc
    split at hc
    · rename_i ho
      have z := (X _ _ ho).symm.trans htp
      cases z
    · cases hc
  ca := fun X ⟨_, I⟩ kk => cls_of_exc T X I kk
end
/-- isinstance(e, C) -/
def rIsX (K : PySem.W.Frag) (D a : Addr) (d : Option Addr) : List V → Hp → VK → Prop := fun xs H Q => ∃ (c : V) (cv : Value) (b : Bool), xs = [.ref a, c] ∧ (∀ u, RelV c u → u = cv) ∧ PySem.W.kitOne K (.ref D) cv = some b ∧ (∀ dd, d = some dd → ∃ l, H dd = some (.xd l)) ∧ Q (.bl b) H
theorem call_isX {X : Cx} {a D : Addr} {oe : Obj} {d : Option Addr} {pn : List (Addr × Obj)} (C : ExcC X.K D) (hz : Zc (.ref D) d oe) (hf : ∃ vs, oe.data = .fields vs) :
    CallR (X.suite a ((a, oe) :: pn)) (.builtin "isinstance") (rIsX X.K D a d) := by
  intro pins s σ H xs us Q I r h
  obtain ⟨c, cv, b, rfl, hcv, e, hd, q⟩ := h
  cases r with
  | cons rx rr =>
    cases rr with
    | cons rt rr =>
      cases rr
      cases rx
      have ec := hcv _ rt
      subst ec
      obtain ⟨hget, _⟩ := I.pin (a, oe) (List.mem_append.mpr (.inl List.mem_cons_self))
      obtain ⟨vs, hv⟩ := hf
      have J : ∃ od, PySem.W.InstAt s.heap a oe D od := by
        have hdd : ∀ dd, d = some dd → ∃ od, s.heap.get? dd = some od := fun dd e => by
          obtain ⟨l, hl⟩ := hd dd e
          exact objOk_get (I.hok dd _ hl)
        obtain ⟨oc, od, oda, osl⟩ := oe
        obtain ⟨h1, h2⟩ := hz
        dsimp only at h1 h2 hv
        subst h1 h2 hv
        cases od with
        | none => exact ⟨none, hget, rfl, rfl, trivial⟩
        | some dd =>
          obtain ⟨ob, hob⟩ := hdd dd rfl
          exact ⟨some ob, hget, rfl, rfl, hob⟩
      exact PySem.W.kia_one (kit_exc C) I.kIn J e (fun z => nomatch z) fun tk => ⟨.bl b, H, I.kept (t' := tk) fun _ _ z => z, rfl, q⟩
section
variable {g : G} {Nn : List Str} {sc : Scope} {i c : Nat} {fs : List (Nat × D)} {N : Nm} {Y : Cx} {W : WX} {p p2 p3 pos : Pos} {e : Str}
/-- isinstance(e, C), C a class that a name of the module stands for -/
theorem SuC.isi (s : SuC g Nn sc i c fs N Y) {x : Str} {cv : Value} {b : Bool} (he : Nn[i]? = some e) (hv : visB sc e = true) (hgi : gloB sc "isinstance" = true) (hmi : g.mg "isinstance" = none) {t : TE} {v : V} (hC : PE Y (.Name x p2) t) (hCt : ∀ σ H Q, Q v H → t σ H Q) (hcv : ∀ u, RelV v u → u = cv) (hk : PySem.W.kitOne g.K (.ref (g.N.cl g.K c)) cv = some b)
    (hd : (e == ("__debug__" : Str)) = false := by decide) (hcd : (e == ("__classdict__" : Str)) = false := by decide) : SE N W Y (.Call (.Name "isinstance" p) [.Name e p3, .Name x p2] [] pos) (cE (.bl b)) := by
  obtain ⟨X, a, oe, d, pn, rfl, hz, hf, rfl⟩ := s.ex
  have hK : X.K = g.K := s.inn.K
  have pv : PE (X.suite a ((a, oe) :: pn)) (.Name e p3) (tVar i) := pe_var (by rw [s.nm]; exact he) (by rw [s.sc]; exact visB_ok hv) hd hcd
  have hm : (X.suite a ((a, oe) :: pn)).mg "isinstance" = none := by rw [s.inn.mg]; exact hmi
  refine PE.imp (pe_callB (call_isX (X := X) (a := a) (D := g.N.cl g.K c) (d := d) (pn := pn) (by rw [hK]; exact s.xc.is) hz hf) (s.gl hgi) hm (by rfl) (pa_cons pv (pa_cons hC pa_nil))) fun σ H Q ⟨η, st, ρ, hE, hR, hP⟩ => ?_
  have h1 := hE.zs _ rfl
  have h2 := hR.zz _ rfl
  refine ⟨.ref a, h1, hCt σ H _ ⟨v, cv, b, rfl, hcv, by rw [hK]; exact hk, fun dd e => ?_, hP ρ H (Ext.refl _ _) hR (.bl b) rfl⟩⟩
  rcases h2 with ⟨_, h3⟩ | ⟨da, l, h3, h4, h5⟩
  · have h3 : d = none := h3
    rw [h3] at e; cases e
  · have h3 : d = some da := h3
    rw [h3] at e; cases e
    exact ⟨l, h4⟩
end
/-! ### the statement -/
def clrS (i : Nat) : SR → SR
  | .nx η s => .nx (η.set i none) s
  | .bk η s => .bk (η.set i none) s
  | .ct η s => .ct (η.set i none) s
  | .rt d s => .rt d s
  | _ => .bad
def hdlS (cc : Nat → Option Bool) (i : Nat) (h : Nat → List (Nat × D) → SF) (c : Nat) (fs : List (Nat × D)) : SF := fun η1 s1 => match cc c with
  | some true => if i < η1.length then clrS i (h c fs (η1.set i none) s1) else .bad
  | some false => .ex c fs η1 s1
  | none => .bad
def tryS (body : SF) (cc : Nat → Option Bool) (i : Nat) (h : Nat → List (Nat × D) → SF) : SF := fun η st => match body η st with
  | .ex c fs η1 s1 => hdlS cc i h c fs η1 s1
  | r => r
/-! ### names alike, but for the exception at hand -/
structure SameN (N N' : Nm) : Prop where
  cn : N.cn = N'.cn
  an : N.an = N'.an
  tb : N.tb = N'.tb
section
variable {N N' : Nm} {K : PySem.W.Frag} {ρ : List Addr} {H : Hp} (e : SameN N N')
include e
theorem SameN.cl (c : Nat) : N.cl K c = N'.cl K c := by unfold Nm.cl; rw [e.cn]
theorem SameN.clsG {c : Nat} (h : ClsG N K c) : ClsG N' K c := ⟨by rw [← e.cl]; exact h.cls, fun n x hx => by rw [← e.cl]; exact h.noat n x (by rw [e.an]; exact hx)⟩
theorem SameN.fls : ∀ {fs : List (Nat × D)} {l : List (Str × V)}, Fls N K ρ H fs l → Fls N' K ρ H fs l
  | [], _, h => h
  | (n, d) :: fs, l, h => by
    obtain ⟨x, v, l', e1, h1, h2, h3⟩ := h
    exact ⟨x, v, l', e1, by rw [← e.an]; exact h1, h2, SameN.fls h3⟩
theorem SameN.obj {a : Addr} : ∀ {o : O}, ORel N K ρ H a o → ORel N' K ρ H a o
  | .lst _, h => h
  | .dct _, h => h
  | .ins c fs, h => by
    obtain ⟨dx, l, h1, h2, h3⟩ := h
    exact ⟨dx, l, by rw [← e.cl]; exact h1, e.fls h2, e.clsG h3⟩
theorem SameN.xd {fs : List (Nat × D)} {dx : Option Addr} (h : XD N K ρ H fs dx) : XD N' K ρ H fs dx := by
  rcases h with h | ⟨a, l, e1, h1, h2⟩
  · exact .inl h
  · refine .inr ⟨a, l, e1, h1, fun n d hn => ?_⟩
    obtain ⟨y, v, g1, g2⟩ := h2 n d hn
    exact ⟨y, v, by rw [← e.an]; exact g1, g2⟩
theorem SameN.rel {st : S} (h : Rel N K ρ H st) (hz : ∀ z, N'.z = some z → XD N' K ρ H z.fs z.d) : Rel N' K ρ H st := ⟨h.len, h.nd, fun i a o h1 h2 => e.obj (h.obj i a o h1 h2), hz, by rw [← e.tb]; exact h.tabs⟩
end
section
variable {g : G} {k : Nat} {Nn : List Str} {sc : Scope} {X : Cx} {W : WX} {q : Str} {cd : Value} {x n : Str} {i : Nat} {body suite : List Stmt} {b₀ : Stmt} {np pos pos' : Pos} {fb : SF} {cc : Nat → Option Bool} {h : Nat → List (Nat × D) → SF}
/-- the context of a try's body -/
theorem DefC.tr (c : DefC g k Nn sc q cd X W) {W' : WX} {pn : List (Addr × Obj)} {xe : Value → Shared → Prop} (tk : Takes (X.tr pn xe) W') (po : PassesOwn (model X.prog X.w) X.A X.env xe) : DefC g k Nn sc q cd (X.tr pn xe) W' :=
  ⟨⟨⟨⟨c.inn.P, c.inn.w, c.inn.K, c.inn.mg, c.inn.base⟩, c.nm, c.sc, c.un⟩, c.calm, c.room, fun σ => passAt tk σ⟩, c.fn, tk, po, c.stack, c.frame, c.qual, c.code⟩
/-- what the suite is read as -/
def tsM (g : G) (K : PySem.W.Frag) (cc : Nat → Option Bool) (i : Nat) (h : Nat → List (Nat × D) → SF) (a : Addr) (cls : Value) (d : Option Addr) : TS := fun D σ H =>
  ∃ c fs, cls = .ref (g.N.cl g.K c) ∧ cc c = some true ∧ tOfS { g.N with z := some ⟨i, a, d, c, fs⟩ } WF K (h c fs) D σ H
theorem DefC.tryP {tb : WX → TS} (c : DefC g k Nn sc q cd X W) (hN : Nn.Nodup) (i : Nat) (hi : Nn[i]? = some n) (hln : sc.names.lookup n = some .local) {C : Value} (hC : Names X x C) (hcc : ∀ c b, cc c = some b → PySem.W.exmOne g.K (.ref (g.N.cl g.K c)) C = some b ∧ XCl g.N g.K c)
    (hb : ∀ (W' : WX) (pn : List (Addr × Obj)) (xe : Value → Shared → Prop), Takes (X.tr pn xe) W' → PassesOwn (model X.prog X.w) X.A X.env xe → PSs (X.tr pn xe) body (tb W')) (hs : ∀ c fs N Y, SuC g Nn sc i c fs N Y → SSs N WF Y (b₀ :: suite) (h c fs)) :
    PS X (.Try body [.ExceptHandler (some (.Name x np)) (some n) (b₀ :: suite) pos'] [] [] pos) (fun D σ H => tb (wAs X.K C i (tsM g X.K cc i h) W D) D σ H) :=
  ps_try_as (Wout := W) (tb := tb) (ts := tsM g X.K cc i h) (i := i) (c := C) c.stack c.frame (by rw [c.nm]; exact hN) (by rw [c.nm]; exact hi) (by show X.env.scope.names.lookup n = _; rw [c.sc]; exact hln) hC c.takes hb
    (fun a oe cls d pn hz hf => ⟨fun pins s σ H D I ⟨c', fs, e1, e2, e3⟩ => by
      subst e1
      exact (hs c' fs _ (X.suite a ((a, oe) :: pn)) ⟨⟨⟨c.inn.P, c.inn.w, c.inn.K, c.inn.mg, c.inn.base⟩, c.nm, c.sc, c.un⟩, c.fn, ⟨X, a, oe, d, pn, rfl, hz, hf, rfl⟩, (hcc c' true e2).2⟩).run pins s σ H D I e3⟩)
theorem wAs_of {K : PySem.W.Frag} (hK : K = g.K) {C : Value} (hcc : ∀ c b, cc c = some b → PySem.W.exmOne g.K (.ref (g.N.cl g.K c)) C = some b ∧ XCl g.N g.K c) {ρ : List Addr} {H : Hp} {D : Ends} {c1 : Nat} {fs : List (Nat × Mi.D)} {η1 : Ev} {s1 : S} (hP : SPost g.N K ρ H (hdlS cc i h c1 fs η1 s1) D W)
    (ρ1 : List Addr) (H1 : Hp) (dx : Option Addr) (σ1 : L2.St) (x1 : Ext ρ H ρ1 H1) (r1 : Rel g.N K ρ1 H1 s1) (xd : XD g.N K ρ1 H1 fs dx) (e1 : ERel g.N K ρ1 H1 η1 σ1) : wAs K C i (tsM g K cc i h) W D (.ref (g.N.cl g.K c1)) dx σ1 H1 := by
  unfold hdlS at hP
  cases zc : cc c1 with
  | none => rw [zc] at hP; exact hP.elim
  | some b =>
    rw [zc] at hP
    obtain ⟨k1, k2⟩ := hcc c1 b zc
    refine ⟨b, by rw [hK]; exact k1, fun hb a ha => ?_, fun hb => ?_⟩
    · subst hb
      dsimp only at hP
      by_cases hl : i < η1.length
      · rw [if_pos hl] at hP
        have sn : SameN g.N { g.N with z := some ⟨i, a, dx, c1, fs⟩ } := ⟨rfl, rfl, rfl⟩
        have ns : SameN { g.N with z := some ⟨i, a, dx, c1, fs⟩ } g.N := ⟨rfl, rfl, rfl⟩
        have nz : ∀ {ρ : List Addr} {H : Hp} z, g.N.z = some z → XD g.N K ρ H z.fs z.d := fun z hz => by rw [g.hz] at hz; cases hz
        refine ⟨c1, fs, rfl, zc, η1.set i none, s1, ρ1, ?_, sn.rel r1 fun z hz => ?_, ?_⟩
        · have e2 := e1.unset (i := i) (o := some (.ref a)) (g.off i)
          refine ⟨e2.len, e2.val, fun z hz => ?_⟩
          have hz : some (Zx.mk i a dx c1 fs) = some z := hz
          cases hz
          exact List.getElem?_set_self (by rw [e1.len]; exact hl)
        · have hz : some (Zx.mk i a dx c1 fs) = some z := hz
          cases hz
          exact sn.xd xd
        · have er : ∀ {ρ' : List Addr} {H' : Hp} {η2 : Ev} {σ' : L2.St}, ERel { g.N with z := some ⟨i, a, dx, c1, fs⟩ } K ρ' H' η2 σ' → ERel g.N K ρ' H' (η2.set i none) (σ'.set i none) := fun {ρ' H' η2 σ'} E => by
            have E' : ERel g.N K ρ' H' η2 σ' := ⟨E.len, E.val, fun z hz => by rw [g.hz] at hz; cases hz⟩
            exact E'.unset (g.off i)
          cases zh : h c1 fs (η1.set i none) s1 with
          | nx η2 s2 => rw [zh] at hP; exact fun ρ' H' σ' x2 r2 E2 => hP ρ' H' _ (x1.trans x2) (ns.rel r2 nz) (er E2)
          | bk η2 s2 => rw [zh] at hP; exact fun ρ' H' σ' x2 r2 E2 => hP ρ' H' _ (x1.trans x2) (ns.rel r2 nz) (er E2)
          | ct η2 s2 => rw [zh] at hP; exact fun ρ' H' σ' x2 r2 E2 => hP ρ' H' _ (x1.trans x2) (ns.rel r2 nz) (er E2)
          | rt d s2 => rw [zh] at hP; exact fun ρ' H' v x2 r2 rv => hP ρ' H' v (x1.trans x2) (ns.rel r2 nz) rv
          | ex _ _ _ _ => rw [zh] at hP; exact hP.elim
          | bad => rw [zh] at hP; exact hP.elim
      · rw [if_neg hl] at hP; exact hP.elim
    · subst hb
      rw [← hK]
      exact hP ρ1 H1 dx σ1 x1 r1 xd e1
theorem DefC.try_ (c : DefC g k Nn sc q cd X W) (hN : Nn.Nodup) (i : Nat) (hi : Nn[i]? = some n) (hln : sc.names.lookup n = some .local) {C : Value} (hC : Names X x C) (hcc : ∀ c b, cc c = some b → PySem.W.exmOne g.K (.ref (g.N.cl g.K c)) C = some b ∧ XCl g.N g.K c)
    (hb : ∀ (Y : Cx) (W' : WX), DefC g k Nn sc q cd Y W' → SSs g.N W' Y body fb) (hs : ∀ c fs N Y, SuC g Nn sc i c fs N Y → SSs N WF Y (b₀ :: suite) (h c fs)) :
    SS g.N W X (.Try body [.ExceptHandler (some (.Name x np)) (some n) (b₀ :: suite) pos'] [] [] pos) (tryS fb cc i h) := by
  refine PS.imp (c.tryP (tb := fun W' => tOfS g.N W' X.K fb) hN i hi hln hC hcc (fun W' pn xe tk po => hb _ W' (c.tr tk po)) hs) fun D σ H ⟨η, st, ρ, hE, hR, hP⟩ => ⟨η, st, ρ, hE, hR, ?_⟩
  unfold tryS at hP
  cases z : fb η st with
  | nx η1 s1 => rw [z] at hP; exact hP
  | rt d s1 => rw [z] at hP; exact hP
  | bk η1 s1 => rw [z] at hP; exact hP
  | ct η1 s1 => rw [z] at hP; exact hP
  | bad => rw [z] at hP; exact hP
  | ex c1 fs η1 s1 =>
    rw [z] at hP
    intro ρ1 H1 dx σ1 x1 r1 xd e1
    have := wAs_of (C := C) c.inn.K hcc hP ρ1 H1 dx σ1 x1 r1 xd e1
    rw [show g.N.cl X.K c1 = g.N.cl g.K c1 from by rw [c.inn.K]]
    exact this
end
end Mi
set_option Elab.async false
set_option linter.all false
set_option maxRecDepth 100000
set_option maxHeartbeats 2000000
namespace Mi
open PySem PySem.Spec PyProof.Rows L2
/-! ## x(lambda: ..) -/
def lamE (F : (M D) → M D) (fb : Ev → M D) : Ev → M D := fun η st => noX (F (fb η) st)
/-- the tables of a def that makes lambdas -/
def G.Lm (g : G) (cd : Value) (q : Str) : Prop := ∃ c P, cd = .ref c ∧ LamX.TabB g.base g.mg c P ∧ (P, q ++ ".<locals>." ++ "<lambda>") ∈ g.N.tb ∧ ∀ p ∈ g.N.tb, p.1 = P → p.2 = q ++ ".<locals>." ++ "<lambda>"
theorem Ext.ofN {H H1 : Hp} {ρ : List Addr} (e : LamX.ExtN H H1) : Ext ρ H ρ H1 where
  pre := List.prefix_rfl
  new := fun _ h n => absurd h n
  tup := fun b xs h => e b _ h fun _ z => by cases z
  frz := fun b o u h => e b _ h fun _ z => by cases z
  out := fun b o h _ ht => e b o h fun ps z => ht ⟨ps, z⟩
theorem Rel.ofN {N : Nm} {K : PySem.W.Frag} {H H1 : Hp} {ρ : List Addr} {st : S} (r : Rel N K ρ H st) (e : LamX.ExtN H H1) (t : LamX.Tabs N.tb H1) : Rel N K ρ H1 st where
  len := r.len
  nd := r.nd
  obj := fun i a o h1 h2 => by
    have ob := r.obj i a o h1 h2
    obtain ⟨u, hu, k⟩ := ob.has
    exact ORel.ext (Ext.ofN e) ((e a u hu fun ps z => k.tbl ⟨ps, z⟩).trans hu.symm) ob
  zz := fun z hz => (r.zz z hz).ext r (Ext.ofN e)
  tabs := t
/-- what the def that gets the lambda makes of it -/
def TTm (g : G) (F : (M D) → M D) : (XK → Hp → VK → Prop) → Hp → VK → Prop := fun tl H Q => ∃ (w : M D) (st : S) (ρ : List Addr), Rel g.N g.K ρ H st ∧ (∀ (E : XK) (Q' : VK), Post g.N g.K ρ H (w st) (kD g.K Q') E → tl E H Q') ∧ Post g.N g.K ρ H (F w st) (kD g.K Q) (fun _ _ _ => False)
/-- the def that gets lambdas: x, its one parameter a, its mirror -/
structure G.Wk (g : G) (x a : Str) (F : (M D) → M D) : Prop where
  ex : ∃ f oc od pg bg sg dV kV doc pm an cdv ct osl Ng, g.mg x = some (.ref f) ∧ PySem.W.keepIn g.K (.ref f) = true ∧ g.K.lookup f = some ⟨oc, od, .func (PySem.W.fnOf x x pg bg sg dV kV doc pm an cdv ct), osl⟩ ∧ PySem.W.codeIn g.K cdv x = true ∧ L2.Binds g.K (PySem.W.fnOf x x pg bg sg dV kV doc pm an cdv ct) [a] [] ∧
    FnScope Ng [a] sg ∧ Ng[0]? = some a ∧ Vis sg a ∧ ∀ (X : Cx) (q : Str), g.In X → Room 2 X.A → LamX.GivesTo X Ng x sg f cdv bg a q (TTm g F)
section
variable {g : G} {k k' : Nat} {Nn : List Str} {sc scope : Scope} {X : Cx} {W : WX} {q x a : Str} {cd : Value} {F : (M D) → M D} {fb : Ev → M D} {params : Arguments} {body : Expr} {p lpos pos : Pos}
theorem DefC.lam (c : DefC g k Nn sc q cd X W) (h : g.Wk x a F) (lm : g.Lm cd q) (hk : k' + 2 ≤ k) (hx : gloB sc x = true) (hL : LamX.lamSB sc scope = true) (hdef : defaultsOf params X.env = ([], []))
    (hbind : ∀ (q : Str) (cl : List (Str × Addr)) (pm cv ctv : Value), bindArgs (PySem.W.kla_fn "<lambda>" q params body scope cl pm cv ctv) ⟨[], []⟩ = pure [])
    (hb : ∀ (Y : Cx) (W' : WX), Ctx g k' Nn scope Y W' → SE g.N W' Y body fb)
    (hdb : (x == ("__debug__" : Str)) = false := by decide) (hd : (a == ("__debug__" : Str)) = false := by decide) (hcd : (a == ("__classdict__" : Str)) = false := by decide) :
    SE g.N W X (.Call (.Name x p) [.Lambda params body scope lpos] [] pos) (lamE F fb) := by
  obtain ⟨f, oc, od, pg, bg, sg, dV, kV, doc, pm, an, cdv, ct, osl, Ng, h1, h2, h3, h4, h5, h6, h7, h8, h9⟩ := h.ex
  obtain ⟨cc, P, rfl, tb, t1, t2⟩ := lm
  have hK := c.inn.K
  have hq : X.env.qual ++ "<lambda>" = q ++ ".<locals>." ++ "<lambda>" := by rw [c.qual]
  have pl := LamX.pe_lamcall (X := X) (T := g.N.tb) (TT := TTm g F) (x := x) (a := a) (g := f) (c := cc) (P := P) (k := k') (params := params) (body := body) (scope := scope) (t := fun E => tOf g.N (fun c d _ H => E c d H) X.K fb) (p := p) (lpos := lpos) (pos := pos)
    (c.gl hx) (by rw [c.inn.mg]; exact h1) (by rw [hK]; exact h2) (by rw [hK]; exact h3) (by rw [hK]; exact h4) (by rw [hK]; exact h5) h6 h7 h8 (h9 X _ c.inn (c.room.mono (by omega))) (by rw [c.inn.base, c.inn.mg]; exact tb) c.code (by rw [hq]; exact t1) (by rw [hq]; exact t2) (c.room.mono hk) (by rw [c.sc]; exact LamX.lamS_by hL) hdef hbind
    (fun A outer s H E f' c' hr => hb (LamX.lamCx X A outer s H E scope f' c') _ ⟨⟨⟨c.inn.P, c.inn.w, c.inn.K, c.inn.mg, c.inn.base⟩, c.nm, rfl, hr.units⟩, rfl, hr, fun σ => passAt (takes_of rfl rfl rfl rfl) σ⟩) hdb hd hcd
  refine PE.imp pl fun σ H Q ⟨η, st, ρ, hE, hR, hP⟩ => ⟨hR.tabs, fun H1 eN T1 => ?_⟩
  have x1 : Ext ρ H ρ H1 := Ext.ofN eN
  have r1 := hR.ofN eN T1
  refine ⟨fb η, st, ρ, by rw [← hK]; exact r1, fun E Q' hp => ⟨η, st, ρ, hE.ext x1, r1, by rw [hK]; exact hp⟩, ?_⟩
  have := noX_post (W' := fun _ _ _ => False) (Post.ext x1 hP)
  rw [hK] at this
  exact this
end
/-! ### a def of the shape: try: a() .. -/
theorem Takes.len {X : Cx} {W : WX} (tk : Takes X W) : Takes X (fun c d σ H => σ.length = X.N.length → W c d σ H) := fun u s' ⟨a, B, sI, pins, σ, H, cls, d, e, I, nb, up, sky, na, os, ag, w⟩ =>
  tk u s' ⟨a, B, sI, pins, σ, H, cls, d, e, I, nb, up, sky, na, os, ag, w I.len⟩
/-- the mirror: try: return a() except .. -/
def kindF (n : Nat) (cc : Nat → Option Bool) (i : Nat) (h : Nat → List (Nat × D) → SF) (w : M D) : M D := runB n (tryS (fun η st => (w st).bs η fun d s => .rt d s) cc i h) []
def SR.out (r : SR) : R D := match r with
  | .nx _ s => .ok .non s
  | .rt d s => .ok d s
  | .ex c fs _ s => .ex c fs s
  | _ => .bad
theorem SPost.ofOut {N : Nm} {K : PySem.W.Frag} {ρ : List Addr} {H : Hp} {r : SR} {Q : VK} {E : XW} (h : Post N K ρ H r.out (kD K Q) E) : SPost N K ρ H r { nx := fun _ H' => Q .non H', rt := Q } (fun c d _ H' => E c d H') := by
  cases r with
  | nx η s => exact fun ρ' H' σ' x r e => h ρ' H' x r .non rfl
  | rt d s => exact fun ρ' H' v x r e => h ρ' H' x r v e
  | ex c fs η s => exact fun ρ' H' dx σ' x r q e => h ρ' H' dx x r q
  | bk _ _ => exact h.elim
  | ct _ _ => exact h.elim
  | bad => exact h.elim
section
variable {g : G} {f : Addr} {x a n C : Str} {st : Stmt} {fd : FuncData} {Ng : List Str} {i : Nat} {cc : Nat → Option Bool} {h : Nat → List (Nat × D) → SF} {p1 p2 p3 p4 p5 p6 : Pos} {b₀ : Stmt} {suite : List Stmt}
theorem kind_ok (F : L2.Fun g.K x x st f fd) (hm : g.mg x = some (.ref f)) (Sc : FnScope Ng [a] (defScope st)) (hb : Binds g.K fd [a] []) (hNg : Ng[0]? = some a) (hv : visB (defScope st) a = true)
    (hst : defBody st = [.Try [.Return (some (.Call (.Name a p1) [] [] p2)) p3] [.ExceptHandler (some (.Name C p4)) (some n) (b₀ :: suite) p5] [] [] p6]) (i : Nat) (hi : Ng[i]? = some n) (hln : (defScope st).names.lookup n = some .local)
    (hCg : gloB (defScope st) C = true) {Cv : Value} (hCm : g.mg C = some Cv) (hCd : (C == ("__debug__" : Str)) = false) (hcc : ∀ c b, cc c = some b → PySem.W.exmOne g.K (.ref (g.N.cl g.K c)) Cv = some b ∧ XCl g.N g.K c)
    (hs : ∀ c fs N Y, SuC g Ng (defScope st) i c fs N Y → SSs N WF Y (b₀ :: suite) (h c fs)) : g.Wk x a (kindF Ng.length cc i h) := by
  obtain ⟨oc, od, kV, doc, pm, an, cdv, ct, osl, rfl, lk, hcd⟩ := F.ex
  refine ⟨f, oc, od, _, _, _, _, kV, doc, pm, an, cdv, ct, osl, Ng, hm, F.kp, lk, hcd, hb, Sc, hNg, visB_ok hv, fun X q hX hr => ?_⟩
  intro f0 c' s H Q tl act hc ⟨w, st0, ρ, hR, htl, hP⟩
  have dc : DefC g 1 Ng (defScope st) x cdv (cxOf C8.CX0 X.prog X.w X.K X.mg X.base Ng x (defScope st) f cdv X.A X.stack s H C8.E0).nox WF :=
    ⟨⟨⟨⟨hX.P, hX.w, hX.K, hX.mg, hX.base⟩, rfl, rfl, (hr.deeper _).units⟩, rfl, hr.deeper _, fun σ => passAt takes0 σ⟩, fun _ => rfl, takes0, PassesOwn.never, rfl, rfl, rfl, rfl⟩
  rw [hst]
  refine ⟨_, pss_one (dc.tryP (cc := cc) (h := h) (tb := fun W D σ H => σ[0]? = some (some (.ref f0)) ∧ H c' = some (LamX.CodeO c' q) ∧ tl (fun c d H' => ∀ σ' : L2.St, σ'.length = Ng.length → W c d σ' H') H D.rt) Sc.nd i hi hln
    (C := Cv) ⟨dc.gl hCg, hCd, .inl (by show X.mg C = _; rw [hX.mg]; exact hCm)⟩ hcc (fun W' pn xe tk po => ?_) hs), ?_⟩
  · exact pss_one (ps_ret (act (fun c d σ H => σ.length = Ng.length → W' c d σ H) pn xe (fun c d H' => ∀ σ' : L2.St, σ'.length = Ng.length → W' c d σ' H') p1 p2 (Takes.len tk) fun cls d σ' H' hE hl => hE σ' hl))
  · refine ⟨rfl, hc, htl _ _ ?_⟩
    have hP : Post g.N g.K ρ H (SR.out (tryS (fun η st => (w st).bs η fun d s => .rt d s) cc i h (List.replicate Ng.length none) st0)) (kD g.K Q) (fun _ _ _ => False) := hP
    unfold tryS at hP
    dsimp only at hP
    cases z : w st0 with
    | bad => rw [z] at hP; exact hP
    | ok d s1 => rw [z] at hP; exact hP
    | ex c1 fs s1 =>
      rw [z] at hP
      intro ρ1 H1 dx x1 r1 xd σ' hl
      have := wAs_of (C := Cv) (K := X.K) hX.K hcc (by rw [hX.K]; exact SPost.ofOut hP) ρ1 H1 dx σ' x1 (by rw [hX.K]; exact r1) (by rw [hX.K]; exact xd) ⟨by simpa using hl, fun i d e => (by rw [List.getElem?_replicate] at e; split at e <;> cases e), fun z e => (by rw [g.hz] at e; cases e)⟩
      exact this
end
end Mi
set_option Elab.async false
set_option linter.all false
set_option maxRecDepth 100000
set_option maxHeartbeats 2000000
namespace Mi
open PySem PySem.Spec PyProof.Rows L2
/-! ## methods of lists and texts -/
def isLstB (s : S) (n : Nat) : Bool := match s[n]? with
  | some (.lst _) => true
  | _ => false
def appE (fo : Ev → M D) (fs : Ev → M (List D)) : Ev → M D := fun η st => (fo η st).bind fun d s1 => match d with
  | .ref n => if isLstB s1 n = true then (fs η s1).bind fun ys s2 => (match ys, s2[n]? with
    | [y], some (.lst ds) => if ds.length < 1000000 then .ok .non (s2.set n (.lst (ds ++ [y]))) else .bad
    | _, _ => .bad) else .bad
  | _ => .bad
section
variable {N : Nm} {W : WX} {X : Cx} {pos apos cpos p : Pos} {o e : Expr} {fo fe : Ev → M D} {fs : Ev → M (List D)}
theorem isLst_ty {ρ : List Addr} {H : Hp} {s : S} {n : Nat} {a : Addr} (r : Rel N X.K ρ H s) (h : isLstB s n = true) (ha : ρ[n]? = some a) : tyV X.K "list" (.ref a) H := by
  unfold isLstB at h
  split at h
  · rename_i ds hd
    obtain ⟨vs, g1, g2⟩ := ref_lst r ha hd
    exact .inl ⟨rfl, vs, SqL.of g1⟩
  · cases h
theorem se_append (ho : SE N W X o fo) (he : SA N W X [e] fs) (hbase : attributeBase o "append" X.env (eval o X.env) = eval o X.env := by rfl)
    (hfew : ((backTo cpos (starEach [e] X.env)).all (fun x => !x.1) && (backToKw cpos (keywordEach [] X.env)).all (fun x => x.1.isSome) && decide (([e] : List Expr).length + ([] : List Keyword).length + (if ([] : List Keyword).isEmpty then 0 else 1) < 30)) = true := by rfl)
    (hline : (apos.endLine == cpos.line) = true := by rfl) (hs : starEach [e] X.env = (false, eval e X.env) :: starEach [] X.env := by rfl) (hplain : (backTo cpos (starEach [] X.env)).any (·.1) = false := by rfl) :
    SE N W X (.Call (.Attribute o "append" apos) [e] [] cpos) (appE fo fs) := by
  refine PE.imp (pe_bm F.plainAttrs_list F.slot_list_append F.type_list_append mt_append ho he hbase hfew hline hs hplain) fun σ H Q ⟨η, st, ρ, hE, hR, hP⟩ => ⟨η, st, ρ, hE, hR, Post.bind hP fun d s1 ρ1 H1 e1 r1 p1 x rx => ?_⟩
  split at p1
  · rename_i n
    obtain ⟨a, ha, rfl⟩ := rx
    obtain ⟨hl, p2⟩ := p1.ite
    refine ⟨isLst_ty r1 hl ha, η, s1, ρ1, hE.ext e1, r1, Post.bind p2 fun ys s2 ρ2 H2 e2 r2 p3 vs rs => ?_⟩
    split at p3
    · rename_i y ds hd
      obtain ⟨v, rfl, rv⟩ := reps1 rs
      obtain ⟨hz, p4⟩ := p3.ite
      have ha2 := get_pre e2.pre ha
      obtain ⟨ws, g1, g2⟩ := ref_lst r2 ha2 hd
      have x3 := Ext.set (o := .lst (ws ++ [v])) r2 ha2
      refine ⟨a, ws, v, rfl, rfl, g1, ?_, ?_⟩
      · rw [Reps.length g2]; exact Nat.lt_of_lt_of_le hz (by decide)
      · exact p4 ρ2 _ x3 (r2.set ha2 ⟨_, upd_same, Reps.ext x3 _ _ (Reps.append g2 ⟨v, [], rfl, rv, rfl⟩)⟩) .non rfl
    · exact p3.elim
  · exact p1.elim
/-- text.split(sep) -/
def splitE (fo fe : Ev → M D) : Ev → M D := fun η st => (fo η st).bind fun d s1 => match d with
  | .str a => (fe η s1).bind fun b s2 => (match b with
    | .str b => if (b.length == 0) = false ∧ a.length + 2 ≤ sizeLine then .ok (.ref s2.length) (s2 ++ [.lst ((Txt.split a b).map D.str)]) else .bad
    | _ => .bad)
  | _ => .bad
theorem Reps.strs {K : PySem.W.Frag} {ρ : List Addr} {H : Hp} : ∀ (xs : List Str), Reps K ρ H (xs.map D.str) (xs.map V.str)
  | [] => rfl
  | x :: xs => ⟨_, _, rfl, rfl, Reps.strs xs⟩
theorem se_split (ho : SE N W X o fo) (he : SE N W X e fe) (hs : starEach [e] X.env = [(false, eval e X.env)] := by rfl) (hbase : attributeBase o "split" X.env (eval o X.env) = eval o X.env := by rfl) (hline : (apos.endLine == pos.line) = true := by rfl) :
    SE N W X (.Call (.Attribute o "split" apos) [e] [] pos) (splitE fo fe) := by
  refine PE.imp (pe_split ho he hs hbase hline) fun σ H Q ⟨η, st, ρ, hE, hR, hP⟩ => ⟨η, st, ρ, hE, hR, Post.bind hP fun d s1 ρ1 H1 e1 r1 p1 x rx => ?_⟩
  split at p1
  · rename_i a
    have rx : x = .str a := rx
    subst rx
    refine ⟨⟨a, rfl⟩, η, s1, ρ1, hE.ext e1, r1, Post.bind p1 fun d2 s2 ρ2 H2 e2 r2 p2 y ry => ?_⟩
    split at p2
    · rename_i b
      have ry : y = .str b := ry
      subst ry
      obtain ⟨hc, p3⟩ := p2.ite
      exact ⟨a, b, rfl, rfl, hc.1, hc.2, fun p hp => p3.lst r2 (Reps.strs _) hp⟩
    · exact p2.elim
  · exact p1.elim
end
/-! ## a table of the module: text keys, whole numbers -/
structure G.Kd (g : G) (x : Str) (tbl : List (Str × Int)) : Prop where
  ex : ∃ a es n, g.mg x = some (.ref a) ∧ KDict g.K g.w a es n ∧ ∀ z, match tbl.lookup z with
    | some i => ∃ t, PySem.W.nsIn g.K a z = some (some (.int i t))
    | none => PySem.W.nsIn g.K a z = some none
def kgetE (tbl : List (Str × Int)) (f : Ev → M D) : Ev → M D := fun η st => (f η st).bind fun d s1 => match d with
  | .str z => (match tbl.lookup z with
    | some i => .ok (.int i) s1
    | none => .ok .non s1)
  | _ => .bad
def kinE (tbl : List (Str × Int)) (f : Ev → M D) : Ev → M D := fun η st => (f η st).bind fun d s1 => match d with
  | .str z => .ok (.bl (tbl.lookup z).isSome) s1
  | _ => .bad
def knotinE (tbl : List (Str × Int)) (f : Ev → M D) : Ev → M D := fun η st => (f η st).bind fun d s1 => match d with
  | .str z => .ok (.bl (!(tbl.lookup z).isSome)) s1
  | _ => .bad
section
variable {g : G} {N : Nm} {W : WX} {X : Cx} {Nn : List Str} {sc : Scope} {pos apos cpos p : Pos} {e : Expr} {f : Ev → M D} {x : Str} {tbl : List (Str × Int)}
theorem Ctx0.kget (c : Ctx0 g Nn sc X) (h : g.Kd x tbl) (hx : gloB sc x = true) (he : SE N W X e f) (m : M1 X (.Name x p) "get" apos e cpos) (hdb : (x == ("__debug__" : Str)) = false := by decide) :
    SE N W X (.Call (.Attribute (.Name x p) "get" apos) [e] [] cpos) (kgetE tbl f) := by
  obtain ⟨a, es, n, h1, h2, h3⟩ := h.ex
  have hD : KDict X.K X.w a es n := by rw [c.inn.K, c.inn.w]; exact h2
  refine ⟨fun pins s σ H Q I ⟨η, st, ρ, hE, hR, hP⟩ => ?_⟩
  have ht : ∀ {s : Shared}, X.K.In s.heap → s.TypeIs (.ref a) "dict" ∧ ∀ b, (Value.ref a) = .ref b → ∃ ob, s.heap.get? b = some ob ∧ ob.dict = none := fun {s} kin => by
    have := kin _ _ hD.at_
    exact ⟨⟨_, this, rfl⟩, fun b e => by cases e; exact ⟨_, this, rfl⟩⟩
  refine wpAny_Call_method m.base m.few m.line PySem.F.plainAttrs_dict PySem.F.slot_dict_get PySem.F.type_dict_get (ld_glob I (c.gl hx) (by rw [c.inn.mg]; exact h1) ?_ hdb)
  refine ⟨(ht I.kIn).1, (ht I.kIn).2, ?_⟩
  rw [m.trees]
  refine Calls.callWith_builtin rfl (Calls.evalArgs_plain (Calls.spliced_cons (thn (he.run pins s σ H (fun v H1 => ∃ z, v = .str z ∧ ∃ r, PySem.W.nsIn X.K a z = some r ∧ ∃ u, RelV u (r.getD .none) ∧ Q u H1) I ⟨η, st, ρ, hE, hR, Post.bind hP fun d s1 ρ1 H1 e1 r1 p1 v rv => ?_⟩) fun iv s2 ⟨y, H2, I2, ry, z, ey, r, er, u, ru, q⟩ => Calls.spliced_nil ?_)))
  · split at p1
    · rename_i z
      refine ⟨z, rv, ?_⟩
      have := h3 z
      rw [← c.inn.K] at this
      split at p1
      · rename_i i hi
        rw [hi] at this
        obtain ⟨t, ht⟩ := this
        exact ⟨_, ht, .int i, ⟨t, rfl⟩, p1.ok r1 _ rfl⟩
      · rename_i hi
        rw [hi] at this
        exact ⟨_, this, .non, rfl, p1.ok r1 _ rfl⟩
    · exact p1.elim
  · subst ey
    obtain ⟨t, rfl⟩ := ry
    refine call_meetsIn PySem.F.slot_dict_get (ht I2.kIn).1 PySem.F.entry_dict_get (PySem.F.args_dict_get_2 _ _) (meets_dict_get (strKind X.prog X.w) a (strKind_is X.prog X.w z t) hD.low) ⟨_, PySem.W.mapOf_K (prog := X.prog) I2.kIn hD.at_ hD.lit, ?_⟩
    rw [PySem.W.find_K hD.at_ er]
    exact ⟨u, H2, I2.tok _, ru, q⟩
theorem Ctx0.kin_of (c : Ctx0 g Nn sc X) {a : Addr} (h3 : ∀ z, match tbl.lookup z with
    | some i => ∃ t, PySem.W.nsIn g.K a z = some (some (.int i t))
    | none => PySem.W.nsIn g.K a z = some none) (z : Str) : ∃ r, PySem.W.nsIn X.K a z = some r ∧ r.isSome = (tbl.lookup z).isSome := by
  have := h3 z
  rw [← c.inn.K] at this
  split at this
  · rename_i i hi
    obtain ⟨t, ht⟩ := this
    exact ⟨_, ht, by rw [hi]; rfl⟩
  · rename_i hi
    exact ⟨_, this, by rw [hi]; rfl⟩
theorem Ctx0.kin (c : Ctx0 g Nn sc X) (h : g.Kd x tbl) (hx : gloB sc x = true) (he : SE N W X e f) (hdb : (x == ("__debug__" : Str)) = false := by decide) : PC X .In e (.Name x p) (tOf N W X.K (kinE tbl f)) := by
  obtain ⟨a, es, n, h1, h2, h3⟩ := h.ex
  have hD : KDict X.K X.w a es n := by rw [c.inn.K, c.inn.w]; exact h2
  refine ⟨fun pins s σ H Q I ⟨η, st, ρ, hE, hR, hP⟩ => ?_⟩
  refine thn (he.run pins s σ H (fun v H1 => ∃ z, v = .str z ∧ Q (.bl (tbl.lookup z).isSome) H1) I ⟨η, st, ρ, hE, hR, Post.bind hP fun d s1 ρ1 H1 e1 r1 p1 v rv => ?_⟩) fun v s1 ⟨y, H1, I1, ry, z, ey, q⟩ => ?_
  · split at p1
    · rename_i z
      exact ⟨z, rv, p1.ok r1 _ rfl⟩
    · exact p1.elim
  · obtain ⟨r, e1, e2⟩ := c.kin_of h3 z
    exact ld_glob I1 (c.gl hx) (by rw [c.inn.mg]; exact h1) (op_in_kd hD pins s1 σ H1 y (.ref a) _ _ Q I1 ry rfl ⟨z, r, ey, rfl, e1, by rw [e2]; exact q⟩) hdb
theorem Ctx0.knotin (c : Ctx0 g Nn sc X) (h : g.Kd x tbl) (hx : gloB sc x = true) (he : SE N W X e f) (hdb : (x == ("__debug__" : Str)) = false := by decide) : PC X .NotIn e (.Name x p) (tOf N W X.K (knotinE tbl f)) := by
  obtain ⟨a, es, n, h1, h2, h3⟩ := h.ex
  have hD : KDict X.K X.w a es n := by rw [c.inn.K, c.inn.w]; exact h2
  refine ⟨fun pins s σ H Q I ⟨η, st, ρ, hE, hR, hP⟩ => ?_⟩
  refine thn (he.run pins s σ H (fun v H1 => ∃ z, v = .str z ∧ Q (.bl (!(tbl.lookup z).isSome)) H1) I ⟨η, st, ρ, hE, hR, Post.bind hP fun d s1 ρ1 H1 e1 r1 p1 v rv => ?_⟩) fun v s1 ⟨y, H1, I1, ry, z, ey, q⟩ => ?_
  · split at p1
    · rename_i z
      exact ⟨z, rv, p1.ok r1 _ rfl⟩
    · exact p1.elim
  · obtain ⟨r, e1, e2⟩ := c.kin_of h3 z
    exact ld_glob I1 (c.gl hx) (by rw [c.inn.mg]; exact h1) (op_notIn_kd hD pins s1 σ H1 y (.ref a) _ _ Q I1 ry rfl ⟨z, r, ey, rfl, e1, by rw [e2]; exact q⟩) hdb
end
/-! ## constants of the module -/
/-- a name of the module that stands for d -/
def G.Con (g : G) (x : Str) (d : D) : Prop := ∃ v u, g.mg x = some u ∧ RelV v u ∧ ∀ ρ H, Rep g.K ρ H d v
theorem Ctx0.con {g : G} {N : Nm} {W : WX} {X : Cx} {Nn : List Str} {sc : Scope} {p : Pos} {x : Str} {d : D} (c : Ctx0 g Nn sc X) (h : g.Con x d) (hx : gloB sc x = true) (hdb : (x == ("__debug__" : Str)) = false := by decide) : SE N W X (.Name x p) (cE d) := by
  obtain ⟨v, u, h1, h2, h3⟩ := h
  exact se_glob (c.gl hx) (by rw [c.inn.mg]; exact h1) h2 (by rw [c.inn.K]; exact h3) hdb
end Mi
set_option Elab.async false
set_option linter.all false
set_option maxRecDepth 100000
set_option maxHeartbeats 2000000
namespace Mi
open PySem PySem.Spec PyProof.Rows L2
/-! ## what the generated derivations use -/
def argsE : List (Ev → M D) → Ev → M (List D)
  | [] => nilA
  | f :: fs => consA f (argsE fs)
theorem args_len : ∀ (fs : List (Ev → M D)) (η : Ev) (st : S) (ds : List D) (s : S), argsE fs η st = .ok ds s → ds.length = fs.length
  | [], η, st, ds, s, h => by cases h; rfl
  | f :: fs, η, st, ds, s, h => by
    unfold argsE consA at h
    cases z : f η st with
    | bad => rw [z] at h; cases h
    | ex _ _ _ => rw [z] at h; cases h
    | ok d s1 =>
      rw [z] at h
      have h : (argsE fs η s1).bind (fun ds s2 => .ok (d :: ds) s2) = .ok ds s := h
      cases z2 : argsE fs η s1 with
      | bad => rw [z2] at h; cases h
      | ex _ _ _ => rw [z2] at h; cases h
      | ok ds2 s2 =>
        rw [z2] at h
        cases h
        simp [args_len fs _ _ _ _ z2]
section
variable {g : G} {k l n c : Nat} {N : Nm} {Nn : List Str} {sc : Scope} {X : Cx} {W : WX} {q x m : Str} {cd : Value} {F : List D → M D} {a b e o : Expr} {es : List Expr} {fa fb fo fv : Ev → M D} {fs : List (Ev → M D)} {fe : Ev → M D} {pos pos' p apos : Pos} {st : Stmt} {sts : List Stmt} {f : SF} {tg : Expr} {t : TgF} {gt : TG}
/-! ### calls -/
theorem Ctx.call (cx : Ctx g k Nn sc X W) (h : g.Gl l x n F) (hl : l ≤ k) (hx : gloB sc x = true) (ha : SA g.N W X (e :: es) (argsE fs)) (hn : fs.length = n := by rfl) (hdb : (x == ("__debug__" : Str)) = false := by decide)
    (he : starEach (e :: es) X.env = (false, eval e X.env) :: starEach es X.env := by rfl) (hpl : (backTo pos (starEach es X.env)).any (·.1) = false := by rfl) :
    SE g.N W X (.Call (.Name x p) (e :: es) [] pos) (callE (appF F) (argsE fs)) := se_call h cx.inn (cx.room.mono hl) cx.pass (cx.gl hx) ha hdb he hpl fun η st ds s e => by rw [args_len fs η st ds s e, hn]
theorem Ctx.meth {pl : Sem Bool} (cx : Ctx g k Nn sc X W) (h : g.Me l c m n F) (hl : l ≤ k) (ho : SE g.N W X o fo) (ha : SA g.N W X (e :: es) (argsE fs)) (hn : fs.length + 1 = n := by rfl)
    (hst : starEach (e :: es) X.env = (false, eval e X.env) :: starEach es X.env := by rfl) (hpl : (backTo pos (starEach es X.env)).any (·.1) = false := by rfl)
    (ht : eval (.Call (.Attribute o m apos) (e :: es) [] pos) X.env = (do
      let ov ← eval o X.env
      standAt apos.atName
      let (f, first) ← holding [ov] (getMethod ov m pl)
      callWith pos f first (backTo pos (starEach (e :: es) X.env)) (backToKw pos (keywordEach [] X.env))) := by rfl) :
    SE g.N W X (.Call (.Attribute o m apos) (e :: es) [] pos) (methE c F fo (argsE fs)) := se_meth (pl := pl) h cx.inn (cx.room.mono hl) cx.pass ho ha (fun η st ds s e => by rw [args_len fs η st ds s e, hn]) hst hpl ht
theorem Ctx.meth0 {pl : Sem Bool} (cx : Ctx g k Nn sc X W) (h : g.Me l c m 1 F) (hl : l ≤ k) (ho : SE g.N W X o fo)
    (ht : eval (.Call (.Attribute o m apos) [] [] pos) X.env = (do
      let ov ← eval o X.env
      standAt apos.atName
      let (f, first) ← holding [ov] (getMethod ov m pl)
      callWith pos f first (backTo pos (starEach [] X.env)) (backToKw pos (keywordEach [] X.env))) := by rfl) :
    SE g.N W X (.Call (.Attribute o m apos) [] [] pos) (methE c F fo nilA) := se_meth0 (pl := pl) h cx.inn (cx.room.mono hl) cx.pass ho ht
theorem Ctx.mk_ (cx : Ctx g k Nn sc X W) (h : g.Mk l x c n F) (hl : l + 1 ≤ k) (hx : gloB sc x = true) (ha : SA g.N W X (e :: es) (argsE fs)) (hn : fs.length + 1 = n := by rfl) (hdb : (x == ("__debug__" : Str)) = false := by decide)
    (he : starEach (e :: es) X.env = (false, eval e X.env) :: starEach es X.env := by rfl) (hpl : (backTo pos (starEach es X.env)).any (·.1) = false := by rfl) :
    SE g.N W X (.Call (.Name x p) (e :: es) [] pos) (mkE c F (argsE fs)) := se_mk h cx.inn (cx.room.mono hl) (cx.gl hx) ha (fun η st ds s e => by rw [args_len fs η st ds s e, hn]) hdb he hpl
/-- a built-in function, a built-in type -/
theorem Ctx0.blt {id : String} {gd : List D → M D} {r : List V → Hp → VK → Prop} (cx : Ctx0 g Nn sc X) (hm : g.mg x = none) (hc : CallR X (.builtin id) r) (hs : CallS N X.K gd r) (hx : gloB sc x = true) (hv : bootBuiltins x = some (.builtin id)) (ha : SA N W X (e :: es) (argsE fs)) (hn : x ≠ "__name__" := by decide) (hdb : (x == ("__debug__" : Str)) = false := by decide)
    (he : starEach (e :: es) X.env = (false, eval e X.env) :: starEach es X.env := by rfl) (hpl : (backTo pos (starEach es X.env)).any (·.1) = false := by rfl) :
    SE N W X (.Call (.Name x p) (e :: es) [] pos) (callE gd (argsE fs)) := PE.imp (pe_callB hc (cx.gl hx) (by rw [cx.inn.mg]; exact hm) hv ha hn hdb he hpl) fun _ _ _ => tCB_of hs
theorem Ctx0.blty {T : String} {gd : List D → M D} {r : List V → Hp → VK → Prop} (cx : Ctx0 g Nn sc X) (hm : g.mg x = none) (hc : CallR X (.type T) r) (hs : CallS N X.K gd r) (hx : gloB sc x = true) (hv : bootBuiltins x = some (.type T)) (ha : SA N W X (e :: es) (argsE fs)) (hn : x ≠ "__name__" := by decide) (hdb : (x == ("__debug__" : Str)) = false := by decide)
    (he : starEach (e :: es) X.env = (false, eval e X.env) :: starEach es X.env := by rfl) (hpl : (backTo pos (starEach es X.env)).any (·.1) = false := by rfl) :
    SE N W X (.Call (.Name x p) (e :: es) [] pos) (callE gd (argsE fs)) := PE.imp (pe_callTy hc (cx.gl hx) (by rw [cx.inn.mg]; exact hm) hv ha hn hdb he hpl) fun _ _ _ => tCB_of hs
/-- isinstance(a, T) -/
theorem Ctx0.isi {T' : String} {T : Str} {p1 : Pos} (cx : Ctx0 g Nn sc X) (hm : g.mg "isinstance" = none) (hmT : g.mg T = none) (hx : gloB sc "isinstance" = true) (hxT : gloB sc T = true) (hT : isTy T' = true) (hv : bootBuiltins T = some (.type T')) (ha : SE N W X a fa) (hn : T ≠ "__name__" := by decide) (hdb : (T == ("__debug__" : Str)) = false := by decide)
    (he : starEach [a, .Name T p1] X.env = (false, eval a X.env) :: starEach [.Name T p1] X.env := by rfl) : SE N W X (.Call (.Name "isinstance" p) [a, .Name T p1] [] pos) (isiE T' fa) :=
  se_isi hT ha (pe_callB call_isi (cx.gl hx) (by rw [cx.inn.mg]; exact hm) (by rfl) (pa_cons ha (pa_cons (pe_bltn (cx.gl hxT) (by rw [cx.inn.mg]; exact hmT) hv rfl hn hdb) pa_nil) he) (by decide) (by decide) he)
theorem Ctx.lenSet {p2 q : Pos} (cx : Ctx g k Nn sc X W) (hm : g.mg "len" = none) (hm2 : g.mg "set" = none) (hx : gloB sc "len" = true) (hx2 : gloB sc "set" = true) (ha : SE N W X a fa) (na : starEach [a] X.env = (false, eval a X.env) :: starEach [] X.env := by rfl) :
    SE N W X (.Call (.Name "len" p) [.Call (.Name "set" p2) [a] [] q] [] pos) (lenSetE fa) := se_lenSet (cx.gl hx) (by rw [cx.inn.mg]; exact hm) (cx.gl hx2) (by rw [cx.inn.mg]; exact hm2) cx.calm ha na
/-! ### statements -/
theorem Ctx0.set (cx : Ctx0 g Nn sc X) (hN : Nn.Nodup) (i : Nat) (hi : Nn[i]? = some x) (w : Wr X x) (hz : N.off i) (ha : SE N W X a fa) (hs : swapsWith a (some (.Name x pos')) pos.line X.env = pure false := by rfl) : SS N W X (.Assign [.Name x pos'] a pos) (setS i fa) :=
  s_set i hz (by rw [cx.nm]; exact hN) (by rw [cx.nm]; exact hi) w.loc ha hs w.fn
/-- what depends on the scope alone -/
theorem Ctx0.env {α : Type} {f : Env → α} {v : α} (cx : Ctx0 g Nn sc X) (h : ∀ env : Env, env.scope = sc → f env = v) : f X.env = v := h X.env cx.sc
theorem Ctx0.tgn (cx : Ctx0 g Nn sc X) (hN : Nn.Nodup) (i : Nat) (hi : Nn[i]? = some x) (w : Wr X x) (hz : N.off i) : TgOk N X (.Name x pos) (tgN i) (gName i) := tg_name i hz (by rw [cx.nm]; exact hN) (by rw [cx.nm]; exact hi) w.loc w.fn
theorem DefC.for_ (cx : DefC g k Nn sc q cd X W) (ha : SE N W X a fa) (ht : TgOk N X tg t gt) (hb : SSs N W X sts f) (hs : ∀ x, foldedSetIterable a X.env x = pure x := by intro _; rfl) : SS N W X (.For tg a sts [] pos) (forS fa t f) := s_for cx.own cx.calm ha ht hb hs
theorem DefC.forR1 {q' : Pos} (cx : DefC g k Nn sc q cd X W) (hm : g.mg "range" = none) (hx : gloB sc "range" = true) (ha : SA N W X [a] (argsE fs)) (ht : TgOk N X tg t gt) (hb : SSs N W X sts f) (hst : starEach [a] X.env = [(false, eval a X.env)] := by rfl) (hs : ∀ x, foldedSetIterable (.Call (.Name "range" p) [a] [] q') X.env x = pure x := by intro _; rfl) :
    SS N W X (.For tg (.Call (.Name "range" p) [a] [] q') sts [] pos) (forR rng1 (argsE fs) t f) := s_forR1 cx.own cx.calm (cx.gl hx) (by rw [cx.inn.mg]; exact hm) ha ht hb hst hs
theorem DefC.forR2 {q' : Pos} (cx : DefC g k Nn sc q cd X W) (hm : g.mg "range" = none) (hx : gloB sc "range" = true) (ha : SA N W X [a, b] (argsE fs)) (ht : TgOk N X tg t gt) (hb : SSs N W X sts f) (hst : starEach [a, b] X.env = [(false, eval a X.env), (false, eval b X.env)] := by rfl) (hst2 : starEach [b] X.env = [(false, eval b X.env)] := by rfl)
    (hs : ∀ x, foldedSetIterable (.Call (.Name "range" p) [a, b] [] q') X.env x = pure x := by intro _; rfl) : SS N W X (.For tg (.Call (.Name "range" p) [a, b] [] q') sts [] pos) (forR rng2 (argsE fs) t f) := s_forR2 cx.own cx.calm (cx.gl hx) (by rw [cx.inn.mg]; exact hm) ha ht hb hst hst2 hs
theorem DefC.while_ {n : Nat} {ba : Ev → M Bool} (cx : DefC g k Nn sc q cd X W) (hc : SB N W X a ba) (hb : SSs N W X sts f) : SS N W X (.While a sts [] pos) (whileS n ba f) := s_while cx.own hc hb
theorem Ctx0.siR1 {q' : Pos} (cx : Ctx0 g Nn sc X) (hm : g.mg "range" = none) (hx : gloB sc "range" = true) (ha : SA N W X [a] (argsE fs)) (hst : starEach [a] X.env = [(false, eval a X.env)] := by rfl) : SI N W X tg (.Call (.Name "range" p) [a] [] q') (srcR rng1 (argsE fs)) := si_rng1 (cx.gl hx) (by rw [cx.inn.mg]; exact hm) ha hst
theorem Ctx0.siR2 {q' : Pos} (cx : Ctx0 g Nn sc X) (hm : g.mg "range" = none) (hx : gloB sc "range" = true) (ha : SA N W X [a, b] (argsE fs)) (hst : starEach [a, b] X.env = [(false, eval a X.env), (false, eval b X.env)] := by rfl) (hst2 : starEach [b] X.env = [(false, eval b X.env)] := by rfl) :
    SI N W X tg (.Call (.Name "range" p) [a, b] [] q') (srcR rng2 (argsE fs)) := si_rng2 (cx.gl hx) (by rw [cx.inn.mg]; exact hm) ha hst hst2
/-- a, b = x, y with local names -/
theorem Ctx.par {i j : Nat} {x y : Str} {px py pt : Pos} {kt k2 pt2} (cx : Ctx g k Nn sc X W) (hN : Nn.Nodup) (hi : Nn[i]? = some x) (hj : Nn[j]? = some y) (hij : i ≠ j) (hx : sc.names.lookup x = some .local) (hy : sc.names.lookup y = some .local) (hzi : N.off i) (hzj : N.off j) (ha : SA N W X [a, b] (argsE fs))
    (hw : ∀ env : Env, env.scope = sc → swappedStores [.Tuple [.Name x px, .Name y py] kt pt] (.Tuple [a, b] k2 pt2) env = pure (some [x, y])) (hs : swapsWithSole [.Tuple [.Name x px, .Name y py] kt pt] (.Tuple [a, b] k2 pt2) pos.line X.env = pure false := by rfl) :
    SS N W X (.Assign [.Tuple [.Name x px, .Name y py] kt pt] (.Tuple [a, b] k2 pt2) pos) (parS i j (argsE fs)) :=
  s_par hzi hzj (ps_par cx.calm (by rw [cx.nm]; exact hN) (by rw [cx.nm]; exact hi) (by rw [cx.nm]; exact hj) hij (by rw [cx.sc]; exact hx) (by rw [cx.sc]; exact hy) ha (cx.env hw) hs)
/-- (a, b, ..) = e -/
theorem Ctx0.unp (cx : Ctx0 g Nn sc X) (ht : TgOk N X tg t gt) (ha : SE N W X a fa) (hw : ∀ env : Env, env.scope = sc → swappedStores [tg] a env = pure none) (hs : swapsWithSole [tg] a pos.line X.env = pure false := by rfl) (h1 : (assignEach [tg] X.env).map (·.2) = [assign tg X.env] := by rfl) :
    SS N W X (.Assign [tg] a pos) (unpS t fa) := s_unp ht (ps_asg ha ht.1 hs (cx.env hw) h1)
/-- xs[i] = e -/
theorem s_lset (hv : SE N W X a fv) (ho : SE N W X o fo) (hk : SE N W X b fb) (hs : swapsWithSole [.Subscript o b pos'] a pos.line X.env = pure false := by rfl) (hw : swappedStores [.Subscript o b pos'] a X.env = pure none := by rfl) (h1 : (assignEach [.Subscript o b pos'] X.env).map (·.2) = [assign (.Subscript o b pos') X.env] := by rfl)
    (hsub : ∀ v, assign (.Subscript o b pos') X.env v = (do
      let ov ← holding [v] (eval o X.env)
      let iv ← holding [v, ov] (eval b X.env)
      standAt pos'
      holding [v, ov, iv] (setItem ov iv v)
      release [v, ov, iv] []) := by intro _; rfl) : SS N W X (.Assign [.Subscript o b pos'] a pos) (setL fv fo fb) := s_lput (ps_asg hv (pg_sub ho hk set_list hsub) hs hw h1)
/-- -a -/
def negE (f : Ev → M D) : Ev → M D := fun η st => (f η st).bind fun d s1 => match d with
  | .int i => .ok (.int (-i)) s1
  | _ => .bad
theorem se_neg (ha : SE N W X a fa) : SE N W X (.UnaryOp .USub a pos) (negE fa) := PE.imp (pe_un un_neg ha) fun σ H Q ⟨η, st, ρ, hE, hR, hP⟩ => ⟨η, st, ρ, hE, hR, Post.bind hP fun d s1 ρ1 H1 e1 r1 p1 v rv => by
  split at p1
  · exact ⟨_, rv, p1.ok r1 _ rfl⟩
  · exact p1.elim⟩
end
section
variable {N : Nm} {W : WX} {X : Cx} {pos : Pos} {a b c : Expr} {fa fb fc : Ev → M D} {g g' : D → D → M D} {r r' : R2}
theorem se_chain2 {op op' : CmpOp} (ho : OpR X (compareOp op) r) (ho' : OpR X (compareOp op') r') (hg : OpS N X.K g r) (hg' : OpS N X.K g' r') (ha : SE N W X a fa) (hb : SE N W X b fb) (hc : SE N W X c fc) (hm : lastMarks [op, op'] [b, c] = false := by with_unfolding_all rfl) :
    SE N W X (.Compare a [op, op'] [b, c] pos) (chE g g' fa fb fc) := se_chain ho ho' hg hg' ha hb hc (pe_chain ho ho' ha hb hc hm)
theorem sb_chain {op op' : CmpOp} (ho : OpR X (compareOp op) r) (ho' : OpR X (compareOp op') r') (hg : OpS N X.K g r) (hg' : OpS N X.K g' r') (ha : SE N W X a fa) (hb : SE N W X b fb) (hc : SE N W X c fc) (hm : lastMarks [op, op'] [b, c] = false := by with_unfolding_all rfl) :
    SB N W X (.Compare a [op, op'] [b, c] pos) (tstE (chE g g' fa fb fc)) := PT.imp (pt_chain ho ho' ha hb hc hm) fun σ H Q ⟨η, st, ρ, hE, hR, hP⟩ => tChain_of hg hg' ⟨η, st, ρ, hE, hR, Post.bind hP fun d s1 ρ1 H1 e1 r1 p1 v rv => by
    obtain ⟨b, e, q⟩ := toB_post p1 r1 rv
    exact ⟨b, e, q⟩⟩
end
/-- isinstance(e, C) in a suite: C an own class, a built-in one -/
theorem SuC.isC {g : G} {Nn : List Str} {sc : Scope} {i c c2 : Nat} {fs : List (Nat × D)} {N : Nm} {Y : Cx} {W : WX} {p p2 p3 pos : Pos} {e x : Str} {b : Bool} (s : SuC g Nn sc i c fs N Y) (he : Nn[i]? = some e) (hv : visB sc e = true) (hgi : gloB sc "isinstance" = true) (hmi : g.mg "isinstance" = none) (hx : gloB sc x = true) (hm : g.mg x = some (.ref (g.N.cl g.K c2))) (hk : PySem.W.kitOne g.K (.ref (g.N.cl g.K c)) (.ref (g.N.cl g.K c2)) = some b)
    (hd : (e == ("__debug__" : Str)) = false := by decide) (hcd : (e == ("__classdict__" : Str)) = false := by decide) (hdx : (x == ("__debug__" : Str)) = false := by decide) : SE N W Y (.Call (.Name "isinstance" p) [.Name e p3, .Name x p2] [] pos) (cE (.bl b)) :=
  s.isi (v := .ref (g.N.cl g.K c2)) (cv := .ref (g.N.cl g.K c2)) he hv hgi hmi (pe_glob (v := .ref (g.N.cl g.K c2)) (s.gl hx) (by rw [s.inn.mg]; exact hm) rfl hdx) (fun _ _ _ z => z) (fun u z => z) hk hd hcd
theorem SuC.isT {g : G} {Nn : List Str} {sc : Scope} {i c : Nat} {fs : List (Nat × D)} {N : Nm} {Y : Cx} {W : WX} {p p2 p3 pos : Pos} {e x : Str} {T : String} {b : Bool} (s : SuC g Nn sc i c fs N Y) (he : Nn[i]? = some e) (hv : visB sc e = true) (hgi : gloB sc "isinstance" = true) (hmi : g.mg "isinstance" = none) (hx : gloB sc x = true) (hm : g.mg x = none) (hb : bootBuiltins x = some (.type T)) (hk : PySem.W.kitOne g.K (.ref (g.N.cl g.K c)) (.type T) = some b)
    (hd : (e == ("__debug__" : Str)) = false := by decide) (hcd : (e == ("__classdict__" : Str)) = false := by decide) (hn : x ≠ "__name__" := by decide) (hdx : (x == ("__debug__" : Str)) = false := by decide) : SE N W Y (.Call (.Name "isinstance" p) [.Name e p3, .Name x p2] [] pos) (cE (.bl b)) :=
  s.isi (v := .ty T) (cv := .type T) he hv hgi hmi (pe_bltn (v := .ty T) (s.gl hx) (by rw [s.inn.mg]; exact hm) hb rfl hn hdx) (fun _ _ _ z => z) (fun u z => z) hk hd hcd
abbrev Tab := Nat → List D → M D
theorem Blk.pgt {X Y : Cx} {W : WX} {σ : L2.St} {scope : Scope} {tg : Expr} {n : Nat} {ts : TGs} (b : Blk X W σ scope Y) (h : PG Y tg (gTup Y.K n ts)) : PG Y tg (gTup X.K n ts) := by rw [← b.K]; exact h
theorem BlkN.pgt {X Y : Cx} {scope : Scope} {tg : Expr} {n : Nat} {ts : TGs} (b : BlkN X scope Y) (h : PG Y tg (gTup Y.K n ts)) : PG Y tg (gTup X.K n ts) := by rw [← b.K]; exact h
/-- the function that does nothing keeps every promise -/
def badF : List D → M D := fun _ _ => .bad
theorem bad_ok {g : G} {k n : Nat} {f : Addr} {fd : FuncData} {ps : List Str} (hb : Binds g.K fd ps []) (hn : ps.length = n) : g.Fn k f n badF :=
  ⟨fd, ps, hb, hn, ⟨fun vs H Q E h => by obtain ⟨_, _, _, _, _, _, h⟩ := h; exact h.elim, fun A outer s H args us vs Q E _ _ _ _ h => by obtain ⟨_, _, _, _, _, _, h⟩ := h; exact h.elim⟩⟩
theorem G.Fn.mono {g : G} {j k n : Nat} {f : Addr} {F : List D → M D} (h : g.Fn j f n F) (hj : j ≤ k) : g.Fn k f n F := by
  obtain ⟨fd, ps, h1, h2, h3⟩ := h
  exact ⟨fd, ps, h1, h2, h3.mono hj⟩
end Mi
set_option Elab.async false
set_option linter.all false
set_option maxRecDepth 100000
set_option maxHeartbeats 2000000
namespace Mi
open PySem PySem.Spec PyProof.Rows L2
/-! ## the head's hook -/
def noTab (g : Addr → Option Obj) (a : Addr) : Bool := match g a with
  | some ⟨.none, _, _, _⟩ => false
  | _ => true
def frM (n : Nat) (g : Addr → Option Obj) : PySem.W.Frag := He.frG g ((He.asD g n).filter (noTab g) ++ [cStatics])
/-- the code object of the def x, its table -/
def tabOf (K : PySem.W.Frag) (x : Str) : Addr × Addr := match K.lookup (He.ga K x) with
  | some ⟨_, _, .func fd, _⟩ => (match fd.code with
    | .ref c => (match K.lookup c with
      | some ⟨_, _, .fields vs, _⟩ => (match (vs.toList[11]? : Option Value) with
        | some (.ref P) => (c, P)
        | _ => (0, 0))
      | _ => (0, 0))
    | _ => (0, 0))
  | _ => (0, 0)
def emptyB : Option Obj → Bool
  | some ⟨.none, none, .fields vs, sl⟩ => vs.isEmpty && sl.isEmpty
  | _ => false
theorem emptyB_ok {o : Option Obj} (h : emptyB o = true) : o = some { cls := .none, data := .fields #[] } := by
  unfold emptyB at h
  split at h
  · obtain ⟨h1, h2⟩ := Bool.and_eq_true_iff.mp h
    rw [Array.isEmpty_iff.mp h1, Array.isEmpty_iff.mp h2]
  · cases h
structure HSpec where
  n : Nat
  fa : List He.Fa
  fn : List He.DefD
  ts : List He.Tab
  ck : PySem.W.Frag → Bool
  tb : List Str
def HSpec.tabB (sp : HSpec) (g : Addr → Option Obj) (K : PySem.W.Frag) : Bool := decide ((sp.tb.map fun x => (tabOf K x).2).Nodup) && sp.tb.all fun x => emptyB (g (tabOf K x).2) && ((K.lookup (tabOf K x).2).isNone && PySem.W.codeHdIn K (tabOf K x).1 (tabOf K x).2)
abbrev AlM : Type := (Bool × He.AlT) × Bool
def HSpec.obsK (sp : HSpec) (g : Addr → Option Obj) (K : PySem.W.Frag) : AlM := ((sp.ck K, He.obsT sp.fa sp.fn sp.ts K), sp.tabB g K)
def HSpec.obsG (sp : HSpec) (g : Addr → Option Obj) : AlM := sp.obsK g (frM sp.n g)
def HSpec.val (sp : HSpec) (w : World) : AlM := ((true, He.valT sp.fn sp.ts w), true)
structure HSpec.Says (sp : HSpec) (w : World) (h : Heap) (K : PySem.W.Frag) : Prop where
  kin : K.In h
  ck : sp.ck K = true
  says : He.SaysT sp.fa sp.fn sp.ts w K
  nd : (sp.tb.map fun x => (tabOf K x).2).Nodup
  tab : ∀ x ∈ sp.tb, h.get? (tabOf K x).2 = some { cls := .none, data := .fields #[] } ∧ K.lookup (tabOf K x).2 = none ∧ PySem.W.codeHdIn K (tabOf K x).1 (tabOf K x).2 = true
def HSpec.hook (sp : HSpec) : PySem.W.Hook where
  α := AlM
  obs := fun s => sp.obsG s.heap.get?
  val := fun w => sp.val w
  says := fun w h => ∃ K : PySem.W.Frag, sp.Says w h K
  of := fun w s e => by
    have e1 := congrArg (fun z : AlM => z.1.1) e
    have e2 := congrArg (fun z : AlM => z.1.2) e
    have e3 := congrArg (fun z : AlM => z.2) e
    obtain ⟨e4, e5⟩ := Bool.and_eq_true_iff.mp (show (decide _ && _) = true from e3)
    refine ⟨_, He.frG_in, e1, e2, of_decide_eq_true e4, fun x hx => ?_⟩
    have h := List.all_eq_true.mp e5 x hx
    obtain ⟨h1, h2⟩ := Bool.and_eq_true_iff.mp h
    obtain ⟨h2, h3⟩ := Bool.and_eq_true_iff.mp h2
    exact ⟨emptyB_ok h1, Option.isNone_iff_eq_none.mp h2, h3⟩
  keeps := fun _ _ _ ⟨K, s⟩ k => ⟨K, PySem.W.Frag.In.keeps s.kin k, s.ck, s.says, s.nd, fun x hx => ⟨k _ _ (s.tab x hx).1, (s.tab x hx).2⟩⟩
theorem HSpec.obs_eq {sp : HSpec} {g : Addr → Option Obj} {s : Shared} (h : ∀ a, g a = s.heap.get? a) : sp.obsG g = (sp.hook).obs s := by
  have e : g = s.heap.get? := funext h
  rw [e] <;> rfl
/-! ## facts read off -/
section
variable {K : PySem.W.Frag} {h : Heap} {mg : Str → Option Value}
/-- a def of the module -/
structure DefAt (K : PySem.W.Frag) (mg : Str → Option Value) (x qual : Str) (st : Stmt) (ps : List Str) (f : Addr) (fd : FuncData) : Prop where
  fn : L2.Fun K x qual st f fd
  bs : Binds K fd ps []
/-- tuples of texts and whole numbers -/
def dV : D → V
  | .int i => .int i
  | .str x => .str x
  | .bl b => .bl b
  | _ => .non
def scal : D → Bool
  | .int _ => true
  | .str _ => true
  | .bl _ => true
  | .non => true
  | _ => false
theorem dV_rep {ρ : List Addr} {H : Hp} {d : D} (h : scal d = true) : Rep K ρ H d (dV d) := by
  cases d <;> first | rfl | cases h
theorem dV_reps {ρ : List Addr} {H : Hp} : ∀ {ds : List D}, ds.all scal = true → Reps K ρ H ds (ds.map dV)
  | [], _ => rfl
  | d :: ds, h => by
    obtain ⟨h1, h2⟩ := Bool.and_eq_true_iff.mp (show (scal d && ds.all scal) = true from h)
    exact ⟨_, _, rfl, dV_rep h1, dV_reps h2⟩
def tupOkB (K : PySem.W.Frag) (x : Str) (ds : List D) : Bool := match K.lookup (He.ga K x) with
  | some ⟨.type c, none, .seq its _, _⟩ => decide (c = "tuple") && (decide (its.size ≤ sizeLine) && (ds.all scal && He.relAll (ds.map dV) its.toList))
  | _ => false
theorem tupOkB_ok {x : Str} {ds : List D} (hb : tupOkB K x ds = true) (ρ : List Addr) (H : Hp) : Rep K ρ H (.tup ds) (.ref (He.ga K x)) := by
  unfold tupOkB at hb
  split at hb
  · rename_i c its n sl hk
    obtain ⟨h1, hb⟩ := He.ba hb
    obtain ⟨h2, hb⟩ := He.ba hb
    obtain ⟨h3, h4⟩ := He.ba hb
    exact ⟨_, ds.map dV, rfl, .inr ⟨_, its, n, hk, congrArg Value.type (of_decide_eq_true h1), rfl, rfl, of_decide_eq_true h2, He.relAll_ok h4⟩, dV_reps h3⟩
  · cases hb
/-- an own exception class with its own __init__ -/
def oexB (K : PySem.W.Frag) (C : Addr) : Bool := (match K.lookup C with
  | some ⟨.type "type", _, .cls cd, sl⟩ => (match cd.mro, sl.toList with
    | .ref C' :: bm, [_, _, _, _, some (.builtin n), _] => C' == C && (n == "ValueError.__new__" && (!cd.hasDel && (cd.hasDict && PySem.HandSPX.refsVE bm)))
    | _, _ => false)
  | _ => false) && (decide (PySem.W.findIn K (.ref C) "__setattr__" = some (some (.builtin "object.__setattr__"))) && (decide (PySem.W.subIn K (.ref C) (.type "BaseException") = some true) && (decide (PySem.W.typeIn K (.ref C) = some (.type "type")) && PySem.W.keepIn K (.ref C))))
theorem oexB_ok {C : Addr} (hb : oexB K C = true) : OexC K C := by
  obtain ⟨h1, hb⟩ := He.ba hb
  obtain ⟨h2, hb⟩ := He.ba hb
  obtain ⟨h3, hb⟩ := He.ba hb
  obtain ⟨h4, h5⟩ := He.ba hb
  refine ⟨?_, of_decide_eq_true h2, of_decide_eq_true h3, of_decide_eq_true h4, h5⟩
  split at h1
  · rename_i dd cd sl hk
    split at h1
    · rename_i C' bm k0 k1 k2 k3 n k5 hm hs
      obtain ⟨g1, h1⟩ := He.ba h1
      obtain ⟨g2, h1⟩ := He.ba h1
      obtain ⟨g3, h1⟩ := He.ba h1
      obtain ⟨g4, g5⟩ := He.ba h1
      have e1 : C' = C := beq_iff_eq.mp g1
      have e2 : n = "ValueError.__new__" := beq_iff_eq.mp g2
      subst e1 e2
      obtain ⟨nm, bs, mro, ns, qn, hd, sn, sub, ab, col, del⟩ := cd
      have hm : mro = _ := hm
      have g3 : (!del) = true := g3
      have g4 : hd = true := g4
      subst hm g4
      cases del with
      | true => cases g3
      | false =>
        obtain ⟨sl⟩ := sl
        have hs : sl = _ := hs
        subst hs
        exact ⟨nm, qn, ns, bs, bm, sn, sub, ab, col, dd, k0, k1, k2, k3, k5, hk, g5⟩
    · cases h1
  · cases h1
def excCB (K : PySem.W.Frag) (C : Addr) : Bool := decide (PySem.W.findIn K (.ref C) "__getattribute__" = some (some (.builtin "BaseException.__getattribute__"))) && (decide (PySem.W.findIn K (.ref C) "__getattr__" = some none) && (decide (PySem.W.subIn K (.ref C) (.type "BaseException") = some true) && (PySem.W.hasDictIn K C &&
  (decide (PySem.W.findIn K (.ref C) "__class__" = some (some (.builtin "object.__class__"))) && (decide (PySem.W.specialIn K (.builtin "object.__class__") "__get__" = some (some (.builtin "getset_descriptor.__get__"))) && (decide (PySem.W.takesIn K (.builtin "object.__class__") = some true) && decide (PySem.W.mroIn K C (.type "object") = some true)))))))
theorem excCB_ok {C : Addr} (hb : excCB K C = true) : ExcC K C := by
  obtain ⟨h1, hb⟩ := He.ba hb
  obtain ⟨h2, hb⟩ := He.ba hb
  obtain ⟨h3, hb⟩ := He.ba hb
  obtain ⟨h4, hb⟩ := He.ba hb
  obtain ⟨h5, hb⟩ := He.ba hb
  obtain ⟨h6, hb⟩ := He.ba hb
  obtain ⟨h7, h8⟩ := He.ba hb
  exact ⟨of_decide_eq_true h1, of_decide_eq_true h2, of_decide_eq_true h3, h4, of_decide_eq_true h5, of_decide_eq_true h6, of_decide_eq_true h7, of_decide_eq_true h8⟩
def baseIB (K : PySem.W.Frag) (B : Addr) : Bool := decide (PySem.W.specialIn K (.ref B) "__getattribute__" = some (some (.builtin "type.__getattribute__"))) && (PySem.W.readsIn K B (.type "type") && (match PySem.W.findCls K (.ref B) (.type "type") "__init__" with
  | some (.val (.builtin n)) => n == "ValueError.__init__"
  | _ => false))
theorem baseIB_ok {B : Addr} (hb : baseIB K B = true) : BaseI K B := by
  obtain ⟨h1, hb⟩ := He.ba hb
  obtain ⟨h2, h3⟩ := He.ba hb
  refine ⟨of_decide_eq_true h1, h2, ?_⟩
  split at h3
  · rename_i n hn
    have e : n = "ValueError.__init__" := beq_iff_eq.mp h3
    rw [hn, e]
  · cases h3
/-- none of the names is the class's own -/
def noatB (K : PySem.W.Frag) (C : Addr) (an : List Str) : Bool := an.all fun x => decide (PySem.W.findIn K (.ref C) x = some none)
theorem noatB_ok {C : Addr} {an : List Str} (hb : noatB K C an = true) {n : Nat} {x : Str} (hx : an[n]? = some x) : PySem.W.findIn K (.ref C) x = some none := of_decide_eq_true (List.all_eq_true.mp hb x (List.mem_of_getElem? hx))
/-- a table with text keys and whole numbers -/
theorem ns_none {P : Params} : ∀ {l : List DictEntry} {ks : List Str} {z : Str}, l.map He.keyOf = He.keysIn P ks → z ∉ ks → l.find? (·.key.isStr z) = none ∧ l.any (·.refKey) = false
  | [], _, _, _, _ => ⟨rfl, rfl⟩
  | e :: l, [], z, h, _ => by cases h
  | e :: l, k :: ks, z, h, hz => by
    have h1 : He.keyOf e :: l.map He.keyOf = some (k, PyData.keyHash P k) :: He.keysIn P ks := h
    injection h1 with h2 h3
    obtain ⟨i1, i2⟩ := ns_none (z := z) h3 fun hm => hz (List.mem_cons_of_mem _ hm)
    unfold He.keyOf at h2
    split at h2
    · rename_i x t q
      have h4 := Option.some.inj h2
      have h5 : x = k := (Prod.mk.inj h4).1
      subst h5
      have hne : x ≠ z := fun e => hz (e ▸ List.mem_cons_self)
      refine ⟨?_, ?_⟩
      · rw [List.find?_cons, q]
        have : (Value.str x t).isStr z = false := by
          show _ = _
          simp [Value.isStr, hne]
        rw [this]
        exact i1
      · rw [List.any_cons, i2, Bool.or_false]
        unfold DictEntry.refKey
        rw [q]
    · cases h2
theorem dicW_keys {a : Addr} {l : List (Option (Str × Int))} (hd : He.dicW K a = some l) : ∃ es n, K.lookup a = some ⟨.type "dict", none, .dict es n, #[]⟩ ∧ es.toList.map He.keyOf = l ∧ (a == sysModules) = false := by
  unfold He.dicW at hd
  split at hd
  · rename_i c es n sl hk
    split at hd
    · rename_i hc
      have h1 := Option.some.inj hd
      obtain ⟨c1, c2⟩ := He.ba hc
      obtain ⟨c3, c4⟩ := He.ba c2
      have e1 : c = "dict" := of_decide_eq_true c1
      have e2 := Array.isEmpty_iff.mp c3
      subst e1 e2
      exact ⟨es, n, hk, h1, by simpa using c4⟩
    · cases hd
  · cases hd
theorem lookup_memD {tbl : List (Str × Int)} {z : Str} {i : Int} (h : tbl.lookup z = some i) : (z, i) ∈ tbl := PySem.mem_of_lookup h
theorem lookup_notin : ∀ {tbl : List (Str × Int)} {z : Str}, tbl.lookup z = none → z ∉ tbl.map (·.1)
  | [], _, _ => by simp
  | (k, v) :: r, z, h => by
    rw [List.lookup_cons] at h
    split at h
    · cases h
    · rename_i hne
      have hne : z ≠ k := by simpa using hne
      simp only [List.map_cons, List.mem_cons, not_or]
      exact ⟨hne, lookup_notin h⟩
theorem kd_of {g : G} {x : Str} {tbl : List (Str × Int)} (hm : g.mg x = some (.ref (He.ga g.K x))) (hd : He.dicW g.K (He.ga g.K x) = some (He.keysIn g.w.params (tbl.map (·.1)))) (hv : He.valsB g.K (He.ga g.K x) (tbl.map fun p => (p.1, He.Dv.int p.2)) = true) : g.Kd x tbl := by
  obtain ⟨es, n, h1, h2, h3⟩ := dicW_keys hd
  refine ⟨_, es, n, hm, ⟨h1, He.keysLit_of h2, h3⟩, fun z => ?_⟩
  split
  · rename_i i hi
    obtain ⟨u, e1, e2⟩ := He.valsB_ok hv (q := (z, He.Dv.int i)) (List.mem_map.mpr ⟨_, lookup_memD hi, rfl⟩)
    obtain ⟨t, rfl⟩ := e2
    exact ⟨t, e1⟩
  · rename_i hi
    obtain ⟨f1, f2⟩ := ns_none h2 (lookup_notin hi)
    unfold PySem.W.nsIn
    rw [h1]
    dsimp only
    rw [f1, f2]
    rfl
theorem SaysT_raw {fa : List He.Fa} {fn : List He.DefD} {ts : List He.Tab} {w : World} (c : He.SaysT fa fn ts w K) (i : Nat) {t : He.Tab} (h : ts[i]? = some t := by rfl) : He.dicW K (t.1 K) = some (He.keysIn w.params t.2) := by
  have e : ts.map (fun t => He.dicW K (t.1 K)) = ts.map fun t => some (He.keysIn w.params t.2) := congrArg (fun z : He.AlT => z.2) c
  have e2 := congrArg (fun l => l[i]?) e
  simp only [List.getElem?_map, h, Option.map_some] at e2
  exact Option.some.inj e2
end
/-- a def's facts by its datum -/
theorem def_at {fa : List He.Fa} {fn : List He.DefD} {K : PySem.W.Frag} (c : He.SaysD fa fn K) (i : Nat) {at_ : Str × Option Str} {x qual : Str} {st : Stmt} (h : fn[i]? = some ⟨at_, x, qual, defArgs st, defBody st, defScope st, [], []⟩) (ps : List Str)
    (hb : ∀ (kV doc pm : Value) (an : Option Addr) (cdv ct : Value) (us : List Value), us.length = ps.length → bindArgs (PySem.W.fnOf x qual (defArgs st) (defBody st) (defScope st) .none kV doc pm an cdv ct) ⟨us, []⟩ = pure (ps.zip us)) :
    ∃ fd, L2.Fun K x qual st (He.fAd K at_) fd ∧ Binds K fd ps [] := by
  obtain ⟨fd, F⟩ := c.def_ i h
  exact ⟨fd, He5.fun_of F, F.bindsN hb⟩
/-! ## the law's own promise -/
def spS (N : Nm) (K : PySem.W.Frag) (F : List D → M D) : Sp := fun vs H Q _ => ∃ (a : Addr) (ns : List Int), vs = [.ref a] ∧ SqL K H a (ns.map V.int) ∧ LamX.Tabs N.tb H ∧ (∃ s, F [.scr ns] [] = .ok (.bl true) s) ∧ ∀ H', Q (.bl true) H'
theorem spS_of {N : Nm} (hz : N.z = none) {K : PySem.W.Frag} {F : List D → M D} {H : Hp} {a : Addr} {ns : List Int} {Q : VK} {E : XK} (ht : LamX.Tabs N.tb H) (hF : ∃ s, F [.scr ns] [] = .ok (.bl true) s) (hQ : ∀ H', Q (.bl true) H') (hr : Rep K [] H (.scr ns) (.ref a)) : spF N K 1 F [.ref a] H Q E := by
  obtain ⟨s, hF⟩ := hF
  refine ⟨[], [], [.scr ns], Rel.nil hz ht, ⟨_, _, rfl, hr, rfl⟩, rfl, ?_⟩
  rw [hF]
  intro ρ' H' _ _ v rv
  have rv : v = .bl true := rv
  subst rv
  exact hQ H'
theorem law_fn {P : Program} {w : World} {K : PySem.W.Frag} {mg : Str → Option Value} {base : Heap} {k : Nat} {f : Addr} {fd : FuncData} {ps : List Str} {N : Nm} (hz : N.z = none) {F : List D → M D} (O : FnOk P w K mg base (L2.CX P w) k f fd ps (spF N K 1 F)) (hps : ps.length = 1) :
    FnOk P w K mg base (L2.CX P w) k f fd ps (spS N K F) := by
  refine ⟨fun vs H Q E ⟨a, ns, e, _⟩ => by rw [e, hps]; rfl, fun A outer s H args us vs Q E hr e0 hb hv ⟨a, ns, e, hs, ht, hF, hQ⟩ => ?_⟩
  subst e
  have err : ∀ {H1 : Hp} {r : Result} {s' : Shared}, CR (L2.CX P w) outer P w H1 s Q (fun _ _ _ => False) r s' → (∀ v H2, Un (frs outer) [] H1 H2 s.heap s'.heap → Un (frs outer) [] H H2 s.heap s'.heap) → CR (L2.CX P w) outer P w H s Q E r s' := fun {H1 r s'} c hu => by
    cases r with
    | error e =>
      obtain ⟨_, _, _, _, _, _, _, _, _, _, _, _, z⟩ := c
      exact z.elim
    | ok fl =>
      cases fl with
      | ret u =>
        obtain ⟨v, H2, c1, c2, c3, c4, c5, c6⟩ := c
        exact ⟨v, H2, c1, c2, hu v H2 c3, c4, c5, c6⟩
      | next => exact c.elim
      | brk => exact c.elim
      | cont => exact c.elim
  rcases hs with (hl | ⟨o, hf⟩) | hk
  · obtain ⟨zz, its, n, ri, eo⟩ := e0.hok a _ hl
    have ne : ∀ {b : Addr} {u : HO}, H b = some u → (∀ xs, u ≠ .lst xs) → b ≠ a := fun {b u} e1 e2 z => by
      rw [z, hl] at e1; cases e1; exact e2 _ rfl
    have nn : ∀ {b : Addr}, H b = none → b ≠ a := fun {b} e1 z => by rw [z, hl] at e1; cases e1
    generalize hob : ({ cls := .type "list", data := .seq its.toArray n } : Obj) = ob at eo
    have e1 : Env0 P w K mg base A outer s (upd H a (.frz ob (.lst (ns.map V.int)))) := ⟨e0.frames, e0.mod, fun b o e => ⟨(e0.bs b o e).1, by rw [upd_ne (nn (e0.bs b o e).2)]; exact (e0.bs b o e).2⟩, e0.bsz, e0.funs, fun b hb => by rw [upd_ne (nn (e0.frf b hb))]; exact e0.frf b hb, fun b u e => by
      have ow : ∀ c, H c = some (.own b) → upd H a (.frz ob (.lst (ns.map V.int))) c = some (.own b) := fun c hc => by rw [upd_ne (ne hc fun xs z => by cases z)]; exact hc
      have tu : ∀ c xs, H c = some (.tup xs) → upd H a (.frz ob (.lst (ns.map V.int))) c = some (.tup xs) := fun c xs hc => by rw [upd_ne (ne hc fun xs z => by cases z)]; exact hc
      by_cases hb : b = a
      · subst hb
        rw [upd_same] at e
        cases e
        exact ⟨eo, (e0.hok b _ hl).stay (fun _ _ _ z => z) ow tu⟩
      · rw [upd_ne hb] at e
        exact (e0.hok b u e).stay (fun _ _ _ z => z) ow tu, e0.bare⟩
    refine codeAny_mono (O.run A outer s _ args us [.ref a] Q (fun _ _ _ => False) hr e1 hb hv (spS_of hz (tabs_upd ht fun u e => by rw [hl] at e; cases e; exact .inl ⟨_, rfl⟩) hF hQ ⟨a, rfl, .inl ⟨ob, upd_same⟩⟩)) fun r s' c => err c fun v H2 un => ?_
    exact ⟨fun b o e n => un.keep b o e (by rw [upd_ne (nn n)]; exact n), fun b o e n => un.slot b o e (by rw [upd_ne (nn n)]; exact n), fun b o e n => un.free b o e (by rw [upd_ne (nn n)]; exact n), un.there,
      fun b xs e => un.tups b xs (by rw [upd_ne (ne e fun xs z => by cases z)]; exact e), fun b o u e => un.frzs b o u (by rw [upd_ne (ne e fun xs z => by cases z)]; exact e), fun b ps e => un.tbls b ps (by rw [upd_ne (ne e fun xs z => by cases z)]; exact e)⟩
  · exact codeAny_mono (O.run A outer s H args us [.ref a] Q (fun _ _ _ => False) hr e0 hb hv (spS_of hz ht hF hQ ⟨a, rfl, .inl ⟨o, hf⟩⟩)) fun r s' c => err c fun v H2 un => un
  · exact codeAny_mono (O.run A outer s H args us [.ref a] Q (fun _ _ _ => False) hr e0 hb hv (spS_of hz ht hF hQ ⟨a, rfl, .inr hk⟩)) fun r s' c => err c fun v H2 un => un
theorem tabOf_code {K : PySem.W.Frag} {x : Str} {oc : Value} {od : Option Addr} {fd : FuncData} {osl : Array (Option Value)} (lk : K.lookup (He.ga K x) = some ⟨oc, od, .func fd, osl⟩) (t3 : PySem.W.codeHdIn K (tabOf K x).1 (tabOf K x).2 = true) : fd.code = .ref (tabOf K x).1 := by
  have bad : PySem.W.codeHdIn K 0 0 = true → False := fun z => by
    unfold PySem.W.codeHdIn at z
    split at z
    · simp at z
    · cases z
  unfold tabOf at t3 ⊢
  rw [lk] at t3 ⊢
  dsimp only at t3 ⊢
  cases hc : fd.code with
  | ref c =>
    rw [hc] at t3
    dsimp only at t3 ⊢
    cases hv : K.lookup c with
    | none => rw [hv] at t3; exact (bad t3).elim
    | some o =>
      obtain ⟨a1, a2, da, a4⟩ := o
      rw [hv] at t3
      cases da with
      | fields vs =>
        dsimp only at t3 ⊢
        cases hP : (vs.toList[11]? : Option Value) with
        | none => rw [hP] at t3; exact (bad t3).elim
        | some v =>
          rw [hP] at t3
          cases v with
          | ref P => rfl
          | _ => exact (bad t3).elim
      | _ => exact (bad t3).elim
  | _ => rw [hc] at t3; exact (bad t3).elim
/-- the tables of a def that makes lambdas -/
theorem lm_of {g : G} {sp : HSpec} {w : World} {h : Heap} (S : sp.Says w h g.K) (hN : g.N.tb = sp.tb.map fun x => ((tabOf g.K x).2, x ++ ".<locals>." ++ "<lambda>")) (hT : ∀ p ∈ sp.tb.map (tabOf g.K), LamX.TabB g.base g.mg p.1 p.2) {x : Str} (hx : x ∈ sp.tb) {st : Stmt} {fd : FuncData} (F : L2.Fun g.K x x st (He.ga g.K x) fd) : g.Lm fd.code x := by
  obtain ⟨oc, od, kV, doc, pm, an, cdv, ct, osl, rfl, lk, hcd⟩ := F.ex
  obtain ⟨t1, t2, t3⟩ := S.tab x hx
  have e : cdv = .ref (tabOf g.K x).1 := tabOf_code lk t3
  refine ⟨_, (tabOf g.K x).2, e, hT _ (List.mem_map.mpr ⟨x, hx, rfl⟩), by rw [hN]; exact List.mem_map.mpr ⟨x, hx, rfl⟩, fun p hp ep => ?_⟩
  rw [hN] at hp
  obtain ⟨y, hy, rfl⟩ := List.mem_map.mp hp
  have nd := S.nd
  have : y = x := by
    obtain ⟨i, hi⟩ := List.mem_iff_getElem?.mp hy
    obtain ⟨j, hj⟩ := List.mem_iff_getElem?.mp hx
    have ei : (sp.tb.map fun x => (tabOf g.K x).2)[i]? = some (tabOf g.K y).2 := by rw [List.getElem?_map, hi]; rfl
    have ej : (sp.tb.map fun x => (tabOf g.K x).2)[j]? = some (tabOf g.K x).2 := by rw [List.getElem?_map, hj]; rfl
    have ep : (tabOf g.K y).2 = (tabOf g.K x).2 := ep
    rw [ep] at ei
    obtain ⟨h1, h2⟩ := List.getElem?_eq_some_iff.mp ei
    obtain ⟨h3, h4⟩ := List.getElem?_eq_some_iff.mp ej
    have : i = j := (List.getElem_inj nd).mp (h2.trans h4.symm)
    subst this
    rw [hi] at hj; cases hj; rfl
  rw [this]
end Mi
set_option Elab.async false
set_option linter.all false
set_option maxRecDepth 100000
set_option maxHeartbeats 4000000
namespace K22
open PySem PySem.Spec PyProof.Rows L2 Mi
/-! ## the text -/
def top (i : Nat) : Stmt := PySem.Challenge.pw_nestrows_k22_corners_told_by_hand.main.body.getD i (.Pass ⟨0, 0, 0, 0⟩)
def mtd (i j : Nat) : Stmt := match top i with
  | .ClassDef _ _ _ b _ _ _ _ _ _ _ => b.getD j (.Pass ⟨0, 0, 0, 0⟩)
  | s => s
def cnL : List Str := ["NestError", "BadProgram", "BadText", "Looker", "Reader"]
def anL : List Str := ["function", "place", "word", "row", "program", "number", "own", "words"]
def xsL : List Nat := [0, 1, 2]
/-- is the class c a kind of c2 -/
def subB (c c2 : Nat) : Bool := match c with
  | 0 => decide (c2 = 0)
  | 1 => decide (c2 = 1) || decide (c2 = 0)
  | 2 => decide (c2 = 2) || decide (c2 = 0)
  | _ => false
def c_PRIME : D := (.int 10007)
def c_MOST_NAME : D := (.int 19)
def c_MOST_DEPTH : D := (.int 3)
def c_MOST_FUNCTIONS : D := (.int 6)
def c_MOST_PARAMS : D := (.int 4)
def c_MOST_PLACES : D := (.int 60)
def c_MOST_WITHIN : D := (.int 12)
def c_SUMS : D := (.tup [(.str "plus"), (.str "minus"), (.str "times"), (.str "less"), (.str "same")])
def c_ONES : D := (.tup [(.str "upto"), (.str "len"), (.str "sum"), (.str "sums"), (.str "one"), (.str "flat")])
def c_TWOS : D := (.tup [(.str "plus"), (.str "minus"), (.str "times"), (.str "less"), (.str "same"), (.str "pick"), (.str "put")])
def c_GOES : D := (.tup [(.str "each"), (.str "where")])
def t_COUNTS : List (Str × Int) := [("num", 1), ("name", 1), ("if", 3), ("let", 3), ("call", 2)]
def c_FIGURES : D := (.str "0123456789")
def c_MOST_FIGURES : D := (.int 5)
def c_OPEN : D := (.str "(")
def c_CLOSE : D := (.str ")")
theorem un1 {u : Nat} (h : u + 64 < cLine) : u + 1 < cLine := by omega
/-- what is told of the module -/
structure Cs (g : G) : Prop where
  an : g.N.an = anL
  cn : g.N.cn = cnL
  xs : g.N.xs = xsL
  b_ValueError : g.mg "ValueError" = none
  b_bool : g.mg "bool" = none
  b_dict : g.mg "dict" = none
  b_int : g.mg "int" = none
  b_isinstance : g.mg "isinstance" = none
  b_len : g.mg "len" = none
  b_range : g.mg "range" = none
  b_set : g.mg "set" = none
  b_str : g.mg "str" = none
  b_sum : g.mg "sum" = none
  b_tuple : g.mg "tuple" = none
  c_PRIME : g.Con "PRIME" c_PRIME
  c_MOST_NAME : g.Con "MOST_NAME" c_MOST_NAME
  c_MOST_DEPTH : g.Con "MOST_DEPTH" c_MOST_DEPTH
  c_MOST_FUNCTIONS : g.Con "MOST_FUNCTIONS" c_MOST_FUNCTIONS
  c_MOST_PARAMS : g.Con "MOST_PARAMS" c_MOST_PARAMS
  c_MOST_PLACES : g.Con "MOST_PLACES" c_MOST_PLACES
  c_MOST_WITHIN : g.Con "MOST_WITHIN" c_MOST_WITHIN
  c_SUMS : g.Con "SUMS" c_SUMS
  c_ONES : g.Con "ONES" c_ONES
  c_TWOS : g.Con "TWOS" c_TWOS
  c_GOES : g.Con "GOES" c_GOES
  t_COUNTS : g.Kd "COUNTS" t_COUNTS
  c_FIGURES : g.Con "FIGURES" c_FIGURES
  c_MOST_FIGURES : g.Con "MOST_FIGURES" c_MOST_FIGURES
  c_OPEN : g.Con "OPEN" c_OPEN
  c_CLOSE : g.Con "CLOSE" c_CLOSE
  g_NestError : g.mg "NestError" = some (.ref (g.N.cl g.K 0))
  kit_NestError : ∀ c ∈ g.N.xs, PySem.W.kitOne g.K (.ref (g.N.cl g.K c)) (.ref (g.N.cl g.K 0)) = some (subB c 0)
  exm_NestError : ∀ c ∈ g.N.xs, PySem.W.exmOne g.K (.ref (g.N.cl g.K c)) (.ref (g.N.cl g.K 0)) = some (subB c 0)
  g_BadProgram : g.mg "BadProgram" = some (.ref (g.N.cl g.K 1))
  kit_BadProgram : ∀ c ∈ g.N.xs, PySem.W.kitOne g.K (.ref (g.N.cl g.K c)) (.ref (g.N.cl g.K 1)) = some (subB c 1)
  exm_BadProgram : ∀ c ∈ g.N.xs, PySem.W.exmOne g.K (.ref (g.N.cl g.K c)) (.ref (g.N.cl g.K 1)) = some (subB c 1)
  g_BadText : g.mg "BadText" = some (.ref (g.N.cl g.K 2))
  kit_BadText : ∀ c ∈ g.N.xs, PySem.W.kitOne g.K (.ref (g.N.cl g.K c)) (.ref (g.N.cl g.K 2)) = some (subB c 2)
  exm_BadText : ∀ c ∈ g.N.xs, PySem.W.exmOne g.K (.ref (g.N.cl g.K c)) (.ref (g.N.cl g.K 2)) = some (subB c 2)
  kit_ValueError : ∀ c ∈ g.N.xs, PySem.W.kitOne g.K (.ref (g.N.cl g.K c)) (.type "ValueError") = some true
  xcl : ∀ c ∈ g.N.xs, XCl g.N g.K c
theorem Cs.nd {g : G} (C : Cs g) : g.N.an.Nodup := by rw [C.an]; decide +kernel
theorem Cs.an_0 {g : G} (C : Cs g) : g.N.an[0]? = some ("function" : Str) := by rw [C.an]; rfl
theorem Cs.an_1 {g : G} (C : Cs g) : g.N.an[1]? = some ("place" : Str) := by rw [C.an]; rfl
theorem Cs.an_2 {g : G} (C : Cs g) : g.N.an[2]? = some ("word" : Str) := by rw [C.an]; rfl
theorem Cs.an_3 {g : G} (C : Cs g) : g.N.an[3]? = some ("row" : Str) := by rw [C.an]; rfl
theorem Cs.an_4 {g : G} (C : Cs g) : g.N.an[4]? = some ("program" : Str) := by rw [C.an]; rfl
theorem Cs.an_5 {g : G} (C : Cs g) : g.N.an[5]? = some ("number" : Str) := by rw [C.an]; rfl
theorem Cs.an_6 {g : G} (C : Cs g) : g.N.an[6]? = some ("own" : Str) := by rw [C.an]; rfl
theorem Cs.an_7 {g : G} (C : Cs g) : g.N.an[7]? = some ("words" : Str) := by rw [C.an]; rfl
/-- the functions that take a lambda: their mirrors -/
def n_law_kind : List Str := ["_law_work", "e"]
def st_law_kind : Stmt := top 36
def cc__law_kind (c : Nat) : Option Bool := if xsL.contains c = true then some (subB c 0) else none
def h__law_kind (c : Nat) (fs : List (Nat × D)) : SF :=
    (seqS (ifS (tstE (cE (.bl (subB c 1)))) (retS (tupE (argsE [(xfE (fs.lookup 0)), (xfE (fs.lookup 1)), (xfE (fs.lookup 2))]))) nilS)
    (retS (ifE (tstE (cE (.bl (subB c 2)))) (tupE (argsE [(cE (.str "text")), (xfE (fs.lookup 3)), (xfE (fs.lookup 1))])) (cE (.str "other")))))
def w__law_kind : (M D) → M D := kindF 2 cc__law_kind 1 h__law_kind
theorem su__law_kind {g : G} (C : Cs g) : ∀ c fs N Y, SuC g n_law_kind (defScope st_law_kind) 1 c fs N Y → SSs N WF Y (match defBody st_law_kind with | [.Try _ [.ExceptHandler _ _ b _] _ _ _] => b | _ => []) (h__law_kind c fs) := fun c fs N Y s => by
  have nd : (n_law_kind).Nodup := by decide +kernel
  exact (ss_cons (s_if (sb_val (s.isC rfl (by decide +kernel) (by decide +kernel) C.b_isinstance (by decide +kernel) C.g_BadProgram (C.kit_BadProgram c s.xc.ix))) (ss_one (s_ret (se_tup (sa_cons (s.fld 0 C.an_0 rfl (by decide +kernel)) (sa_cons (s.fld 1 C.an_1 rfl (by decide +kernel)) (sa_cons (s.fld 2 C.an_2 rfl (by decide +kernel)) sa_nil)))))) ss_nil)
    (ss_one (s_ret (se_if (sb_val (s.isC rfl (by decide +kernel) (by decide +kernel) C.b_isinstance (by decide +kernel) C.g_BadText (C.kit_BadText c s.xc.ix))) (se_tup (sa_cons se_str (sa_cons (s.fld 3 C.an_3 rfl (by decide +kernel)) (sa_cons (s.fld 1 C.an_1 rfl (by decide +kernel)) sa_nil)))) se_str))))
/-- what raising needs; what a lambda is handed to -/
structure Vs (g : G) : Prop where
  x_BadProgram : g.Xm 1 "BadProgram" 1 [0, 1, 2]
  x_BadText : g.Xm 1 "BadText" 2 [3, 1]
  w__law_kind : g.Wk "_law_kind" "_law_work" w__law_kind
/-- the defs at a level -/
structure Fx (g : G) (l : Nat) (T : Tab) : Prop where
  f_is_number : g.Gl l "is_number" 2 (T 0)
  f_count_of : g.Gl l "count_of" 1 (T 1)
  f_is_form : g.Gl l "is_form" 1 (T 2)
  f_parts_of : g.Gl l "parts_of" 1 (T 3)
  f_size_of : g.Gl l "size_of" 1 (T 4)
  k_Looker : g.Mk l "Looker" 3 3 (T 5)
  m_Looker_refuse : g.Me l 3 "refuse" 3 (T 6)
  m_Looker_depth : g.Me l 3 "depth" 4 (T 7)
  m_Looker_inner_depths : g.Me l 3 "inner_depths" 4 (T 8)
  m_Looker_called : g.Me l 3 "called" 5 (T 9)
  f_depth_of : g.Gl l "depth_of" 2 (T 10)
  f_is_face : g.Gl l "is_face" 1 (T 11)
  f_need_program : g.Gl l "need_program" 1 (T 12)
  f_faces : g.Gl l "faces" 1 (T 13)
  k_Reader : g.Mk l "Reader" 4 3 (T 14)
  m_Reader_fail : g.Me l 4 "fail" 1 (T 15)
  m_Reader_seen : g.Me l 4 "seen" 1 (T 16)
  m_Reader_count : g.Me l 4 "count" 1 (T 17)
  m_Reader_sign : g.Me l 4 "sign" 2 (T 18)
  m_Reader_tree : g.Me l 4 "tree" 1 (T 19)
  m_Reader_whole : g.Me l 4 "whole" 1 (T 20)
  f_read : g.Gl l "read" 1 (T 21)
  f_law_taken : g.Gl l "_law_taken" 2 (T 22)
  f_law_calls : g.Gl l "_law_calls" 1 (T 23)
  f_law_names : g.Gl l "_law_names" 1 (T 24)
  f_law : g.Gl l "law" 1 (T 25)
def s_is_number_0 (T T1 : Tab) : SF :=
    (retS (andV (isiE "int" (vE 0)) (andV (notV (isiE "bool" (vE 0))) (chE leD leD (cE (.int 0)) (vE 0) (vE 1)))))
def n_is_number : List Str := ["part", "most"]
def st_is_number : Stmt := top 17
def b_is_number (T T1 : Tab) : SF :=
    (s_is_number_0 T T1)
theorem d_is_number {g : G} {l : Nat} {T T1 : Tab} (C : Cs g) (V : Vs g) (F : Fx g (l + 2) T) (F1 : Fx g l T1) {cd : Value} {X : Cx} {W : WX} (c : DefC g (l + 3) n_is_number (defScope st_is_number) "is_number" cd X W) : SSs g.N W X (defBody st_is_number) (b_is_number T T1) := by
  have nd : (n_is_number).Nodup := by decide +kernel
  exact (ss_one (s_ret (se_and (c.isi C.b_isinstance C.b_int (by decide +kernel) (by decide +kernel) rfl rfl (c.var 0 rfl (by decide +kernel))) (se_and (se_not (c.isi C.b_isinstance C.b_bool (by decide +kernel) (by decide +kernel) rfl rfl (c.var 0 rfl (by decide +kernel)))) (se_one (se_chain2 op_le op_le ops_le ops_le se_int (c.var 0 rfl (by decide +kernel)) (c.var 1 rfl (by decide +kernel))))))))
def s_count_of_0 (T T1 : Tab) : SF :=
    (ifS (notB (tstE (isiE "str" (vE 0)))) (retS (cE .non)) nilS)
def s_count_of_1 (T T1 : Tab) : SF :=
    (ifS (tstE (binE inD (vE 0) (cE c_GOES))) (retS (cE (.int 3))) nilS)
def s_count_of_2 (T T1 : Tab) : SF :=
    (ifS (tstE (binE inD (vE 0) (cE c_ONES))) (retS (cE (.int 1))) nilS)
def s_count_of_3 (T T1 : Tab) : SF :=
    (retS (ifE (tstE (binE inD (vE 0) (cE c_TWOS))) (cE (.int 2)) (kgetE t_COUNTS (vE 0))))
def n_count_of : List Str := ["word"]
def st_count_of : Stmt := top 18
def b_count_of (T T1 : Tab) : SF :=
    (seqS (s_count_of_0 T T1) (seqS (s_count_of_1 T T1) (seqS (s_count_of_2 T T1) (s_count_of_3 T T1))))
theorem d_count_of {g : G} {l : Nat} {T T1 : Tab} (C : Cs g) (V : Vs g) (F : Fx g (l + 2) T) (F1 : Fx g l T1) {cd : Value} {X : Cx} {W : WX} (c : DefC g (l + 3) n_count_of (defScope st_count_of) "count_of" cd X W) : SSs g.N W X (defBody st_count_of) (b_count_of T T1) := by
  have nd : (n_count_of).Nodup := by decide +kernel
  exact (ss_cons (s_if (sb_not (sb_val (c.isi C.b_isinstance C.b_str (by decide +kernel) (by decide +kernel) rfl rfl (c.var 0 rfl (by decide +kernel))))) (ss_one (s_ret se_non)) ss_nil)
    (ss_cons (s_if (sb_cmp op_in_seq ops_in (c.var 0 rfl (by decide +kernel)) (c.con C.c_GOES (by decide +kernel)) rfl) (ss_one (s_ret se_int)) ss_nil)
    (ss_cons (s_if (sb_cmp op_in_seq ops_in (c.var 0 rfl (by decide +kernel)) (c.con C.c_ONES (by decide +kernel)) rfl) (ss_one (s_ret se_int)) ss_nil)
    (ss_one (s_ret (se_if (sb_cmp op_in_seq ops_in (c.var 0 rfl (by decide +kernel)) (c.con C.c_TWOS (by decide +kernel)) rfl) se_int (c.kget C.t_COUNTS (by decide +kernel) (c.var 0 rfl (by decide +kernel)) ⟨rfl, rfl, rfl, rfl⟩)))))))
def s_is_form_0 (T T1 : Tab) : SF :=
    (ifS (orB (notB (tstE (isiE "tuple" (vE 0)))) (orB (tstE (binE eqD (vE 0) (tupE (argsE [])))) (tstE (binE neD (callE (appF (T 1)) (argsE [(binE idxD (vE 0) (cE (.int 0)))])) (binE subD (callE lenD (argsE [(vE 0)])) (cE (.int 1))))))) (retS (cE (.bl false))) nilS)
def s_is_form_1 (T T1 : Tab) : SF :=
    (setS 1 (binE idxD (vE 0) (cE (.int 0))))
def s_is_form_2 (T T1 : Tab) : SF :=
    (ifS (tstE (binE eqD (vE 1) (cE (.str "num")))) (retS (callE (appF (T 0)) (argsE [(binE idxD (vE 0) (cE (.int 1))), (binE subD (cE c_PRIME) (cE (.int 1)))]))) nilS)
def s_is_form_3 (T T1 : Tab) : SF :=
    (ifS (tstE (binE eqD (vE 1) (cE (.str "call")))) (retS (andV (callE (appF (T 0)) (argsE [(binE idxD (vE 0) (cE (.int 1))), (binE subD (cE c_MOST_FUNCTIONS) (cE (.int 1)))])) (isiE "tuple" (binE idxD (vE 0) (cE (.int 2)))))) nilS)
def s_is_form_4 (T T1 : Tab) : SF :=
    (retS (orV (binE notInD (vE 1) (binE addD (tupE (argsE [(cE (.str "name")), (cE (.str "let"))])) (cE c_GOES))) (callE (appF (T 0)) (argsE [(binE idxD (vE 0) (cE (.int 1))), (cE c_MOST_NAME)]))))
def n_is_form : List Str := ["tree", "word"]
def st_is_form : Stmt := top 19
def b_is_form (T T1 : Tab) : SF :=
    (seqS (s_is_form_0 T T1) (seqS (s_is_form_1 T T1) (seqS (s_is_form_2 T T1) (seqS (s_is_form_3 T T1) (s_is_form_4 T T1)))))
theorem d_is_form {g : G} {l : Nat} {T T1 : Tab} (C : Cs g) (V : Vs g) (F : Fx g (l + 2) T) (F1 : Fx g l T1) {cd : Value} {X : Cx} {W : WX} (c : DefC g (l + 3) n_is_form (defScope st_is_form) "is_form" cd X W) : SSs g.N W X (defBody st_is_form) (b_is_form T T1) := by
  have nd : (n_is_form).Nodup := by decide +kernel
  exact (ss_cons (s_if (sb_w (sw_or (sb_not (sb_val (c.isi C.b_isinstance C.b_tuple (by decide +kernel) (by decide +kernel) rfl rfl (c.var 0 rfl (by decide +kernel))))) (sw_or (sb_cmp (op_eqA c.un) ops_eq (c.var 0 rfl (by decide +kernel)) (se_tup sa_nil) (nomark _)) (sw_or1 (sb_cmp (op_neA c.un) ops_ne (c.call F.f_count_of (Nat.le_succ _) (by decide +kernel) (sa_cons (se_ix (c.var 0 rfl (by decide +kernel)) se_int (fun _ _ => rfl)) sa_nil)) (se_op op_sub ops_sub (c.blt C.b_len call_lenA cs_len (by decide +kernel) rfl (sa_cons (c.var 0 rfl (by decide +kernel)) sa_nil)) se_int) (nomark _)))))) (ss_one (s_ret se_bl)) ss_nil)
    (ss_cons (c.set nd 1 rfl (c.wr (by decide +kernel)) (g.off 1) (se_ix (c.var 0 rfl (by decide +kernel)) se_int (fun _ _ => rfl)))
    (ss_cons (s_if (sb_cmp (op_eqA c.un) ops_eq (c.var 1 rfl (by decide +kernel)) se_str (nomark _)) (ss_one (s_ret (c.call F.f_is_number (Nat.le_succ _) (by decide +kernel) (sa_cons (se_ix (c.var 0 rfl (by decide +kernel)) se_int (fun _ _ => rfl)) (sa_cons (se_op op_sub ops_sub (c.con C.c_PRIME (by decide +kernel)) se_int) sa_nil))))) ss_nil)
    (ss_cons (s_if (sb_cmp (op_eqA c.un) ops_eq (c.var 1 rfl (by decide +kernel)) se_str (nomark _)) (ss_one (s_ret (se_and (c.call F.f_is_number (Nat.le_succ _) (by decide +kernel) (sa_cons (se_ix (c.var 0 rfl (by decide +kernel)) se_int (fun _ _ => rfl)) (sa_cons (se_op op_sub ops_sub (c.con C.c_MOST_FUNCTIONS (by decide +kernel)) se_int) sa_nil))) (se_one (c.isi C.b_isinstance C.b_tuple (by decide +kernel) (by decide +kernel) rfl rfl (se_ix (c.var 0 rfl (by decide +kernel)) se_int (fun _ _ => rfl))))))) ss_nil)
    (ss_one (s_ret (se_or (se_cmp op_notIn_seq ops_notIn (c.var 1 rfl (by decide +kernel)) (se_op op_addA ops_add (se_tup (sa_cons se_str (sa_cons se_str sa_nil))) (c.con C.c_GOES (by decide +kernel))) rfl) (se_one (c.call F.f_is_number (Nat.le_succ _) (by decide +kernel) (sa_cons (se_ix (c.var 0 rfl (by decide +kernel)) se_int (fun _ _ => rfl)) (sa_cons (c.con C.c_MOST_NAME (by decide +kernel)) sa_nil)))))))))))
def s_parts_of_0 (T T1 : Tab) : SF :=
    (setS 1 (binE idxD (vE 0) (cE (.int 0))))
def s_parts_of_1 (T T1 : Tab) : SF :=
    (ifS (tstE (binE inD (vE 1) (tupE (argsE [(cE (.str "num")), (cE (.str "name"))])))) (retS (tupE (argsE []))) nilS)
def s_parts_of_2 (T T1 : Tab) : SF :=
    (ifS (tstE (binE eqD (vE 1) (cE (.str "call")))) (retS (binE idxD (vE 0) (cE (.int 2)))) nilS)
def s_parts_of_3 (T T1 : Tab) : SF :=
    (retS (ifE (tstE (binE inD (vE 1) (binE addD (tupE (argsE [(cE (.str "let"))])) (cE c_GOES)))) (slE (vE 0) (yesO (cE (.int 2))) noO) (slE (vE 0) (yesO (cE (.int 1))) noO)))
def n_parts_of : List Str := ["tree", "word"]
def st_parts_of : Stmt := top 20
def b_parts_of (T T1 : Tab) : SF :=
    (seqS (s_parts_of_0 T T1) (seqS (s_parts_of_1 T T1) (seqS (s_parts_of_2 T T1) (s_parts_of_3 T T1))))
theorem d_parts_of {g : G} {l : Nat} {T T1 : Tab} (C : Cs g) (V : Vs g) (F : Fx g (l + 2) T) (F1 : Fx g l T1) {cd : Value} {X : Cx} {W : WX} (c : DefC g (l + 3) n_parts_of (defScope st_parts_of) "parts_of" cd X W) : SSs g.N W X (defBody st_parts_of) (b_parts_of T T1) := by
  have nd : (n_parts_of).Nodup := by decide +kernel
  exact (ss_cons (c.set nd 1 rfl (c.wr (by decide +kernel)) (g.off 1) (se_ix (c.var 0 rfl (by decide +kernel)) se_int (fun _ _ => rfl)))
    (ss_cons (s_if (sb_cmp op_in_seq ops_in (c.var 1 rfl (by decide +kernel)) (se_tup (sa_cons se_str (sa_cons se_str sa_nil))) rfl) (ss_one (s_ret (se_tup sa_nil))) ss_nil)
    (ss_cons (s_if (sb_cmp (op_eqA c.un) ops_eq (c.var 1 rfl (by decide +kernel)) se_str (nomark _)) (ss_one (s_ret (se_ix (c.var 0 rfl (by decide +kernel)) se_int (fun _ _ => rfl)))) ss_nil)
    (ss_one (s_ret (se_if (sb_cmp op_in_seq ops_in (c.var 1 rfl (by decide +kernel)) (se_op op_addA ops_add (se_tup (sa_cons se_str sa_nil)) (c.con C.c_GOES (by decide +kernel))) rfl) (se_slice (c.var 0 rfl (by decide +kernel)) (so_some se_int) so_none) (se_slice (c.var 0 rfl (by decide +kernel)) (so_some se_int) so_none)))))))
def s_size_of_0 (T T1 : Tab) : SF :=
    (retS (binE addD (cE (.int 1)) (callE sumD (argsE [(lcE (srcV (callE (appF (T 3)) (argsE [(vE 0)]))) (tgN 1) yesB (callE (appF (T 4)) (argsE [(vE 1)])) [1])]))))
def n_size_of : List Str := ["tree", "part"]
def st_size_of : Stmt := top 21
def b_size_of (T T1 : Tab) : SF :=
    (s_size_of_0 T T1)
theorem d_size_of {g : G} {l : Nat} {T T1 : Tab} (C : Cs g) (V : Vs g) (F : Fx g (l + 2) T) (F1 : Fx g l T1) {cd : Value} {X : Cx} {W : WX} (c : DefC g (l + 3) n_size_of (defScope st_size_of) "size_of" cd X W) : SSs g.N W X (defBody st_size_of) (b_size_of T T1) := by
  have nd : (n_size_of).Nodup := by decide +kernel
  exact (ss_one (s_ret (se_op op_addA ops_add se_int (c.blt C.b_sum (cr_sum c.calm) cs_sum (by decide +kernel) rfl (sa_cons (c.lc [("part", 1)] nd (by decide +kernel) (fun v hv => g.off v) (si_val (c.call F.f_parts_of (Nat.le_succ _) (by decide +kernel) (sa_cons (c.var 0 rfl (by decide +kernel)) sa_nil))) (tgw_name (g.off 1) (by decide)) (fun σ1 Y1 b1 => have c1 := c.toCtx.blk b1; (c1.pgn nd 1 rfl (b1.wr (by decide +kernel)))) (fun σ1 Y1 b1 => have c1 := c.toCtx.blk b1; pts_nilM) (fun σ1 Y1 b1 => have c1 := c.toCtx.blk b1; (c1.call F.f_size_of (Nat.le_succ _) (by decide +kernel) (sa_cons (c1.var 1 rfl (by decide +kernel)) sa_nil)))) sa_nil)))))
def s_Looker_init_0 (T T1 : Tab) : SF :=
    (setA 4 (vE 1) (vE 0))
def s_Looker_init_1 (T T1 : Tab) : SF :=
    (setA 5 (vE 2) (vE 0))
def s_Looker_init_2 (T T1 : Tab) : SF :=
    (setA 1 (cE (.int 0)) (vE 0))
def s_Looker_init_3 (T T1 : Tab) : SF :=
    (setA 6 (cE (.int 0)) (vE 0))
def n_Looker_init : List Str := ["self", "program", "number"]
def st_Looker_init : Stmt := mtd 22 0
def b_Looker_init (T T1 : Tab) : SF :=
    (seqS (s_Looker_init_0 T T1) (seqS (s_Looker_init_1 T T1) (seqS (s_Looker_init_2 T T1) (s_Looker_init_3 T T1))))
theorem d_Looker_init {g : G} {l : Nat} {T T1 : Tab} (C : Cs g) (V : Vs g) (F : Fx g (l + 2) T) (F1 : Fx g l T1) {cd : Value} {X : Cx} {W : WX} (c : DefC g (l + 3) n_Looker_init (defScope st_Looker_init) "Looker.__init__" cd X W) : SSs g.N W X (defBody st_Looker_init) (b_Looker_init T T1) := by
  have nd : (n_Looker_init).Nodup := by decide +kernel
  exact (ss_cons (s_att C.nd C.an_4 (c.var 1 rfl (by decide +kernel)) (c.var 0 rfl (by decide +kernel)))
    (ss_cons (s_att C.nd C.an_5 (c.var 2 rfl (by decide +kernel)) (c.var 0 rfl (by decide +kernel)))
    (ss_cons (s_att C.nd C.an_1 se_int (c.var 0 rfl (by decide +kernel)))
    (ss_one (s_att C.nd C.an_6 se_int (c.var 0 rfl (by decide +kernel)))))))
def s_Looker_refuse_0 (T T1 : Tab) : SF :=
    (raiseS 1 [0, 1, 2] (argsE [(attE 5 (vE 0)), (vE 1), (vE 2)]))
def n_Looker_refuse : List Str := ["self", "place", "word"]
def st_Looker_refuse : Stmt := mtd 22 1
def b_Looker_refuse (T T1 : Tab) : SF :=
    (s_Looker_refuse_0 T T1)
theorem d_Looker_refuse {g : G} {l : Nat} {T T1 : Tab} (C : Cs g) (V : Vs g) (F : Fx g (l + 2) T) (F1 : Fx g l T1) {cd : Value} {X : Cx} {W : WX} (c : DefC g (l + 3) n_Looker_refuse (defScope st_Looker_refuse) "Looker.refuse" cd X W) : SSs g.N W X (defBody st_Looker_refuse) (b_Looker_refuse T T1) := by
  have nd : (n_Looker_refuse).Nodup := by decide +kernel
  exact (ss_one (c.raise V.x_BadProgram (by omega) (by decide +kernel) (sa_cons (se_att C.nd C.an_5 (c.var 0 rfl (by decide +kernel)) rfl) (sa_cons (c.var 1 rfl (by decide +kernel)) (sa_cons (c.var 2 rfl (by decide +kernel)) sa_nil)))))
def s_Looker_depth_0 (T T1 : Tab) : SF :=
    (setS 4 (attE 1 (vE 0)))
def s_Looker_depth_1 (T T1 : Tab) : SF :=
    (setA 1 (binE addD (attE 1 (vE 0)) (cE (.int 1))) (vE 0))
def s_Looker_depth_2 (T T1 : Tab) : SF :=
    (ifS (orB (tstE (binE geD (vE 4) (cE c_MOST_PLACES))) (tstE (binE gtD (vE 3) (cE c_MOST_WITHIN)))) (exprS (methE 3 (T 6) (vE 0) (argsE [(vE 4), (cE (.str "size"))]))) nilS)
def s_Looker_depth_3 (T T1 : Tab) : SF :=
    (ifS (notB (tstE (callE (appF (T 2)) (argsE [(vE 1)])))) (exprS (methE 3 (T 6) (vE 0) (argsE [(vE 4), (cE (.str "form"))]))) nilS)
def s_Looker_depth_4 (T T1 : Tab) : SF :=
    (setS 5 (binE idxD (vE 1) (cE (.int 0))))
def s_Looker_depth_5 (T T1 : Tab) : SF :=
    (ifS (tstE (binE eqD (vE 5) (cE (.str "num")))) (retS (cE (.int 0))) nilS)
def s_Looker_depth_6 (T T1 : Tab) : SF :=
    (ifS (tstE (binE eqD (vE 5) (cE (.str "name")))) (seqS (ifS (tstE (binE dnotinD (binE idxD (vE 1) (cE (.int 1))) (vE 2))) (exprS (methE 3 (T 6) (vE 0) (argsE [(vE 4), (cE (.str "name"))]))) nilS)
    (retS (binE dgetD (vE 2) (binE idxD (vE 1) (cE (.int 1)))))) nilS)
def s_Looker_depth_7 (T T1 : Tab) : SF :=
    (ifS (tstE (binE eqD (vE 5) (cE (.str "call")))) (retS (methE 3 (T 9) (vE 0) (argsE [(vE 4), (vE 1), (vE 2), (vE 3)]))) nilS)
def s_Looker_depth_8 (T T1 : Tab) : SF :=
    (setS 6 (methE 3 (T 8) (vE 0) (argsE [(vE 1), (vE 2), (vE 3)])))
def s_Looker_depth_9 (T T1 : Tab) : SF :=
    (setS 7 (callE (appF (T 10)) (argsE [(vE 5), (vE 6)])))
def s_Looker_depth_10 (T T1 : Tab) : SF :=
    (ifS (orB (tstE (binE isND (vE 7) (cE .non))) (tstE (binE gtD (vE 7) (cE c_MOST_DEPTH)))) (exprS (methE 3 (T 6) (vE 0) (argsE [(vE 4), (cE (.str "depth"))]))) nilS)
def s_Looker_depth_11 (T T1 : Tab) : SF :=
    (retS (vE 7))
def n_Looker_depth : List Str := ["self", "tree", "known", "within", "here", "word", "found", "told"]
def st_Looker_depth : Stmt := mtd 22 2
def b_Looker_depth (T T1 : Tab) : SF :=
    (seqS (s_Looker_depth_0 T T1) (seqS (s_Looker_depth_1 T T1) (seqS (s_Looker_depth_2 T T1) (seqS (s_Looker_depth_3 T T1) (seqS (s_Looker_depth_4 T T1) (seqS (s_Looker_depth_5 T T1) (seqS (s_Looker_depth_6 T T1) (seqS (s_Looker_depth_7 T T1) (seqS (s_Looker_depth_8 T T1) (seqS (s_Looker_depth_9 T T1) (seqS (s_Looker_depth_10 T T1) (s_Looker_depth_11 T T1))))))))))))
theorem d_Looker_depth {g : G} {l : Nat} {T T1 : Tab} (C : Cs g) (V : Vs g) (F : Fx g (l + 2) T) (F1 : Fx g l T1) {cd : Value} {X : Cx} {W : WX} (c : DefC g (l + 3) n_Looker_depth (defScope st_Looker_depth) "Looker.depth" cd X W) : SSs g.N W X (defBody st_Looker_depth) (b_Looker_depth T T1) := by
  have nd : (n_Looker_depth).Nodup := by decide +kernel
  exact (ss_cons (c.set nd 4 rfl (c.wr (by decide +kernel)) (g.off 4) (se_att C.nd C.an_1 (c.var 0 rfl (by decide +kernel)) rfl))
    (ss_cons (s_att C.nd C.an_1 (se_op op_addA ops_add (se_att C.nd C.an_1 (c.var 0 rfl (by decide +kernel)) rfl) se_int) (c.var 0 rfl (by decide +kernel)))
    (ss_cons (s_if (sb_w (sw_or (sb_cmp op_ge ops_ge (c.var 4 rfl (by decide +kernel)) (c.con C.c_MOST_PLACES (by decide +kernel)) (nomark _)) (sw_or1 (sb_cmp op_gt ops_gt (c.var 3 rfl (by decide +kernel)) (c.con C.c_MOST_WITHIN (by decide +kernel)) (nomark _))))) (ss_one (s_expr (c.meth F.m_Looker_refuse (Nat.le_succ _) (c.var 0 rfl (by decide +kernel)) (sa_cons (c.var 4 rfl (by decide +kernel)) (sa_cons se_str sa_nil))))) ss_nil)
    (ss_cons (s_if (sb_not (sb_val (c.call F.f_is_form (Nat.le_succ _) (by decide +kernel) (sa_cons (c.var 1 rfl (by decide +kernel)) sa_nil)))) (ss_one (s_expr (c.meth F.m_Looker_refuse (Nat.le_succ _) (c.var 0 rfl (by decide +kernel)) (sa_cons (c.var 4 rfl (by decide +kernel)) (sa_cons se_str sa_nil))))) ss_nil)
    (ss_cons (c.set nd 5 rfl (c.wr (by decide +kernel)) (g.off 5) (se_ix (c.var 1 rfl (by decide +kernel)) se_int (fun _ _ => rfl)))
    (ss_cons (s_if (sb_cmp (op_eqA c.un) ops_eq (c.var 5 rfl (by decide +kernel)) se_str (nomark _)) (ss_one (s_ret se_int)) ss_nil)
    (ss_cons (s_if (sb_cmp (op_eqA c.un) ops_eq (c.var 5 rfl (by decide +kernel)) se_str (nomark _)) (ss_cons (s_if (sb_pc (pc_dnotin' (un1 c.un) (se_ix (c.var 1 rfl (by decide +kernel)) se_int (fun _ _ => rfl)) (c.var 2 rfl (by decide +kernel))) rfl) (ss_one (s_expr (c.meth F.m_Looker_refuse (Nat.le_succ _) (c.var 0 rfl (by decide +kernel)) (sa_cons (c.var 4 rfl (by decide +kernel)) (sa_cons se_str sa_nil))))) ss_nil)
    (ss_one (s_ret (se_dget (un1 c.un) (c.var 2 rfl (by decide +kernel)) (se_ix (c.var 1 rfl (by decide +kernel)) se_int (fun _ _ => rfl)) (fun _ _ => rfl))))) ss_nil)
    (ss_cons (s_if (sb_cmp (op_eqA c.un) ops_eq (c.var 5 rfl (by decide +kernel)) se_str (nomark _)) (ss_one (s_ret (c.meth F.m_Looker_called (Nat.le_succ _) (c.var 0 rfl (by decide +kernel)) (sa_cons (c.var 4 rfl (by decide +kernel)) (sa_cons (c.var 1 rfl (by decide +kernel)) (sa_cons (c.var 2 rfl (by decide +kernel)) (sa_cons (c.var 3 rfl (by decide +kernel)) sa_nil))))))) ss_nil)
    (ss_cons (c.set nd 6 rfl (c.wr (by decide +kernel)) (g.off 6) (c.meth F.m_Looker_inner_depths (Nat.le_succ _) (c.var 0 rfl (by decide +kernel)) (sa_cons (c.var 1 rfl (by decide +kernel)) (sa_cons (c.var 2 rfl (by decide +kernel)) (sa_cons (c.var 3 rfl (by decide +kernel)) sa_nil)))))
    (ss_cons (c.set nd 7 rfl (c.wr (by decide +kernel)) (g.off 7) (c.call F.f_depth_of (Nat.le_succ _) (by decide +kernel) (sa_cons (c.var 5 rfl (by decide +kernel)) (sa_cons (c.var 6 rfl (by decide +kernel)) sa_nil))))
    (ss_cons (s_if (sb_w (sw_or (sb_cmp op_isN ops_isN (c.var 7 rfl (by decide +kernel)) se_non (nomark _)) (sw_or1 (sb_cmp op_gt ops_gt (c.var 7 rfl (by decide +kernel)) (c.con C.c_MOST_DEPTH (by decide +kernel)) (nomark _))))) (ss_one (s_expr (c.meth F.m_Looker_refuse (Nat.le_succ _) (c.var 0 rfl (by decide +kernel)) (sa_cons (c.var 4 rfl (by decide +kernel)) (sa_cons se_str sa_nil))))) ss_nil)
    (ss_one (s_ret (c.var 7 rfl (by decide +kernel)))))))))))))))
def s_Looker_inner_depths_0 (T T1 : Tab) : SF :=
    (setS 4 (callE (appF (T 3)) (argsE [(vE 1)])))
def s_Looker_inner_depths_1 (T T1 : Tab) : SF :=
    (setS 5 (lstE (argsE [])))
def s_Looker_inner_depths_2_0 (T T1 : Tab) : SF :=
    (setS 7 (vE 2))
def s_Looker_inner_depths_2_1 (T T1 : Tab) : SF :=
    (ifS (andB (tstE (binE inD (binE idxD (vE 1) (cE (.int 0))) (binE addD (tupE (argsE [(cE (.str "let"))])) (cE c_GOES)))) (tstE (binE eqD (vE 6) (cE (.int 1))))) (seqS (setS 7 (callE dictD (argsE [(vE 2)])))
    (seqS (setD (binE subD (binE idxD (vE 5) (cE (.int 0))) (callE intD (argsE [(binE neD (binE idxD (vE 1) (cE (.int 0))) (cE (.str "let")))]))) (vE 7) (binE idxD (vE 1) (cE (.int 1))))
    (ifS (tstE (binE ltD (binE dgetD (vE 7) (binE idxD (vE 1) (cE (.int 1)))) (cE (.int 0)))) (exprS (methE 3 (T 6) (vE 0) (argsE [(binE subD (binE subD (attE 1 (vE 0)) (callE (appF (T 4)) (argsE [(binE idxD (vE 4) (cE (.int 0)))]))) (cE (.int 1))), (cE (.str "depth"))]))) nilS))) nilS)
def s_Looker_inner_depths_2_2 (T T1 : Tab) : SF :=
    (exprS (appE (vE 5) (argsE [(methE 3 (T 7) (vE 0) (argsE [(binE idxD (vE 4) (vE 6)), (vE 7), (binE addD (vE 3) (cE (.int 1)))]))])))
def s_Looker_inner_depths_2 (T T1 : Tab) : SF :=
    (forR rng1 (argsE [(callE lenD (argsE [(vE 4)]))]) (tgN 6) (seqS (s_Looker_inner_depths_2_0 T T1) (seqS (s_Looker_inner_depths_2_1 T T1) (s_Looker_inner_depths_2_2 T T1))))
def s_Looker_inner_depths_3 (T T1 : Tab) : SF :=
    (retS (vE 5))
def n_Looker_inner_depths : List Str := ["self", "tree", "known", "within", "parts", "found", "k", "inner"]
def st_Looker_inner_depths : Stmt := mtd 22 3
def b_Looker_inner_depths (T T1 : Tab) : SF :=
    (seqS (s_Looker_inner_depths_0 T T1) (seqS (s_Looker_inner_depths_1 T T1) (seqS (s_Looker_inner_depths_2 T T1) (s_Looker_inner_depths_3 T T1))))
theorem d_Looker_inner_depths {g : G} {l : Nat} {T T1 : Tab} (C : Cs g) (V : Vs g) (F : Fx g (l + 2) T) (F1 : Fx g l T1) {cd : Value} {X : Cx} {W : WX} (c : DefC g (l + 3) n_Looker_inner_depths (defScope st_Looker_inner_depths) "Looker.inner_depths" cd X W) : SSs g.N W X (defBody st_Looker_inner_depths) (b_Looker_inner_depths T T1) := by
  have nd : (n_Looker_inner_depths).Nodup := by decide +kernel
  exact (ss_cons (c.set nd 4 rfl (c.wr (by decide +kernel)) (g.off 4) (c.call F.f_parts_of (Nat.le_succ _) (by decide +kernel) (sa_cons (c.var 1 rfl (by decide +kernel)) sa_nil)))
    (ss_cons (c.set nd 5 rfl (c.wr (by decide +kernel)) (g.off 5) (se_lst sa_nil))
    (ss_cons (c.forR1 C.b_range (by decide +kernel) (sa_cons (c.blt C.b_len call_lenA cs_len (by decide +kernel) rfl (sa_cons (c.var 4 rfl (by decide +kernel)) sa_nil)) sa_nil) (c.tgn nd 6 rfl (c.wr (by decide +kernel)) (g.off 6)) (ss_cons (c.set nd 7 rfl (c.wr (by decide +kernel)) (g.off 7) (c.var 2 rfl (by decide +kernel)))
    (ss_cons (s_if (sb_w (sw_and (sb_cmp op_in_seq ops_in (se_ix (c.var 1 rfl (by decide +kernel)) se_int (fun _ _ => rfl)) (se_op op_addA ops_add (se_tup (sa_cons se_str sa_nil)) (c.con C.c_GOES (by decide +kernel))) rfl) (sw_and1 (sb_cmp (op_eqA c.un) ops_eq (c.var 6 rfl (by decide +kernel)) se_int (nomark _))))) (ss_cons (c.set nd 7 rfl (c.wr (by decide +kernel)) (g.off 7) (c.blty C.b_dict (call_dictA c.calm) cs_dict (by decide +kernel) rfl (sa_cons (c.var 2 rfl (by decide +kernel)) sa_nil)))
    (ss_cons (s_dput (un1 c.un) (se_op op_sub ops_sub (se_ix (c.var 5 rfl (by decide +kernel)) se_int (fun _ _ => rfl)) (c.blty C.b_int call_intA cs_int (by decide +kernel) rfl (sa_cons (se_cmp (op_neA c.un) ops_ne (se_ix (c.var 1 rfl (by decide +kernel)) se_int (fun _ _ => rfl)) se_str (nomark _)) sa_nil))) (c.var 7 rfl (by decide +kernel)) (se_ix (c.var 1 rfl (by decide +kernel)) se_int (fun _ _ => rfl)))
    (ss_one (s_if (sb_cmp op_lt ops_lt (se_dget (un1 c.un) (c.var 7 rfl (by decide +kernel)) (se_ix (c.var 1 rfl (by decide +kernel)) se_int (fun _ _ => rfl)) (fun _ _ => rfl)) se_int (nomark _)) (ss_one (s_expr (c.meth F.m_Looker_refuse (Nat.le_succ _) (c.var 0 rfl (by decide +kernel)) (sa_cons (se_op op_sub ops_sub (se_op op_sub ops_sub (se_att C.nd C.an_1 (c.var 0 rfl (by decide +kernel)) rfl) (c.call F.f_size_of (Nat.le_succ _) (by decide +kernel) (sa_cons (se_ix (c.var 4 rfl (by decide +kernel)) se_int (fun _ _ => rfl)) sa_nil))) se_int) (sa_cons se_str sa_nil))))) ss_nil)))) ss_nil)
    (ss_one (s_expr (se_append (c.var 5 rfl (by decide +kernel)) (sa_cons (c.meth F.m_Looker_depth (Nat.le_succ _) (c.var 0 rfl (by decide +kernel)) (sa_cons (se_ix (c.var 4 rfl (by decide +kernel)) (c.var 6 rfl (by decide +kernel)) (fun _ _ => rfl)) (sa_cons (c.var 7 rfl (by decide +kernel)) (sa_cons (se_op op_addA ops_add (c.var 3 rfl (by decide +kernel)) se_int) sa_nil)))) sa_nil)))))))
    (ss_one (s_ret (c.var 5 rfl (by decide +kernel)))))))
def s_Looker_called_0 (T T1 : Tab) : SF :=
    (setS 5 (binE idxD (vE 2) (cE (.int 1))))
def s_Looker_called_1 (T T1 : Tab) : SF :=
    (ifS (orB (tstE (binE gtD (vE 5) (attE 5 (vE 0)))) (andB (tstE (binE eqD (vE 5) (attE 5 (vE 0)))) (tstE (binE gtD (attE 6 (vE 0)) (cE (.int 0)))))) (exprS (methE 3 (T 6) (vE 0) (argsE [(vE 1), (cE (.str "call"))]))) nilS)
def s_Looker_called_2 (T T1 : Tab) : SF :=
    (setA 6 (binE addD (attE 6 (vE 0)) (callE intD (argsE [(binE eqD (vE 5) (attE 5 (vE 0)))]))) (vE 0))
def s_Looker_called_3 (T T1 : Tab) : SF :=
    (unpS (tgT [6, 7]) (slE (binE idxD (attE 4 (vE 0)) (vE 5)) noO (yesO (cE (.int 2)))))
def s_Looker_called_4 (T T1 : Tab) : SF :=
    (ifS (tstE (binE neD (callE lenD (argsE [(vE 6)])) (callE lenD (argsE [(binE idxD (vE 2) (cE (.int 2)))])))) (exprS (methE 3 (T 6) (vE 0) (argsE [(vE 1), (cE (.str "call"))]))) nilS)
def s_Looker_called_5 (T T1 : Tab) : SF :=
    (setS 8 (lcE (srcV (binE idxD (vE 2) (cE (.int 2)))) (tgN 9) yesB (methE 3 (T 7) (vE 0) (argsE [(vE 9), (vE 3), (binE addD (vE 4) (cE (.int 1)))])) [9]))
def s_Looker_called_6 (T T1 : Tab) : SF :=
    (ifS (tstE (binE neD (vE 8) (lcE (srcV (vE 6)) (tgT [10, 11]) yesB (vE 11) [10, 11]))) (exprS (methE 3 (T 6) (vE 0) (argsE [(vE 1), (cE (.str "depth"))]))) nilS)
def s_Looker_called_7 (T T1 : Tab) : SF :=
    (retS (vE 7))
def n_Looker_called : List Str := ["self", "here", "tree", "known", "within", "which", "params", "told", "found", "part", "name", "depth"]
def st_Looker_called : Stmt := mtd 22 4
def b_Looker_called (T T1 : Tab) : SF :=
    (seqS (s_Looker_called_0 T T1) (seqS (s_Looker_called_1 T T1) (seqS (s_Looker_called_2 T T1) (seqS (s_Looker_called_3 T T1) (seqS (s_Looker_called_4 T T1) (seqS (s_Looker_called_5 T T1) (seqS (s_Looker_called_6 T T1) (s_Looker_called_7 T T1))))))))
theorem d_Looker_called {g : G} {l : Nat} {T T1 : Tab} (C : Cs g) (V : Vs g) (F : Fx g (l + 2) T) (F1 : Fx g l T1) {cd : Value} {X : Cx} {W : WX} (c : DefC g (l + 3) n_Looker_called (defScope st_Looker_called) "Looker.called" cd X W) : SSs g.N W X (defBody st_Looker_called) (b_Looker_called T T1) := by
  have nd : (n_Looker_called).Nodup := by decide +kernel
  exact (ss_cons (c.set nd 5 rfl (c.wr (by decide +kernel)) (g.off 5) (se_ix (c.var 2 rfl (by decide +kernel)) se_int (fun _ _ => rfl)))
    (ss_cons (s_if (sb_w (sw_or (sb_cmp op_gt ops_gt (c.var 5 rfl (by decide +kernel)) (se_att C.nd C.an_5 (c.var 0 rfl (by decide +kernel)) rfl) (nomark _)) (sw_or1 (sb_w (sw_and (sb_cmp (op_eqA c.un) ops_eq (c.var 5 rfl (by decide +kernel)) (se_att C.nd C.an_5 (c.var 0 rfl (by decide +kernel)) rfl) (nomark _)) (sw_and1 (sb_cmp op_gt ops_gt (se_att C.nd C.an_6 (c.var 0 rfl (by decide +kernel)) rfl) se_int (nomark _)))))))) (ss_one (s_expr (c.meth F.m_Looker_refuse (Nat.le_succ _) (c.var 0 rfl (by decide +kernel)) (sa_cons (c.var 1 rfl (by decide +kernel)) (sa_cons se_str sa_nil))))) ss_nil)
    (ss_cons (s_att C.nd C.an_6 (se_op op_addA ops_add (se_att C.nd C.an_6 (c.var 0 rfl (by decide +kernel)) rfl) (c.blty C.b_int call_intA cs_int (by decide +kernel) rfl (sa_cons (se_cmp (op_eqA c.un) ops_eq (c.var 5 rfl (by decide +kernel)) (se_att C.nd C.an_5 (c.var 0 rfl (by decide +kernel)) rfl) (nomark _)) sa_nil))) (c.var 0 rfl (by decide +kernel)))
    (ss_cons (c.unp (tg_tup (is := [6, 7]) (fun v hv => g.off v) (pg_tup c.calm (pgs_cons (c.pgn nd 6 rfl (c.wr (by decide +kernel))) (pgs_cons (c.pgn nd 7 rfl (c.wr (by decide +kernel))) pgs_nil)))) (se_slice (se_ix (se_att C.nd C.an_4 (c.var 0 rfl (by decide +kernel)) rfl) (c.var 5 rfl (by decide +kernel)) (fun _ _ => rfl)) so_none (so_some se_int)) (fun env h => by cases env; cases h; rfl))
    (ss_cons (s_if (sb_cmp (op_neA c.un) ops_ne (c.blt C.b_len call_lenA cs_len (by decide +kernel) rfl (sa_cons (c.var 6 rfl (by decide +kernel)) sa_nil)) (c.blt C.b_len call_lenA cs_len (by decide +kernel) rfl (sa_cons (se_ix (c.var 2 rfl (by decide +kernel)) se_int (fun _ _ => rfl)) sa_nil)) (nomark _)) (ss_one (s_expr (c.meth F.m_Looker_refuse (Nat.le_succ _) (c.var 0 rfl (by decide +kernel)) (sa_cons (c.var 1 rfl (by decide +kernel)) (sa_cons se_str sa_nil))))) ss_nil)
    (ss_cons (c.setLc 8 [("part", 9)] nd rfl (by decide +kernel) rfl rfl (by decide +kernel) (by decide +kernel) (g.off 8) (fun v hv => g.off v) (si_val (se_ix (c.var 2 rfl (by decide +kernel)) se_int (fun _ _ => rfl))) (tgw_name (g.off 9) (by decide)) (fun σ1 Y1 b1 => have c1 := c.toCtx.blk b1; (c1.pgn nd 9 rfl (b1.wr (by decide +kernel)))) (fun σ1 Y1 b1 => have c1 := c.toCtx.blk b1; pts_nilM) (fun σ1 Y1 b1 => have c1 := c.toCtx.blk b1; (c1.meth F.m_Looker_depth (Nat.le_succ _) (c1.var 0 rfl (by decide +kernel)) (sa_cons (c1.var 9 rfl (by decide +kernel)) (sa_cons (c1.var 3 rfl (by decide +kernel)) (sa_cons (se_op op_addA ops_add (c1.var 4 rfl (by decide +kernel)) se_int) sa_nil))))))
    (ss_cons (s_if (sb_cmp (op_neA c.un) ops_ne (c.var 8 rfl (by decide +kernel)) (c.lc [("name", 10), ("depth", 11)] nd (by decide +kernel) (fun v hv => g.off v) (si_val (c.var 6 rfl (by decide +kernel))) (tgw_tup (fun v hv => g.off v) (by decide)) (fun σ1 Y1 b1 => have c1 := c.toCtx.blk b1; (b1.pgt (pg_tup c1.calm (pgs_cons (c1.pgn nd 10 rfl (b1.wr (by decide +kernel))) (pgs_cons (c1.pgn nd 11 rfl (b1.wr (by decide +kernel))) pgs_nil))))) (fun σ1 Y1 b1 => have c1 := c.toCtx.blk b1; pts_nilM) (fun σ1 Y1 b1 => have c1 := c.toCtx.blk b1; (c1.var 11 rfl (by decide +kernel)))) (nomark _)) (ss_one (s_expr (c.meth F.m_Looker_refuse (Nat.le_succ _) (c.var 0 rfl (by decide +kernel)) (sa_cons (c.var 1 rfl (by decide +kernel)) (sa_cons se_str sa_nil))))) ss_nil)
    (ss_one (s_ret (c.var 7 rfl (by decide +kernel)))))))))))
def s_depth_of_0 (T T1 : Tab) : SF :=
    (parS 2 3 (argsE [(binE idxD (vE 1) (cE (.int 0))), (binE idxD (vE 1) (negE (cE (.int 1))))]))
def s_depth_of_1 (T T1 : Tab) : SF :=
    (ifS (tstE (binE eqD (vE 0) (cE (.str "if")))) (retS (ifE (andB (tstE (binE eqD (vE 2) (cE (.int 0)))) (tstE (binE eqD (binE idxD (vE 1) (cE (.int 1))) (vE 3)))) (vE 3) (cE .non))) nilS)
def s_depth_of_2 (T T1 : Tab) : SF :=
    (ifS (tstE (binE eqD (vE 0) (cE (.str "let")))) (retS (vE 3)) nilS)
def s_depth_of_3 (T T1 : Tab) : SF :=
    (ifS (tstE (binE eqD (vE 0) (cE (.str "each")))) (retS (binE addD (vE 3) (cE (.int 1)))) nilS)
def s_depth_of_4 (T T1 : Tab) : SF :=
    (ifS (tstE (binE eqD (vE 0) (cE (.str "where")))) (retS (ifE (tstE (binE eqD (vE 3) (cE (.int 0)))) (vE 2) (cE .non))) nilS)
def s_depth_of_5 (T T1 : Tab) : SF :=
    (ifS (orB (tstE (binE inD (vE 0) (cE c_SUMS))) (tstE (binE eqD (vE 0) (cE (.str "upto"))))) (retS (ifE (tstE (chE eqD eqD (vE 2) (vE 3) (cE (.int 0)))) (callE intD (argsE [(binE eqD (vE 0) (cE (.str "upto")))])) (cE .non))) nilS)
def s_depth_of_6 (T T1 : Tab) : SF :=
    (ifS (tstE (binE eqD (vE 0) (cE (.str "one")))) (retS (binE addD (vE 2) (cE (.int 1)))) nilS)
def s_depth_of_7 (T T1 : Tab) : SF :=
    (ifS (tstE (binE eqD (vE 0) (cE (.str "len")))) (retS (ifE (tstE (binE gtD (vE 2) (cE (.int 0)))) (cE (.int 0)) (cE .non))) nilS)
def s_depth_of_8 (T T1 : Tab) : SF :=
    (ifS (tstE (binE inD (vE 0) (tupE (argsE [(cE (.str "sum")), (cE (.str "sums"))])))) (retS (ifE (tstE (binE eqD (vE 2) (cE (.int 1)))) (callE intD (argsE [(binE eqD (vE 0) (cE (.str "sums")))])) (cE .non))) nilS)
def s_depth_of_9 (T T1 : Tab) : SF :=
    (ifS (tstE (binE eqD (vE 0) (cE (.str "flat")))) (retS (ifE (tstE (binE gtD (vE 2) (cE (.int 1)))) (binE subD (vE 2) (cE (.int 1))) (cE .non))) nilS)
def s_depth_of_10 (T T1 : Tab) : SF :=
    (ifS (tstE (binE eqD (vE 0) (cE (.str "pick")))) (retS (ifE (andB (tstE (binE gtD (vE 2) (cE (.int 0)))) (tstE (binE eqD (vE 3) (cE (.int 0))))) (binE subD (vE 2) (cE (.int 1))) (cE .non))) nilS)
def s_depth_of_11 (T T1 : Tab) : SF :=
    (retS (ifE (andB (tstE (binE eqD (vE 2) (vE 3))) (tstE (binE gtD (vE 2) (cE (.int 0))))) (vE 2) (cE .non)))
def n_depth_of : List Str := ["word", "found", "first", "last"]
def st_depth_of : Stmt := top 23
def b_depth_of (T T1 : Tab) : SF :=
    (seqS (s_depth_of_0 T T1) (seqS (s_depth_of_1 T T1) (seqS (s_depth_of_2 T T1) (seqS (s_depth_of_3 T T1) (seqS (s_depth_of_4 T T1) (seqS (s_depth_of_5 T T1) (seqS (s_depth_of_6 T T1) (seqS (s_depth_of_7 T T1) (seqS (s_depth_of_8 T T1) (seqS (s_depth_of_9 T T1) (seqS (s_depth_of_10 T T1) (s_depth_of_11 T T1))))))))))))
theorem d_depth_of {g : G} {l : Nat} {T T1 : Tab} (C : Cs g) (V : Vs g) (F : Fx g (l + 2) T) (F1 : Fx g l T1) {cd : Value} {X : Cx} {W : WX} (c : DefC g (l + 3) n_depth_of (defScope st_depth_of) "depth_of" cd X W) : SSs g.N W X (defBody st_depth_of) (b_depth_of T T1) := by
  have nd : (n_depth_of).Nodup := by decide +kernel
  exact (ss_cons (c.par nd rfl rfl (by decide) (by decide +kernel) (by decide +kernel) (g.off 2) (g.off 3) (sa_cons (se_ix (c.var 1 rfl (by decide +kernel)) se_int (fun _ _ => rfl)) (sa_cons (se_ix (c.var 1 rfl (by decide +kernel)) (se_neg se_int) (fun _ _ => rfl)) sa_nil)) (fun env h => by cases env; cases h; rfl))
    (ss_cons (s_if (sb_cmp (op_eqA c.un) ops_eq (c.var 0 rfl (by decide +kernel)) se_str (nomark _)) (ss_one (s_ret (se_if (sb_w (sw_and (sb_cmp (op_eqA c.un) ops_eq (c.var 2 rfl (by decide +kernel)) se_int (nomark _)) (sw_and1 (sb_cmp (op_eqA c.un) ops_eq (se_ix (c.var 1 rfl (by decide +kernel)) se_int (fun _ _ => rfl)) (c.var 3 rfl (by decide +kernel)) (nomark _))))) (c.var 3 rfl (by decide +kernel)) se_non))) ss_nil)
    (ss_cons (s_if (sb_cmp (op_eqA c.un) ops_eq (c.var 0 rfl (by decide +kernel)) se_str (nomark _)) (ss_one (s_ret (c.var 3 rfl (by decide +kernel)))) ss_nil)
    (ss_cons (s_if (sb_cmp (op_eqA c.un) ops_eq (c.var 0 rfl (by decide +kernel)) se_str (nomark _)) (ss_one (s_ret (se_op op_addA ops_add (c.var 3 rfl (by decide +kernel)) se_int))) ss_nil)
    (ss_cons (s_if (sb_cmp (op_eqA c.un) ops_eq (c.var 0 rfl (by decide +kernel)) se_str (nomark _)) (ss_one (s_ret (se_if (sb_cmp (op_eqA c.un) ops_eq (c.var 3 rfl (by decide +kernel)) se_int (nomark _)) (c.var 2 rfl (by decide +kernel)) se_non))) ss_nil)
    (ss_cons (s_if (sb_w (sw_or (sb_cmp op_in_seq ops_in (c.var 0 rfl (by decide +kernel)) (c.con C.c_SUMS (by decide +kernel)) rfl) (sw_or1 (sb_cmp (op_eqA c.un) ops_eq (c.var 0 rfl (by decide +kernel)) se_str (nomark _))))) (ss_one (s_ret (se_if (sb_chain (op_eqA c.un) (op_eqA c.un) ops_eq ops_eq (c.var 2 rfl (by decide +kernel)) (c.var 3 rfl (by decide +kernel)) se_int) (c.blty C.b_int call_intA cs_int (by decide +kernel) rfl (sa_cons (se_cmp (op_eqA c.un) ops_eq (c.var 0 rfl (by decide +kernel)) se_str (nomark _)) sa_nil)) se_non))) ss_nil)
    (ss_cons (s_if (sb_cmp (op_eqA c.un) ops_eq (c.var 0 rfl (by decide +kernel)) se_str (nomark _)) (ss_one (s_ret (se_op op_addA ops_add (c.var 2 rfl (by decide +kernel)) se_int))) ss_nil)
    (ss_cons (s_if (sb_cmp (op_eqA c.un) ops_eq (c.var 0 rfl (by decide +kernel)) se_str (nomark _)) (ss_one (s_ret (se_if (sb_cmp op_gt ops_gt (c.var 2 rfl (by decide +kernel)) se_int (nomark _)) se_int se_non))) ss_nil)
    (ss_cons (s_if (sb_cmp op_in_seq ops_in (c.var 0 rfl (by decide +kernel)) (se_tup (sa_cons se_str (sa_cons se_str sa_nil))) rfl) (ss_one (s_ret (se_if (sb_cmp (op_eqA c.un) ops_eq (c.var 2 rfl (by decide +kernel)) se_int (nomark _)) (c.blty C.b_int call_intA cs_int (by decide +kernel) rfl (sa_cons (se_cmp (op_eqA c.un) ops_eq (c.var 0 rfl (by decide +kernel)) se_str (nomark _)) sa_nil)) se_non))) ss_nil)
    (ss_cons (s_if (sb_cmp (op_eqA c.un) ops_eq (c.var 0 rfl (by decide +kernel)) se_str (nomark _)) (ss_one (s_ret (se_if (sb_cmp op_gt ops_gt (c.var 2 rfl (by decide +kernel)) se_int (nomark _)) (se_op op_sub ops_sub (c.var 2 rfl (by decide +kernel)) se_int) se_non))) ss_nil)
    (ss_cons (s_if (sb_cmp (op_eqA c.un) ops_eq (c.var 0 rfl (by decide +kernel)) se_str (nomark _)) (ss_one (s_ret (se_if (sb_w (sw_and (sb_cmp op_gt ops_gt (c.var 2 rfl (by decide +kernel)) se_int (nomark _)) (sw_and1 (sb_cmp (op_eqA c.un) ops_eq (c.var 3 rfl (by decide +kernel)) se_int (nomark _))))) (se_op op_sub ops_sub (c.var 2 rfl (by decide +kernel)) se_int) se_non))) ss_nil)
    (ss_one (s_ret (se_if (sb_w (sw_and (sb_cmp (op_eqA c.un) ops_eq (c.var 2 rfl (by decide +kernel)) (c.var 3 rfl (by decide +kernel)) (nomark _)) (sw_and1 (sb_cmp op_gt ops_gt (c.var 2 rfl (by decide +kernel)) se_int (nomark _))))) (c.var 2 rfl (by decide +kernel)) se_non))))))))))))))
def s_is_face_0 (T T1 : Tab) : SF :=
    (unpS (tgT [1, 2]) (slE (vE 0) noO (yesO (cE (.int 2)))))
def s_is_face_1 (T T1 : Tab) : SF :=
    (ifS (orB (tstE (binE gtD (callE lenD (argsE [(vE 1)])) (cE c_MOST_PARAMS))) (notB (tstE (callE (appF (T 0)) (argsE [(vE 2), (cE c_MOST_DEPTH)]))))) (retS (cE (.bl false))) nilS)
def s_is_face_2_0 (T T1 : Tab) : SF :=
    (ifS (orB (tstE (binE neD (callE lenD (argsE [(vE 3)])) (cE (.int 2)))) (orB (notB (tstE (callE (appF (T 0)) (argsE [(binE idxD (vE 3) (cE (.int 0))), (cE c_MOST_NAME)])))) (notB (tstE (callE (appF (T 0)) (argsE [(binE idxD (vE 3) (cE (.int 1))), (cE c_MOST_DEPTH)])))))) (retS (cE (.bl false))) nilS)
def s_is_face_2 (T T1 : Tab) : SF :=
    (forS (vE 1) (tgN 3) (s_is_face_2_0 T T1))
def s_is_face_3 (T T1 : Tab) : SF :=
    (retS (binE eqD (lenSetE (lcE (srcV (vE 1)) (tgT [4, 5]) yesB (vE 4) [4, 5])) (callE lenD (argsE [(vE 1)]))))
def n_is_face : List Str := ["function", "params", "told", "param", "name", "depth"]
def st_is_face : Stmt := top 24
def b_is_face (T T1 : Tab) : SF :=
    (seqS (s_is_face_0 T T1) (seqS (s_is_face_1 T T1) (seqS (s_is_face_2 T T1) (s_is_face_3 T T1))))
theorem d_is_face {g : G} {l : Nat} {T T1 : Tab} (C : Cs g) (V : Vs g) (F : Fx g (l + 2) T) (F1 : Fx g l T1) {cd : Value} {X : Cx} {W : WX} (c : DefC g (l + 3) n_is_face (defScope st_is_face) "is_face" cd X W) : SSs g.N W X (defBody st_is_face) (b_is_face T T1) := by
  have nd : (n_is_face).Nodup := by decide +kernel
  exact (ss_cons (c.unp (tg_tup (is := [1, 2]) (fun v hv => g.off v) (pg_tup c.calm (pgs_cons (c.pgn nd 1 rfl (c.wr (by decide +kernel))) (pgs_cons (c.pgn nd 2 rfl (c.wr (by decide +kernel))) pgs_nil)))) (se_slice (c.var 0 rfl (by decide +kernel)) so_none (so_some se_int)) (fun env h => by cases env; cases h; rfl))
    (ss_cons (s_if (sb_w (sw_or (sb_cmp op_gt ops_gt (c.blt C.b_len call_lenA cs_len (by decide +kernel) rfl (sa_cons (c.var 1 rfl (by decide +kernel)) sa_nil)) (c.con C.c_MOST_PARAMS (by decide +kernel)) (nomark _)) (sw_or1 (sb_not (sb_val (c.call F.f_is_number (Nat.le_succ _) (by decide +kernel) (sa_cons (c.var 2 rfl (by decide +kernel)) (sa_cons (c.con C.c_MOST_DEPTH (by decide +kernel)) sa_nil)))))))) (ss_one (s_ret se_bl)) ss_nil)
    (ss_cons (c.for_ (c.var 1 rfl (by decide +kernel)) (c.tgn nd 3 rfl (c.wr (by decide +kernel)) (g.off 3)) (ss_one (s_if (sb_w (sw_or (sb_cmp (op_neA c.un) ops_ne (c.blt C.b_len call_lenA cs_len (by decide +kernel) rfl (sa_cons (c.var 3 rfl (by decide +kernel)) sa_nil)) se_int (nomark _)) (sw_or (sb_not (sb_val (c.call F.f_is_number (Nat.le_succ _) (by decide +kernel) (sa_cons (se_ix (c.var 3 rfl (by decide +kernel)) se_int (fun _ _ => rfl)) (sa_cons (c.con C.c_MOST_NAME (by decide +kernel)) sa_nil))))) (sw_or1 (sb_not (sb_val (c.call F.f_is_number (Nat.le_succ _) (by decide +kernel) (sa_cons (se_ix (c.var 3 rfl (by decide +kernel)) se_int (fun _ _ => rfl)) (sa_cons (c.con C.c_MOST_DEPTH (by decide +kernel)) sa_nil))))))))) (ss_one (s_ret se_bl)) ss_nil)))
    (ss_one (s_ret (se_cmp (op_eqA c.un) ops_eq (c.lenSet C.b_len C.b_set (by decide +kernel) (by decide +kernel) (c.lc [("name", 4), ("depth", 5)] nd (by decide +kernel) (fun v hv => g.off v) (si_val (c.var 1 rfl (by decide +kernel))) (tgw_tup (fun v hv => g.off v) (by decide)) (fun σ1 Y1 b1 => have c1 := c.toCtx.blk b1; (b1.pgt (pg_tup c1.calm (pgs_cons (c1.pgn nd 4 rfl (b1.wr (by decide +kernel))) (pgs_cons (c1.pgn nd 5 rfl (b1.wr (by decide +kernel))) pgs_nil))))) (fun σ1 Y1 b1 => have c1 := c.toCtx.blk b1; pts_nilM) (fun σ1 Y1 b1 => have c1 := c.toCtx.blk b1; (c1.var 4 rfl (by decide +kernel))))) (c.blt C.b_len call_lenA cs_len (by decide +kernel) rfl (sa_cons (c.var 1 rfl (by decide +kernel)) sa_nil)) (nomark _)))))))
def s_need_program_0 (T T1 : Tab) : SF :=
    (ifS (tstE (binE eqD (callE lenD (argsE [(vE 0)])) (cE (.int 0)))) (raiseS 1 [0, 1, 2] (argsE [(cE (.int 0)), (negE (cE (.int 1))), (cE (.str "many"))])) nilS)
def s_need_program_1_0 (T T1 : Tab) : SF :=
    (ifS (tstE (binE geD (vE 1) (cE c_MOST_FUNCTIONS))) (raiseS 1 [0, 1, 2] (argsE [(vE 1), (negE (cE (.int 1))), (cE (.str "many"))])) nilS)
def s_need_program_1_1 (T T1 : Tab) : SF :=
    (ifS (notB (tstE (callE (appF (T 11)) (argsE [(binE idxD (vE 0) (vE 1))])))) (raiseS 1 [0, 1, 2] (argsE [(vE 1), (negE (cE (.int 1))), (cE (.str "face"))])) nilS)
def s_need_program_1 (T T1 : Tab) : SF :=
    (forR rng1 (argsE [(callE lenD (argsE [(vE 0)]))]) (tgN 1) (seqS (s_need_program_1_0 T T1) (s_need_program_1_1 T T1)))
def s_need_program_2_0 (T T1 : Tab) : SF :=
    (unpS (tgT [2, 3, 4]) (binE idxD (vE 0) (vE 1)))
def s_need_program_2_1 (T T1 : Tab) : SF :=
    (ifS (tstE (binE neD (methE 3 (T 7) (mkE 3 (T 5) (argsE [(vE 0), (vE 1)])) (argsE [(vE 4), (callE dictD (argsE [(vE 2)])), (cE (.int 0))])) (vE 3))) (raiseS 1 [0, 1, 2] (argsE [(vE 1), (cE (.int 0)), (cE (.str "depth"))])) nilS)
def s_need_program_2 (T T1 : Tab) : SF :=
    (forR rng1 (argsE [(callE lenD (argsE [(vE 0)]))]) (tgN 1) (seqS (s_need_program_2_0 T T1) (s_need_program_2_1 T T1)))
def n_need_program : List Str := ["program", "number", "params", "told", "body"]
def st_need_program : Stmt := top 25
def b_need_program (T T1 : Tab) : SF :=
    (seqS (s_need_program_0 T T1) (seqS (s_need_program_1 T T1) (s_need_program_2 T T1)))
theorem d_need_program {g : G} {l : Nat} {T T1 : Tab} (C : Cs g) (V : Vs g) (F : Fx g (l + 2) T) (F1 : Fx g l T1) {cd : Value} {X : Cx} {W : WX} (c : DefC g (l + 3) n_need_program (defScope st_need_program) "need_program" cd X W) : SSs g.N W X (defBody st_need_program) (b_need_program T T1) := by
  have nd : (n_need_program).Nodup := by decide +kernel
  exact (ss_cons (s_if (sb_cmp (op_eqA c.un) ops_eq (c.blt C.b_len call_lenA cs_len (by decide +kernel) rfl (sa_cons (c.var 0 rfl (by decide +kernel)) sa_nil)) se_int (nomark _)) (ss_one (c.raise V.x_BadProgram (by omega) (by decide +kernel) (sa_cons se_int (sa_cons (se_neg se_int) (sa_cons se_str sa_nil))))) ss_nil)
    (ss_cons (c.forR1 C.b_range (by decide +kernel) (sa_cons (c.blt C.b_len call_lenA cs_len (by decide +kernel) rfl (sa_cons (c.var 0 rfl (by decide +kernel)) sa_nil)) sa_nil) (c.tgn nd 1 rfl (c.wr (by decide +kernel)) (g.off 1)) (ss_cons (s_if (sb_cmp op_ge ops_ge (c.var 1 rfl (by decide +kernel)) (c.con C.c_MOST_FUNCTIONS (by decide +kernel)) (nomark _)) (ss_one (c.raise V.x_BadProgram (by omega) (by decide +kernel) (sa_cons (c.var 1 rfl (by decide +kernel)) (sa_cons (se_neg se_int) (sa_cons se_str sa_nil))))) ss_nil)
    (ss_one (s_if (sb_not (sb_val (c.call F.f_is_face (Nat.le_succ _) (by decide +kernel) (sa_cons (se_ix (c.var 0 rfl (by decide +kernel)) (c.var 1 rfl (by decide +kernel)) (fun _ _ => rfl)) sa_nil)))) (ss_one (c.raise V.x_BadProgram (by omega) (by decide +kernel) (sa_cons (c.var 1 rfl (by decide +kernel)) (sa_cons (se_neg se_int) (sa_cons se_str sa_nil))))) ss_nil))))
    (ss_one (c.forR1 C.b_range (by decide +kernel) (sa_cons (c.blt C.b_len call_lenA cs_len (by decide +kernel) rfl (sa_cons (c.var 0 rfl (by decide +kernel)) sa_nil)) sa_nil) (c.tgn nd 1 rfl (c.wr (by decide +kernel)) (g.off 1)) (ss_cons (c.unp (tg_tup (is := [2, 3, 4]) (fun v hv => g.off v) (pg_tup c.calm (pgs_cons (c.pgn nd 2 rfl (c.wr (by decide +kernel))) (pgs_cons (c.pgn nd 3 rfl (c.wr (by decide +kernel))) (pgs_cons (c.pgn nd 4 rfl (c.wr (by decide +kernel))) pgs_nil))))) (se_ix (c.var 0 rfl (by decide +kernel)) (c.var 1 rfl (by decide +kernel)) (fun _ _ => rfl)) (fun env h => by cases env; cases h; rfl))
    (ss_one (s_if (sb_cmp (op_neA c.un) ops_ne (c.meth F.m_Looker_depth (Nat.le_succ _) (c.mk_ F.k_Looker (Nat.le_refl _) (by decide +kernel) (sa_cons (c.var 0 rfl (by decide +kernel)) (sa_cons (c.var 1 rfl (by decide +kernel)) sa_nil))) (sa_cons (c.var 4 rfl (by decide +kernel)) (sa_cons (c.blty C.b_dict (call_dictA c.calm) cs_dict (by decide +kernel) rfl (sa_cons (c.var 2 rfl (by decide +kernel)) sa_nil)) (sa_cons se_int sa_nil)))) (c.var 3 rfl (by decide +kernel)) (nomark _)) (ss_one (c.raise V.x_BadProgram (by omega) (by decide +kernel) (sa_cons (c.var 1 rfl (by decide +kernel)) (sa_cons se_int (sa_cons se_str sa_nil))))) ss_nil)))))))
def s_faces_0 (T T1 : Tab) : SF :=
    (exprS (callE (appF (T 12)) (argsE [(vE 0)])))
def s_faces_1 (T T1 : Tab) : SF :=
    (retS (lcE (srcV (vE 0)) (tgT [1, 2, 3]) yesB (tupE (argsE [(callE tupleD (argsE [(lcN (srcV (vE 1)) (tgT [4, 5]) yesB (vE 5) [4, 5])])), (vE 2)])) [1, 2, 3]))
def n_faces : List Str := ["program", "params", "told", "body", "name", "depth"]
def st_faces : Stmt := top 26
def b_faces (T T1 : Tab) : SF :=
    (seqS (s_faces_0 T T1) (s_faces_1 T T1))
theorem d_faces {g : G} {l : Nat} {T T1 : Tab} (C : Cs g) (V : Vs g) (F : Fx g (l + 2) T) (F1 : Fx g l T1) {cd : Value} {X : Cx} {W : WX} (c : DefC g (l + 3) n_faces (defScope st_faces) "faces" cd X W) : SSs g.N W X (defBody st_faces) (b_faces T T1) := by
  have nd : (n_faces).Nodup := by decide +kernel
  exact (ss_cons (s_expr (c.call F.f_need_program (Nat.le_succ _) (by decide +kernel) (sa_cons (c.var 0 rfl (by decide +kernel)) sa_nil)))
    (ss_one (s_ret (c.lc [("params", 1), ("told", 2), ("body", 3)] nd (by decide +kernel) (fun v hv => g.off v) (si_val (c.var 0 rfl (by decide +kernel))) (tgw_tup (fun v hv => g.off v) (by decide)) (fun σ1 Y1 b1 => have c1 := c.toCtx.blk b1; (b1.pgt (pg_tup c1.calm (pgs_cons (c1.pgn nd 1 rfl (b1.wr (by decide +kernel))) (pgs_cons (c1.pgn nd 2 rfl (b1.wr (by decide +kernel))) (pgs_cons (c1.pgn nd 3 rfl (b1.wr (by decide +kernel))) pgs_nil)))))) (fun σ1 Y1 b1 => have c1 := c.toCtx.blk b1; pts_nilM) (fun σ1 Y1 b1 => have c1 := c.toCtx.blk b1; (se_tup (sa_cons (c1.blty C.b_tuple call_tupleF cs_tuple (by decide +kernel) rfl (sa_cons (c1.lcn [("name", 4), ("depth", 5)] nd (by decide +kernel) (fun v hv => g.off v) (si_val (c1.var 1 rfl (by decide +kernel))) (tgw_tup (fun v hv => g.off v) (by decide)) (fun Y2 b2 => have c2 := c1.blkN b2; (b2.pgt (pg_tup c2.calm (pgs_cons (c2.pgn nd 4 rfl (b2.wr (by decide +kernel))) (pgs_cons (c2.pgn nd 5 rfl (b2.wr (by decide +kernel))) pgs_nil))))) (fun Y2 b2 => have c2 := c1.blkN b2; pts_nilM) (fun Y2 b2 => have c2 := c1.blkN b2; (c2.var 5 rfl (by decide +kernel)))) sa_nil)) (sa_cons (c1.var 2 rfl (by decide +kernel)) sa_nil))))))))
def s_Reader_init_0 (T T1 : Tab) : SF :=
    (setA 3 (vE 1) (vE 0))
def s_Reader_init_1 (T T1 : Tab) : SF :=
    (setA 7 (splitE (vE 2) (cE (.str " "))) (vE 0))
def s_Reader_init_2 (T T1 : Tab) : SF :=
    (setA 1 (cE (.int 0)) (vE 0))
def n_Reader_init : List Str := ["self", "row", "text"]
def st_Reader_init : Stmt := mtd 32 0
def b_Reader_init (T T1 : Tab) : SF :=
    (seqS (s_Reader_init_0 T T1) (seqS (s_Reader_init_1 T T1) (s_Reader_init_2 T T1)))
theorem d_Reader_init {g : G} {l : Nat} {T T1 : Tab} (C : Cs g) (V : Vs g) (F : Fx g (l + 2) T) (F1 : Fx g l T1) {cd : Value} {X : Cx} {W : WX} (c : DefC g (l + 3) n_Reader_init (defScope st_Reader_init) "Reader.__init__" cd X W) : SSs g.N W X (defBody st_Reader_init) (b_Reader_init T T1) := by
  have nd : (n_Reader_init).Nodup := by decide +kernel
  exact (ss_cons (s_att C.nd C.an_3 (c.var 1 rfl (by decide +kernel)) (c.var 0 rfl (by decide +kernel)))
    (ss_cons (s_att C.nd C.an_7 (se_split (c.var 2 rfl (by decide +kernel)) se_str) (c.var 0 rfl (by decide +kernel)))
    (ss_one (s_att C.nd C.an_1 se_int (c.var 0 rfl (by decide +kernel))))))
def s_Reader_fail_0 (T T1 : Tab) : SF :=
    (raiseS 2 [3, 1] (argsE [(attE 3 (vE 0)), (attE 1 (vE 0))]))
def n_Reader_fail : List Str := ["self"]
def st_Reader_fail : Stmt := mtd 32 1
def b_Reader_fail (T T1 : Tab) : SF :=
    (s_Reader_fail_0 T T1)
theorem d_Reader_fail {g : G} {l : Nat} {T T1 : Tab} (C : Cs g) (V : Vs g) (F : Fx g (l + 2) T) (F1 : Fx g l T1) {cd : Value} {X : Cx} {W : WX} (c : DefC g (l + 3) n_Reader_fail (defScope st_Reader_fail) "Reader.fail" cd X W) : SSs g.N W X (defBody st_Reader_fail) (b_Reader_fail T T1) := by
  have nd : (n_Reader_fail).Nodup := by decide +kernel
  exact (ss_one (c.raise V.x_BadText (by omega) (by decide +kernel) (sa_cons (se_att C.nd C.an_3 (c.var 0 rfl (by decide +kernel)) rfl) (sa_cons (se_att C.nd C.an_1 (c.var 0 rfl (by decide +kernel)) rfl) sa_nil))))
def s_Reader_seen_0 (T T1 : Tab) : SF :=
    (ifS (tstE (binE geD (attE 1 (vE 0)) (callE lenD (argsE [(attE 7 (vE 0))])))) (exprS (methE 4 (T 15) (vE 0) nilA)) nilS)
def s_Reader_seen_1 (T T1 : Tab) : SF :=
    (retS (binE idxD (attE 7 (vE 0)) (attE 1 (vE 0))))
def n_Reader_seen : List Str := ["self"]
def st_Reader_seen : Stmt := mtd 32 2
def b_Reader_seen (T T1 : Tab) : SF :=
    (seqS (s_Reader_seen_0 T T1) (s_Reader_seen_1 T T1))
theorem d_Reader_seen {g : G} {l : Nat} {T T1 : Tab} (C : Cs g) (V : Vs g) (F : Fx g (l + 2) T) (F1 : Fx g l T1) {cd : Value} {X : Cx} {W : WX} (c : DefC g (l + 3) n_Reader_seen (defScope st_Reader_seen) "Reader.seen" cd X W) : SSs g.N W X (defBody st_Reader_seen) (b_Reader_seen T T1) := by
  have nd : (n_Reader_seen).Nodup := by decide +kernel
  exact (ss_cons (s_if (sb_cmp op_ge ops_ge (se_att C.nd C.an_1 (c.var 0 rfl (by decide +kernel)) rfl) (c.blt C.b_len call_lenA cs_len (by decide +kernel) rfl (sa_cons (se_att C.nd C.an_7 (c.var 0 rfl (by decide +kernel)) rfl) sa_nil)) (nomark _)) (ss_one (s_expr (c.meth0 F.m_Reader_fail (Nat.le_succ _) (c.var 0 rfl (by decide +kernel))))) ss_nil)
    (ss_one (s_ret (se_ix (se_att C.nd C.an_7 (c.var 0 rfl (by decide +kernel)) rfl) (se_att C.nd C.an_1 (c.var 0 rfl (by decide +kernel)) rfl) (fun _ _ => rfl)))))
def s_Reader_count_0 (T T1 : Tab) : SF :=
    (setS 1 (methE 4 (T 16) (vE 0) nilA))
def s_Reader_count_1 (T T1 : Tab) : SF :=
    (setS 2 (andV (chE leD leD (cE (.int 1)) (callE lenD (argsE [(vE 1)])) (cE c_MOST_FIGURES)) (binE eqD (lcE (srcV (vE 1)) (tgN 3) (tstE (binE notInS (vE 3) (cE c_FIGURES))) (vE 3) [3]) (lstE (argsE [])))))
def s_Reader_count_2 (T T1 : Tab) : SF :=
    (ifS (orB (notB (tstE (vE 2))) (andB (tstE (binE eqD (binE idxD (vE 1) (cE (.int 0))) (cE (.str "0")))) (tstE (binE neD (vE 1) (cE (.str "0")))))) (exprS (methE 4 (T 15) (vE 0) nilA)) nilS)
def s_Reader_count_3 (T T1 : Tab) : SF :=
    (setA 1 (binE addD (attE 1 (vE 0)) (cE (.int 1))) (vE 0))
def s_Reader_count_4 (T T1 : Tab) : SF :=
    (retS (callE intD (argsE [(vE 1)])))
def n_Reader_count : List Str := ["self", "word", "good", "sign"]
def st_Reader_count : Stmt := mtd 32 3
def b_Reader_count (T T1 : Tab) : SF :=
    (seqS (s_Reader_count_0 T T1) (seqS (s_Reader_count_1 T T1) (seqS (s_Reader_count_2 T T1) (seqS (s_Reader_count_3 T T1) (s_Reader_count_4 T T1)))))
theorem d_Reader_count {g : G} {l : Nat} {T T1 : Tab} (C : Cs g) (V : Vs g) (F : Fx g (l + 2) T) (F1 : Fx g l T1) {cd : Value} {X : Cx} {W : WX} (c : DefC g (l + 3) n_Reader_count (defScope st_Reader_count) "Reader.count" cd X W) : SSs g.N W X (defBody st_Reader_count) (b_Reader_count T T1) := by
  have nd : (n_Reader_count).Nodup := by decide +kernel
  exact (ss_cons (c.set nd 1 rfl (c.wr (by decide +kernel)) (g.off 1) (c.meth0 F.m_Reader_seen (Nat.le_succ _) (c.var 0 rfl (by decide +kernel))))
    (ss_cons (c.set nd 2 rfl (c.wr (by decide +kernel)) (g.off 2) (se_and (se_chain2 op_le op_le ops_le ops_le se_int (c.blt C.b_len call_lenA cs_len (by decide +kernel) rfl (sa_cons (c.var 1 rfl (by decide +kernel)) sa_nil)) (c.con C.c_MOST_FIGURES (by decide +kernel))) (se_one (se_cmp (op_eqA c.un) ops_eq (c.lc [("sign", 3)] nd (by decide +kernel) (fun v hv => g.off v) (si_val (c.var 1 rfl (by decide +kernel))) (tgw_name (g.off 3) (by decide)) (fun σ1 Y1 b1 => have c1 := c.toCtx.blk b1; (c1.pgn nd 3 rfl (b1.wr (by decide +kernel)))) (fun σ1 Y1 b1 => have c1 := c.toCtx.blk b1; (pts_one (sb_cmp op_notIn_sign ops_notInS (c1.var 3 rfl (by decide +kernel)) (c1.con C.c_FIGURES (by decide +kernel)) rfl))) (fun σ1 Y1 b1 => have c1 := c.toCtx.blk b1; (c1.var 3 rfl (by decide +kernel)))) (se_lst sa_nil) (nomark _)))))
    (ss_cons (s_if (sb_w (sw_or (sb_not (sb_val (c.var 2 rfl (by decide +kernel)))) (sw_or1 (sb_w (sw_and (sb_cmp (op_eqA c.un) ops_eq (se_ix (c.var 1 rfl (by decide +kernel)) se_int (fun _ _ => rfl)) se_str (nomark _)) (sw_and1 (sb_cmp (op_neA c.un) ops_ne (c.var 1 rfl (by decide +kernel)) se_str (nomark _)))))))) (ss_one (s_expr (c.meth0 F.m_Reader_fail (Nat.le_succ _) (c.var 0 rfl (by decide +kernel))))) ss_nil)
    (ss_cons (s_att C.nd C.an_1 (se_op op_addA ops_add (se_att C.nd C.an_1 (c.var 0 rfl (by decide +kernel)) rfl) se_int) (c.var 0 rfl (by decide +kernel)))
    (ss_one (s_ret (c.blty C.b_int call_intA cs_int (by decide +kernel) rfl (sa_cons (c.var 1 rfl (by decide +kernel)) sa_nil))))))))
def s_Reader_sign_0 (T T1 : Tab) : SF :=
    (ifS (tstE (binE neD (methE 4 (T 16) (vE 0) nilA) (vE 1))) (exprS (methE 4 (T 15) (vE 0) nilA)) nilS)
def s_Reader_sign_1 (T T1 : Tab) : SF :=
    (setA 1 (binE addD (attE 1 (vE 0)) (cE (.int 1))) (vE 0))
def n_Reader_sign : List Str := ["self", "sign"]
def st_Reader_sign : Stmt := mtd 32 4
def b_Reader_sign (T T1 : Tab) : SF :=
    (seqS (s_Reader_sign_0 T T1) (s_Reader_sign_1 T T1))
theorem d_Reader_sign {g : G} {l : Nat} {T T1 : Tab} (C : Cs g) (V : Vs g) (F : Fx g (l + 2) T) (F1 : Fx g l T1) {cd : Value} {X : Cx} {W : WX} (c : DefC g (l + 3) n_Reader_sign (defScope st_Reader_sign) "Reader.sign" cd X W) : SSs g.N W X (defBody st_Reader_sign) (b_Reader_sign T T1) := by
  have nd : (n_Reader_sign).Nodup := by decide +kernel
  exact (ss_cons (s_if (sb_cmp (op_neA c.un) ops_ne (c.meth0 F.m_Reader_seen (Nat.le_succ _) (c.var 0 rfl (by decide +kernel))) (c.var 1 rfl (by decide +kernel)) (nomark _)) (ss_one (s_expr (c.meth0 F.m_Reader_fail (Nat.le_succ _) (c.var 0 rfl (by decide +kernel))))) ss_nil)
    (ss_one (s_att C.nd C.an_1 (se_op op_addA ops_add (se_att C.nd C.an_1 (c.var 0 rfl (by decide +kernel)) rfl) se_int) (c.var 0 rfl (by decide +kernel)))))
def s_Reader_tree_0 (T T1 : Tab) : SF :=
    (exprS (methE 4 (T 18) (vE 0) (argsE [(cE c_OPEN)])))
def s_Reader_tree_1 (T T1 : Tab) : SF :=
    (setS 1 (methE 4 (T 16) (vE 0) nilA))
def s_Reader_tree_2 (T T1 : Tab) : SF :=
    (ifS (andB (tstE (knotinE t_COUNTS (vE 1))) (tstE (binE notInD (vE 1) (binE addD (binE addD (cE c_ONES) (cE c_TWOS)) (cE c_GOES))))) (exprS (methE 4 (T 15) (vE 0) nilA)) nilS)
def s_Reader_tree_3 (T T1 : Tab) : SF :=
    (setA 1 (binE addD (attE 1 (vE 0)) (cE (.int 1))) (vE 0))
def s_Reader_tree_4 (T T1 : Tab) : SF :=
    (setS 2 (tupE (argsE [(vE 1)])))
def s_Reader_tree_5 (T T1 : Tab) : SF :=
    (ifS (tstE (binE inD (vE 1) (binE addD (tupE (argsE [(cE (.str "num")), (cE (.str "name")), (cE (.str "let")), (cE (.str "call"))])) (cE c_GOES)))) (setS 2 (binE addD (vE 2) (tupE (argsE [(methE 4 (T 17) (vE 0) nilA)])))) nilS)
def s_Reader_tree_6 (T T1 : Tab) : SF :=
    (setS 3 (lstE (argsE [])))
def s_Reader_tree_7 (T T1 : Tab) : SF :=
    (whileS 400 (tstE (binE eqD (methE 4 (T 16) (vE 0) nilA) (cE c_OPEN))) (exprS (appE (vE 3) (argsE [(methE 4 (T 19) (vE 0) nilA)]))))
def s_Reader_tree_8 (T T1 : Tab) : SF :=
    (setS 2 (binE addD (vE 2) (ifE (tstE (binE eqD (vE 1) (cE (.str "call")))) (tupE (argsE [(callE tupleD (argsE [(vE 3)]))])) (callE tupleD (argsE [(vE 3)])))))
def s_Reader_tree_9 (T T1 : Tab) : SF :=
    (exprS (methE 4 (T 18) (vE 0) (argsE [(cE c_CLOSE)])))
def s_Reader_tree_10 (T T1 : Tab) : SF :=
    (retS (vE 2))
def n_Reader_tree : List Str := ["self", "word", "found", "parts"]
def st_Reader_tree : Stmt := mtd 32 5
def b_Reader_tree (T T1 : Tab) : SF :=
    (seqS (s_Reader_tree_0 T T1) (seqS (s_Reader_tree_1 T T1) (seqS (s_Reader_tree_2 T T1) (seqS (s_Reader_tree_3 T T1) (seqS (s_Reader_tree_4 T T1) (seqS (s_Reader_tree_5 T T1) (seqS (s_Reader_tree_6 T T1) (seqS (s_Reader_tree_7 T T1) (seqS (s_Reader_tree_8 T T1) (seqS (s_Reader_tree_9 T T1) (s_Reader_tree_10 T T1)))))))))))
theorem d_Reader_tree {g : G} {l : Nat} {T T1 : Tab} (C : Cs g) (V : Vs g) (F : Fx g (l + 2) T) (F1 : Fx g l T1) {cd : Value} {X : Cx} {W : WX} (c : DefC g (l + 3) n_Reader_tree (defScope st_Reader_tree) "Reader.tree" cd X W) : SSs g.N W X (defBody st_Reader_tree) (b_Reader_tree T T1) := by
  have nd : (n_Reader_tree).Nodup := by decide +kernel
  exact (ss_cons (s_expr (c.meth F.m_Reader_sign (Nat.le_succ _) (c.var 0 rfl (by decide +kernel)) (sa_cons (c.con C.c_OPEN (by decide +kernel)) sa_nil)))
    (ss_cons (c.set nd 1 rfl (c.wr (by decide +kernel)) (g.off 1) (c.meth0 F.m_Reader_seen (Nat.le_succ _) (c.var 0 rfl (by decide +kernel))))
    (ss_cons (s_if (sb_w (sw_and (sb_pc (c.knotin C.t_COUNTS (by decide +kernel) (c.var 1 rfl (by decide +kernel))) rfl) (sw_and1 (sb_cmp op_notIn_seq ops_notIn (c.var 1 rfl (by decide +kernel)) (se_op op_addA ops_add (se_op op_addA ops_add (c.con C.c_ONES (by decide +kernel)) (c.con C.c_TWOS (by decide +kernel))) (c.con C.c_GOES (by decide +kernel))) rfl)))) (ss_one (s_expr (c.meth0 F.m_Reader_fail (Nat.le_succ _) (c.var 0 rfl (by decide +kernel))))) ss_nil)
    (ss_cons (s_att C.nd C.an_1 (se_op op_addA ops_add (se_att C.nd C.an_1 (c.var 0 rfl (by decide +kernel)) rfl) se_int) (c.var 0 rfl (by decide +kernel)))
    (ss_cons (c.set nd 2 rfl (c.wr (by decide +kernel)) (g.off 2) (se_tup (sa_cons (c.var 1 rfl (by decide +kernel)) sa_nil)))
    (ss_cons (s_if (sb_cmp op_in_seq ops_in (c.var 1 rfl (by decide +kernel)) (se_op op_addA ops_add (se_tup (sa_cons se_str (sa_cons se_str (sa_cons se_str (sa_cons se_str sa_nil))))) (c.con C.c_GOES (by decide +kernel))) rfl) (ss_one (c.set nd 2 rfl (c.wr (by decide +kernel)) (g.off 2) (se_op op_addA ops_add (c.var 2 rfl (by decide +kernel)) (se_tup (sa_cons (c.meth0 F.m_Reader_count (Nat.le_succ _) (c.var 0 rfl (by decide +kernel))) sa_nil))))) ss_nil)
    (ss_cons (c.set nd 3 rfl (c.wr (by decide +kernel)) (g.off 3) (se_lst sa_nil))
    (ss_cons (c.while_ (sb_cmp (op_eqA c.un) ops_eq (c.meth0 F.m_Reader_seen (Nat.le_succ _) (c.var 0 rfl (by decide +kernel))) (c.con C.c_OPEN (by decide +kernel)) (nomark _)) (ss_one (s_expr (se_append (c.var 3 rfl (by decide +kernel)) (sa_cons (c.meth0 F.m_Reader_tree (Nat.le_succ _) (c.var 0 rfl (by decide +kernel))) sa_nil)))))
    (ss_cons (c.set nd 2 rfl (c.wr (by decide +kernel)) (g.off 2) (se_op op_addA ops_add (c.var 2 rfl (by decide +kernel)) (se_if (sb_cmp (op_eqA c.un) ops_eq (c.var 1 rfl (by decide +kernel)) se_str (nomark _)) (se_tup (sa_cons (c.blty C.b_tuple call_tupleF cs_tuple (by decide +kernel) rfl (sa_cons (c.var 3 rfl (by decide +kernel)) sa_nil)) sa_nil)) (c.blty C.b_tuple call_tupleF cs_tuple (by decide +kernel) rfl (sa_cons (c.var 3 rfl (by decide +kernel)) sa_nil)))))
    (ss_cons (s_expr (c.meth F.m_Reader_sign (Nat.le_succ _) (c.var 0 rfl (by decide +kernel)) (sa_cons (c.con C.c_CLOSE (by decide +kernel)) sa_nil)))
    (ss_one (s_ret (c.var 2 rfl (by decide +kernel))))))))))))))
def s_Reader_whole_0 (T T1 : Tab) : SF :=
    (setS 1 (methE 4 (T 17) (vE 0) nilA))
def s_Reader_whole_1 (T T1 : Tab) : SF :=
    (setS 2 (callE tupleD (argsE [(lcE (srcR rng1 (argsE [(methE 4 (T 17) (vE 0) nilA)])) (tgN 4) yesB (tupE (argsE [(methE 4 (T 17) (vE 0) nilA), (methE 4 (T 17) (vE 0) nilA)])) [4])])))
def s_Reader_whole_2 (T T1 : Tab) : SF :=
    (setS 3 (methE 4 (T 19) (vE 0) nilA))
def s_Reader_whole_3 (T T1 : Tab) : SF :=
    (ifS (tstE (binE ltD (attE 1 (vE 0)) (callE lenD (argsE [(attE 7 (vE 0))])))) (exprS (methE 4 (T 15) (vE 0) nilA)) nilS)
def s_Reader_whole_4 (T T1 : Tab) : SF :=
    (retS (tupE (argsE [(vE 2), (vE 1), (vE 3)])))
def n_Reader_whole : List Str := ["self", "told", "params", "body", "k"]
def st_Reader_whole : Stmt := mtd 32 6
def b_Reader_whole (T T1 : Tab) : SF :=
    (seqS (s_Reader_whole_0 T T1) (seqS (s_Reader_whole_1 T T1) (seqS (s_Reader_whole_2 T T1) (seqS (s_Reader_whole_3 T T1) (s_Reader_whole_4 T T1)))))
theorem d_Reader_whole {g : G} {l : Nat} {T T1 : Tab} (C : Cs g) (V : Vs g) (F : Fx g (l + 2) T) (F1 : Fx g l T1) {cd : Value} {X : Cx} {W : WX} (c : DefC g (l + 3) n_Reader_whole (defScope st_Reader_whole) "Reader.whole" cd X W) : SSs g.N W X (defBody st_Reader_whole) (b_Reader_whole T T1) := by
  have nd : (n_Reader_whole).Nodup := by decide +kernel
  exact (ss_cons (c.set nd 1 rfl (c.wr (by decide +kernel)) (g.off 1) (c.meth0 F.m_Reader_count (Nat.le_succ _) (c.var 0 rfl (by decide +kernel))))
    (ss_cons (c.set nd 2 rfl (c.wr (by decide +kernel)) (g.off 2) (c.blty C.b_tuple call_tupleF cs_tuple (by decide +kernel) rfl (sa_cons (c.lc [("k", 4)] nd (by decide +kernel) (fun v hv => g.off v) (c.siR1 C.b_range (by decide +kernel) (sa_cons (c.meth0 F.m_Reader_count (Nat.le_succ _) (c.var 0 rfl (by decide +kernel))) sa_nil)) (tgw_name (g.off 4) (by decide)) (fun σ1 Y1 b1 => have c1 := c.toCtx.blk b1; (c1.pgn nd 4 rfl (b1.wr (by decide +kernel)))) (fun σ1 Y1 b1 => have c1 := c.toCtx.blk b1; pts_nilM) (fun σ1 Y1 b1 => have c1 := c.toCtx.blk b1; (se_tup (sa_cons (c1.meth0 F.m_Reader_count (Nat.le_succ _) (c1.var 0 rfl (by decide +kernel))) (sa_cons (c1.meth0 F.m_Reader_count (Nat.le_succ _) (c1.var 0 rfl (by decide +kernel))) sa_nil))))) sa_nil)))
    (ss_cons (c.set nd 3 rfl (c.wr (by decide +kernel)) (g.off 3) (c.meth0 F.m_Reader_tree (Nat.le_succ _) (c.var 0 rfl (by decide +kernel))))
    (ss_cons (s_if (sb_cmp op_lt ops_lt (se_att C.nd C.an_1 (c.var 0 rfl (by decide +kernel)) rfl) (c.blt C.b_len call_lenA cs_len (by decide +kernel) rfl (sa_cons (se_att C.nd C.an_7 (c.var 0 rfl (by decide +kernel)) rfl) sa_nil)) (nomark _)) (ss_one (s_expr (c.meth0 F.m_Reader_fail (Nat.le_succ _) (c.var 0 rfl (by decide +kernel))))) ss_nil)
    (ss_one (s_ret (se_tup (sa_cons (c.var 2 rfl (by decide +kernel)) (sa_cons (c.var 1 rfl (by decide +kernel)) (sa_cons (c.var 3 rfl (by decide +kernel)) sa_nil))))))))))
def s_read_0 (T T1 : Tab) : SF :=
    (setS 1 (splitE (vE 0) (cE (.str "\n"))))
def s_read_1 (T T1 : Tab) : SF :=
    (setS 2 (callE tupleD (argsE [(lcE (srcR rng1 (argsE [(callE lenD (argsE [(vE 1)]))])) (tgN 3) yesB (methE 4 (T 20) (mkE 4 (T 14) (argsE [(vE 3), (binE idxD (vE 1) (vE 3))])) nilA) [3])])))
def s_read_2 (T T1 : Tab) : SF :=
    (exprS (callE (appF (T 12)) (argsE [(vE 2)])))
def s_read_3 (T T1 : Tab) : SF :=
    (retS (vE 2))
def n_read : List Str := ["text", "rows", "program", "row"]
def st_read : Stmt := top 33
def b_read (T T1 : Tab) : SF :=
    (seqS (s_read_0 T T1) (seqS (s_read_1 T T1) (seqS (s_read_2 T T1) (s_read_3 T T1))))
theorem d_read {g : G} {l : Nat} {T T1 : Tab} (C : Cs g) (V : Vs g) (F : Fx g (l + 2) T) (F1 : Fx g l T1) {cd : Value} {X : Cx} {W : WX} (c : DefC g (l + 3) n_read (defScope st_read) "read" cd X W) : SSs g.N W X (defBody st_read) (b_read T T1) := by
  have nd : (n_read).Nodup := by decide +kernel
  exact (ss_cons (c.set nd 1 rfl (c.wr (by decide +kernel)) (g.off 1) (se_split (c.var 0 rfl (by decide +kernel)) se_str))
    (ss_cons (c.set nd 2 rfl (c.wr (by decide +kernel)) (g.off 2) (c.blty C.b_tuple call_tupleF cs_tuple (by decide +kernel) rfl (sa_cons (c.lc [("row", 3)] nd (by decide +kernel) (fun v hv => g.off v) (c.siR1 C.b_range (by decide +kernel) (sa_cons (c.blt C.b_len call_lenA cs_len (by decide +kernel) rfl (sa_cons (c.var 1 rfl (by decide +kernel)) sa_nil)) sa_nil)) (tgw_name (g.off 3) (by decide)) (fun σ1 Y1 b1 => have c1 := c.toCtx.blk b1; (c1.pgn nd 3 rfl (b1.wr (by decide +kernel)))) (fun σ1 Y1 b1 => have c1 := c.toCtx.blk b1; pts_nilM) (fun σ1 Y1 b1 => have c1 := c.toCtx.blk b1; (c1.meth0 F.m_Reader_whole (Nat.le_succ _) (c1.mk_ F.k_Reader (Nat.le_refl _) (by decide +kernel) (sa_cons (c1.var 3 rfl (by decide +kernel)) (sa_cons (se_ix (c1.var 1 rfl (by decide +kernel)) (c1.var 3 rfl (by decide +kernel)) (fun _ _ => rfl)) sa_nil)))))) sa_nil)))
    (ss_cons (s_expr (c.call F.f_need_program (Nat.le_succ _) (by decide +kernel) (sa_cons (c.var 2 rfl (by decide +kernel)) sa_nil)))
    (ss_one (s_ret (c.var 2 rfl (by decide +kernel)))))))
def s_law_taken_0 (T T1 : Tab) : SF :=
    (ifS (tstE (binE gtD (binE idxD (vE 0) (cE (.int 3))) (cE (.int 0)))) (seqS (setS 2 (binE modD (binE idxD (vE 0) (cE (.int 3))) (vE 1)))
    (seqS (setL (binE fdivD (binE idxD (vE 0) (cE (.int 3))) (vE 1)) (vE 0) (cE (.int 3)))
    (retS (vE 2)))) nilS)
def s_law_taken_1 (T T1 : Tab) : SF :=
    (setL (binE addD (binE idxD (vE 0) (cE (.int 1))) (cE (.int 1))) (vE 0) (cE (.int 1)))
def s_law_taken_2 (T T1 : Tab) : SF :=
    (ifS (tstE (binE gtD (binE idxD (vE 0) (cE (.int 1))) (callE lenD (argsE [(binE idxD (vE 0) (cE (.int 0)))])))) (seqS (setL (binE modD (binE addD (binE mulD (binE idxD (vE 0) (cE (.int 2))) (cE (.int 48271))) (cE (.int 11))) (cE (.int 2147483647))) (vE 0) (cE (.int 2)))
    (retS (binE modD (binE fdivD (binE idxD (vE 0) (cE (.int 2))) (cE (.int 7))) (vE 1)))) nilS)
def s_law_taken_3 (T T1 : Tab) : SF :=
    (setS 3 (binE idxD (binE idxD (vE 0) (cE (.int 0))) (binE subD (binE idxD (vE 0) (cE (.int 1))) (cE (.int 1)))))
def s_law_taken_4 (T T1 : Tab) : SF :=
    (setL (binE modD (binE addD (binE addD (binE mulD (binE idxD (vE 0) (cE (.int 2))) (cE (.int 48271))) (vE 3)) (cE (.int 11))) (cE (.int 2147483647))) (vE 0) (cE (.int 2)))
def s_law_taken_5 (T T1 : Tab) : SF :=
    (setL (ifE (tstE (binE geD (vE 3) (binE powD (cE (.int 10)) (cE (.int 18))))) (binE fdivD (vE 3) (vE 1)) (cE (.int 0))) (vE 0) (cE (.int 3)))
def s_law_taken_6 (T T1 : Tab) : SF :=
    (retS (binE modD (vE 3) (vE 1)))
def n_law_taken : List Str := ["_law_row", "_law_many", "_law_found", "_law_cell"]
def st_law_taken : Stmt := top 35
def b_law_taken (T T1 : Tab) : SF :=
    (seqS (s_law_taken_0 T T1) (seqS (s_law_taken_1 T T1) (seqS (s_law_taken_2 T T1) (seqS (s_law_taken_3 T T1) (seqS (s_law_taken_4 T T1) (seqS (s_law_taken_5 T T1) (s_law_taken_6 T T1)))))))
theorem d_law_taken {g : G} {l : Nat} {T T1 : Tab} (C : Cs g) (V : Vs g) (F : Fx g (l + 2) T) (F1 : Fx g l T1) {cd : Value} {X : Cx} {W : WX} (c : DefC g (l + 3) n_law_taken (defScope st_law_taken) "_law_taken" cd X W) : SSs g.N W X (defBody st_law_taken) (b_law_taken T T1) := by
  have nd : (n_law_taken).Nodup := by decide +kernel
  exact (ss_cons (s_if (sb_cmp op_gt ops_gt (se_ix (c.var 0 rfl (by decide +kernel)) se_int (fun _ _ => rfl)) se_int (nomark _)) (ss_cons (c.set nd 2 rfl (c.wr (by decide +kernel)) (g.off 2) (se_op op_mod ops_mod (se_ix (c.var 0 rfl (by decide +kernel)) se_int (fun _ _ => rfl)) (c.var 1 rfl (by decide +kernel))))
    (ss_cons (s_lset (se_op op_fdiv ops_fdiv (se_ix (c.var 0 rfl (by decide +kernel)) se_int (fun _ _ => rfl)) (c.var 1 rfl (by decide +kernel))) (c.var 0 rfl (by decide +kernel)) se_int)
    (ss_one (s_ret (c.var 2 rfl (by decide +kernel)))))) ss_nil)
    (ss_cons (s_lset (se_op op_addA ops_add (se_ix (c.var 0 rfl (by decide +kernel)) se_int (fun _ _ => rfl)) se_int) (c.var 0 rfl (by decide +kernel)) se_int)
    (ss_cons (s_if (sb_cmp op_gt ops_gt (se_ix (c.var 0 rfl (by decide +kernel)) se_int (fun _ _ => rfl)) (c.blt C.b_len call_lenA cs_len (by decide +kernel) rfl (sa_cons (se_ix (c.var 0 rfl (by decide +kernel)) se_int (fun _ _ => rfl)) sa_nil)) (nomark _)) (ss_cons (s_lset (se_op op_mod ops_mod (se_op op_addA ops_add (se_op op_mulA ops_mul (se_ix (c.var 0 rfl (by decide +kernel)) se_int (fun _ _ => rfl)) se_int) se_int) se_int) (c.var 0 rfl (by decide +kernel)) se_int)
    (ss_one (s_ret (se_op op_mod ops_mod (se_op op_fdiv ops_fdiv (se_ix (c.var 0 rfl (by decide +kernel)) se_int (fun _ _ => rfl)) se_int) (c.var 1 rfl (by decide +kernel)))))) ss_nil)
    (ss_cons (c.set nd 3 rfl (c.wr (by decide +kernel)) (g.off 3) (se_ix (se_ix (c.var 0 rfl (by decide +kernel)) se_int (fun _ _ => rfl)) (se_op op_sub ops_sub (se_ix (c.var 0 rfl (by decide +kernel)) se_int (fun _ _ => rfl)) se_int) (fun _ _ => rfl)))
    (ss_cons (s_lset (se_op op_mod ops_mod (se_op op_addA ops_add (se_op op_addA ops_add (se_op op_mulA ops_mul (se_ix (c.var 0 rfl (by decide +kernel)) se_int (fun _ _ => rfl)) se_int) (c.var 3 rfl (by decide +kernel))) se_int) se_int) (c.var 0 rfl (by decide +kernel)) se_int)
    (ss_cons (s_lset (se_if (sb_cmp op_ge ops_ge (c.var 3 rfl (by decide +kernel)) (se_op op_pow ops_pow se_int se_int) (nomark _)) (se_op op_fdiv ops_fdiv (c.var 3 rfl (by decide +kernel)) (c.var 1 rfl (by decide +kernel))) se_int) (c.var 0 rfl (by decide +kernel)) se_int)
    (ss_one (s_ret (se_op op_mod ops_mod (c.var 3 rfl (by decide +kernel)) (c.var 1 rfl (by decide +kernel)))))))))))
def s_law_calls_0 (T T1 : Tab) : SF :=
    (setS 1 (binE addD (cE (.int 1)) (callE (appF (T 22)) (argsE [(vE 0), (cE (.int 4))]))))
def s_law_calls_1 (T T1 : Tab) : SF :=
    (setS 2 (tupE (argsE [(tupE (argsE [])), (cE (.int 0)), (tupE (argsE [(cE (.str "num")), (cE (.int 7))]))])))
def s_law_calls_2_0 (T T1 : Tab) : SF :=
    (setS 4 (tupE (argsE [(vE 1), (cE (.int 0)), (ifE (tstE (binE gtD (vE 3) (cE (.int 5)))) (cE (.str "form")) (cE (.str "call")))])))
def s_law_calls_2_1 (T T1 : Tab) : SF :=
    (setS 5 (tupE (argsE [(tupE (argsE [])), (cE (.int 0)), (tupE (argsE [(cE (.str "call")), (binE addD (vE 3) (binE mulD (vE 1) (callE intD (argsE [(binE ltD (vE 3) (cE (.int 6)))])))), (tupE (argsE []))]))])))
def s_law_calls_2_2 (T T1 : Tab) : SF :=
    (setS 4 (ifE (tstE (binE gtD (binE idxD (binE idxD (vE 5) (cE (.int 2))) (cE (.int 1))) (cE (.int 5)))) (tupE (argsE [(vE 1), (cE (.int 0)), (cE (.str "form"))])) (vE 4)))
def s_law_calls_2_3 (T T1 : Tab) : SF :=
    (ifS (tstE (binE neD (lamE w__law_kind (callE (appF (T1 13)) (argsE [(binE addD (binE mulD (tupE (argsE [(vE 2)])) (vE 1)) (tupE (argsE [(vE 5)])))]))) (vE 4))) (retS (cE (.bl false))) nilS)
def s_law_calls_2 (T T1 : Tab) : SF :=
    (forR rng2 (argsE [(cE (.int 3)), (cE (.int 9))]) (tgN 3) (seqS (s_law_calls_2_0 T T1) (seqS (s_law_calls_2_1 T T1) (seqS (s_law_calls_2_2 T T1) (s_law_calls_2_3 T T1)))))
def s_law_calls_3 (T T1 : Tab) : SF :=
    (setS 6 (binE addD (cE (.int 1)) (callE (appF (T 22)) (argsE [(vE 0), (cE (.int 4))]))))
def s_law_calls_4 (T T1 : Tab) : SF :=
    (setS 7 (binE addD (callE tupleD (argsE [(lcE (srcR rng1 (argsE [(binE subD (vE 6) (cE (.int 1)))])) (tgN 12) yesB (tupE (argsE [(vE 12), (cE (.int 0))])) [12])])) (tupE (argsE [(tupE (argsE [(vE 6), (cE (.int 1))]))]))))
def s_law_calls_5 (T T1 : Tab) : SF :=
    (unpS (tgT [8, 9]) (tupE (argsE [(tupE (argsE [(cE (.str "num")), (cE (.int 3))])), (binE mulD (tupE (argsE [(tupE (argsE [(cE (.str "num")), (cE (.int 1))]))])) (binE subD (vE 6) (cE (.int 1))))])))
def s_law_calls_6 (T T1 : Tab) : SF :=
    (setS 10 (tupE (argsE [(vE 7), (cE (.int 0)), (tupE (argsE [(cE (.str "len")), (tupE (argsE [(cE (.str "name")), (vE 6)]))]))])))
def s_law_calls_7 (T T1 : Tab) : SF :=
    (ifS (tstE (binE neD (lamE w__law_kind (callE (appF (T1 13)) (argsE [(tupE (argsE [(vE 10), (tupE (argsE [(tupE (argsE [])), (cE (.int 0)), (tupE (argsE [(cE (.str "call")), (cE (.int 0)), (binE addD (vE 9) (tupE (argsE [(vE 8)])))]))]))]))]))) (tupE (argsE [(cE (.int 1)), (cE (.int 0)), (cE (.str "depth"))])))) (retS (cE (.bl false))) nilS)
def s_law_calls_8 (T T1 : Tab) : SF :=
    (setS 11 (lamE w__law_kind (callE (appF (T1 13)) (argsE [(tupE (argsE [(vE 10), (tupE (argsE [(tupE (argsE [])), (cE (.int 0)), (tupE (argsE [(cE (.str "call")), (cE (.int 0)), (binE addD (vE 9) (tupE (argsE [(tupE (argsE [(cE (.str "one")), (vE 8)]))])))]))]))]))]))))
def s_law_calls_9 (T T1 : Tab) : SF :=
    (retS (binE eqD (vE 11) (lstE (argsE [(tupE (argsE [(callE tupleD (argsE [(lcE (srcV (vE 7)) (tgT [13, 14]) yesB (vE 14) [13, 14])])), (cE (.int 0))])), (tupE (argsE [(tupE (argsE [])), (cE (.int 0))]))]))))
def n_law_calls : List Str := ["_law_state", "_law_many", "_law_short", "_law_number", "_law_due", "_law_last", "_law_size", "_law_params", "_law_one", "_law_some", "_law_first", "_law_told", "_law_k", "_law_name", "_law_depth"]
def st_law_calls : Stmt := top 37
def b_law_calls (T T1 : Tab) : SF :=
    (seqS (s_law_calls_0 T T1) (seqS (s_law_calls_1 T T1) (seqS (s_law_calls_2 T T1) (seqS (s_law_calls_3 T T1) (seqS (s_law_calls_4 T T1) (seqS (s_law_calls_5 T T1) (seqS (s_law_calls_6 T T1) (seqS (s_law_calls_7 T T1) (seqS (s_law_calls_8 T T1) (s_law_calls_9 T T1))))))))))
theorem d_law_calls {g : G} {l : Nat} {T T1 : Tab} (C : Cs g) (V : Vs g) (F : Fx g (l + 2) T) (F1 : Fx g l T1) {cd : Value} (lm : g.Lm cd "_law_calls") {X : Cx} {W : WX} (c : DefC g (l + 3) n_law_calls (defScope st_law_calls) "_law_calls" cd X W) : SSs g.N W X (defBody st_law_calls) (b_law_calls T T1) := by
  have nd : (n_law_calls).Nodup := by decide +kernel
  exact (ss_cons (c.set nd 1 rfl (c.wr (by decide +kernel)) (g.off 1) (se_op op_addA ops_add se_int (c.call F.f_law_taken (Nat.le_succ _) (by decide +kernel) (sa_cons (c.var 0 rfl (by decide +kernel)) (sa_cons se_int sa_nil)))))
    (ss_cons (c.set nd 2 rfl (c.wr (by decide +kernel)) (g.off 2) (se_tup (sa_cons (se_tup sa_nil) (sa_cons se_int (sa_cons (se_tup (sa_cons se_str (sa_cons se_int sa_nil))) sa_nil)))))
    (ss_cons (c.forR2 C.b_range (by decide +kernel) (sa_cons se_int (sa_cons se_int sa_nil)) (c.tgn nd 3 rfl (c.wr (by decide +kernel)) (g.off 3)) (ss_cons (c.set nd 4 rfl (c.wr (by decide +kernel)) (g.off 4) (se_tup (sa_cons (c.var 1 rfl (by decide +kernel)) (sa_cons se_int (sa_cons (se_if (sb_cmp op_gt ops_gt (c.var 3 rfl (by decide +kernel)) se_int (nomark _)) se_str se_str) sa_nil)))))
    (ss_cons (c.set nd 5 rfl (c.wr (by decide +kernel)) (g.off 5) (se_tup (sa_cons (se_tup sa_nil) (sa_cons se_int (sa_cons (se_tup (sa_cons se_str (sa_cons (se_op op_addA ops_add (c.var 3 rfl (by decide +kernel)) (se_op op_mulA ops_mul (c.var 1 rfl (by decide +kernel)) (c.blty C.b_int call_intA cs_int (by decide +kernel) rfl (sa_cons (se_cmp op_lt ops_lt (c.var 3 rfl (by decide +kernel)) se_int (nomark _)) sa_nil)))) (sa_cons (se_tup sa_nil) sa_nil)))) sa_nil)))))
    (ss_cons (c.set nd 4 rfl (c.wr (by decide +kernel)) (g.off 4) (se_if (sb_cmp op_gt ops_gt (se_ix (se_ix (c.var 5 rfl (by decide +kernel)) se_int (fun _ _ => rfl)) se_int (fun _ _ => rfl)) se_int (nomark _)) (se_tup (sa_cons (c.var 1 rfl (by decide +kernel)) (sa_cons se_int (sa_cons se_str sa_nil)))) (c.var 4 rfl (by decide +kernel))))
    (ss_one (s_if (sb_cmp (op_neA c.un) ops_ne (c.lam (V.w__law_kind) lm (Nat.le_refl _) (by decide +kernel) (by decide +kernel) rfl (fun _ _ _ _ _ => rfl) (fun Y W cl => (cl.call F1.f_faces (Nat.le_succ _) (by decide +kernel) (sa_cons (se_op op_addA ops_add (se_op op_mulA ops_mul (se_tup (sa_cons (cl.var 2 rfl (by decide +kernel)) sa_nil)) (cl.var 1 rfl (by decide +kernel))) (se_tup (sa_cons (cl.var 5 rfl (by decide +kernel)) sa_nil))) sa_nil)))) (c.var 4 rfl (by decide +kernel)) (nomark _)) (ss_one (s_ret se_bl)) ss_nil))))))
    (ss_cons (c.set nd 6 rfl (c.wr (by decide +kernel)) (g.off 6) (se_op op_addA ops_add se_int (c.call F.f_law_taken (Nat.le_succ _) (by decide +kernel) (sa_cons (c.var 0 rfl (by decide +kernel)) (sa_cons se_int sa_nil)))))
    (ss_cons (c.set nd 7 rfl (c.wr (by decide +kernel)) (g.off 7) (se_op op_addA ops_add (c.blty C.b_tuple call_tupleF cs_tuple (by decide +kernel) rfl (sa_cons (c.lc [("_law_k", 12)] nd (by decide +kernel) (fun v hv => g.off v) (c.siR1 C.b_range (by decide +kernel) (sa_cons (se_op op_sub ops_sub (c.var 6 rfl (by decide +kernel)) se_int) sa_nil)) (tgw_name (g.off 12) (by decide)) (fun σ1 Y1 b1 => have c1 := c.toCtx.blk b1; (c1.pgn nd 12 rfl (b1.wr (by decide +kernel)))) (fun σ1 Y1 b1 => have c1 := c.toCtx.blk b1; pts_nilM) (fun σ1 Y1 b1 => have c1 := c.toCtx.blk b1; (se_tup (sa_cons (c1.var 12 rfl (by decide +kernel)) (sa_cons se_int sa_nil))))) sa_nil)) (se_tup (sa_cons (se_tup (sa_cons (c.var 6 rfl (by decide +kernel)) (sa_cons se_int sa_nil))) sa_nil))))
    (ss_cons (c.unp (tg_tup (is := [8, 9]) (fun v hv => g.off v) (pg_tup c.calm (pgs_cons (c.pgn nd 8 rfl (c.wr (by decide +kernel))) (pgs_cons (c.pgn nd 9 rfl (c.wr (by decide +kernel))) pgs_nil)))) (se_tup (sa_cons (se_tup (sa_cons se_str (sa_cons se_int sa_nil))) (sa_cons (se_op op_mulA ops_mul (se_tup (sa_cons (se_tup (sa_cons se_str (sa_cons se_int sa_nil))) sa_nil)) (se_op op_sub ops_sub (c.var 6 rfl (by decide +kernel)) se_int)) sa_nil))) (fun env h => by cases env; cases h; rfl))
    (ss_cons (c.set nd 10 rfl (c.wr (by decide +kernel)) (g.off 10) (se_tup (sa_cons (c.var 7 rfl (by decide +kernel)) (sa_cons se_int (sa_cons (se_tup (sa_cons se_str (sa_cons (se_tup (sa_cons se_str (sa_cons (c.var 6 rfl (by decide +kernel)) sa_nil))) sa_nil))) sa_nil)))))
    (ss_cons (s_if (sb_cmp (op_neA c.un) ops_ne (c.lam (V.w__law_kind) lm (Nat.le_refl _) (by decide +kernel) (by decide +kernel) rfl (fun _ _ _ _ _ => rfl) (fun Y W cl => (cl.call F1.f_faces (Nat.le_succ _) (by decide +kernel) (sa_cons (se_tup (sa_cons (cl.var 10 rfl (by decide +kernel)) (sa_cons (se_tup (sa_cons (se_tup sa_nil) (sa_cons se_int (sa_cons (se_tup (sa_cons se_str (sa_cons se_int (sa_cons (se_op op_addA ops_add (cl.var 9 rfl (by decide +kernel)) (se_tup (sa_cons (cl.var 8 rfl (by decide +kernel)) sa_nil))) sa_nil)))) sa_nil)))) sa_nil))) sa_nil)))) (se_tup (sa_cons se_int (sa_cons se_int (sa_cons se_str sa_nil)))) (nomark _)) (ss_one (s_ret se_bl)) ss_nil)
    (ss_cons (c.set nd 11 rfl (c.wr (by decide +kernel)) (g.off 11) (c.lam (V.w__law_kind) lm (Nat.le_refl _) (by decide +kernel) (by decide +kernel) rfl (fun _ _ _ _ _ => rfl) (fun Y W cl => (cl.call F1.f_faces (Nat.le_succ _) (by decide +kernel) (sa_cons (se_tup (sa_cons (cl.var 10 rfl (by decide +kernel)) (sa_cons (se_tup (sa_cons (se_tup sa_nil) (sa_cons se_int (sa_cons (se_tup (sa_cons se_str (sa_cons se_int (sa_cons (se_op op_addA ops_add (cl.var 9 rfl (by decide +kernel)) (se_tup (sa_cons (se_tup (sa_cons se_str (sa_cons (cl.var 8 rfl (by decide +kernel)) sa_nil))) sa_nil))) sa_nil)))) sa_nil)))) sa_nil))) sa_nil)))))
    (ss_one (s_ret (se_cmp (op_eqA c.un) ops_eq (c.var 11 rfl (by decide +kernel)) (se_lst (sa_cons (se_tup (sa_cons (c.blty C.b_tuple call_tupleF cs_tuple (by decide +kernel) rfl (sa_cons (c.lc [("_law_name", 13), ("_law_depth", 14)] nd (by decide +kernel) (fun v hv => g.off v) (si_val (c.var 7 rfl (by decide +kernel))) (tgw_tup (fun v hv => g.off v) (by decide)) (fun σ1 Y1 b1 => have c1 := c.toCtx.blk b1; (b1.pgt (pg_tup c1.calm (pgs_cons (c1.pgn nd 13 rfl (b1.wr (by decide +kernel))) (pgs_cons (c1.pgn nd 14 rfl (b1.wr (by decide +kernel))) pgs_nil))))) (fun σ1 Y1 b1 => have c1 := c.toCtx.blk b1; pts_nilM) (fun σ1 Y1 b1 => have c1 := c.toCtx.blk b1; (c1.var 14 rfl (by decide +kernel)))) sa_nil)) (sa_cons se_int sa_nil))) (sa_cons (se_tup (sa_cons (se_tup sa_nil) (sa_cons se_int sa_nil))) sa_nil))) (nomark _)))))))))))))
def s_law_names_0 (T T1 : Tab) : SF :=
    (unpS (tgT [1, 2]) (tupE (argsE [(callE (appF (T 22)) (argsE [(vE 0), (cE (.int 20))])), (callE (appF (T 22)) (argsE [(vE 0), (cE (.int 4))]))])))
def s_law_names_1 (T T1 : Tab) : SF :=
    (setS 3 (binE modD (binE addD (binE addD (vE 1) (cE (.int 1))) (callE (appF (T 22)) (argsE [(vE 0), (cE (.int 19))]))) (cE (.int 20))))
def s_law_names_2_0 (T T1 : Tab) : SF :=
    (ifS (tstE (binE neD (lamE w__law_kind (callE (appF (T1 13)) (argsE [(tupE (argsE [(tupE (argsE [(vE 4), (cE (.int 0)), (tupE (argsE [(cE (.str "num")), (cE (.int 1))]))]))]))]))) (tupE (argsE [(cE (.int 0)), (binE subD (cE (.int 0)) (cE (.int 1))), (cE (.str "face"))])))) (retS (cE (.bl false))) nilS)
def s_law_names_2 (T T1 : Tab) : SF :=
    (forS (tupE (argsE [(tupE (argsE [(tupE (argsE [(vE 1), (vE 2)])), (tupE (argsE [(vE 1), (binE modD (binE addD (vE 2) (cE (.int 1))) (cE (.int 4)))]))])), (tupE (argsE [(tupE (argsE [(vE 1), (vE 2)])), (tupE (argsE [(vE 3), (cE (.int 0))])), (tupE (argsE [(vE 1), (vE 2)]))])), (tupE (argsE [(tupE (argsE [(vE 1), (vE 2)])), (tupE (argsE [(vE 1), (vE 2)]))]))])) (tgN 4) (s_law_names_2_0 T T1))
def s_law_names_3 (T T1 : Tab) : SF :=
    (retS (binE eqD (lamE w__law_kind (callE (appF (T1 13)) (argsE [(tupE (argsE [(tupE (argsE [(tupE (argsE [(tupE (argsE [(vE 1), (vE 2)])), (tupE (argsE [(vE 3), (vE 2)]))])), (cE (.int 0)), (tupE (argsE [(cE (.str "num")), (cE (.int 1))]))]))]))]))) (lstE (argsE [(tupE (argsE [(tupE (argsE [(vE 2), (vE 2)])), (cE (.int 0))]))]))))
def n_law_names : List Str := ["_law_state", "_law_a", "_law_b", "_law_other", "_law_params"]
def st_law_names : Stmt := top 38
def b_law_names (T T1 : Tab) : SF :=
    (seqS (s_law_names_0 T T1) (seqS (s_law_names_1 T T1) (seqS (s_law_names_2 T T1) (s_law_names_3 T T1))))
theorem d_law_names {g : G} {l : Nat} {T T1 : Tab} (C : Cs g) (V : Vs g) (F : Fx g (l + 2) T) (F1 : Fx g l T1) {cd : Value} (lm : g.Lm cd "_law_names") {X : Cx} {W : WX} (c : DefC g (l + 3) n_law_names (defScope st_law_names) "_law_names" cd X W) : SSs g.N W X (defBody st_law_names) (b_law_names T T1) := by
  have nd : (n_law_names).Nodup := by decide +kernel
  exact (ss_cons (c.unp (tg_tup (is := [1, 2]) (fun v hv => g.off v) (pg_tup c.calm (pgs_cons (c.pgn nd 1 rfl (c.wr (by decide +kernel))) (pgs_cons (c.pgn nd 2 rfl (c.wr (by decide +kernel))) pgs_nil)))) (se_tup (sa_cons (c.call F.f_law_taken (Nat.le_succ _) (by decide +kernel) (sa_cons (c.var 0 rfl (by decide +kernel)) (sa_cons se_int sa_nil))) (sa_cons (c.call F.f_law_taken (Nat.le_succ _) (by decide +kernel) (sa_cons (c.var 0 rfl (by decide +kernel)) (sa_cons se_int sa_nil))) sa_nil))) (fun env h => by cases env; cases h; rfl))
    (ss_cons (c.set nd 3 rfl (c.wr (by decide +kernel)) (g.off 3) (se_op op_mod ops_mod (se_op op_addA ops_add (se_op op_addA ops_add (c.var 1 rfl (by decide +kernel)) se_int) (c.call F.f_law_taken (Nat.le_succ _) (by decide +kernel) (sa_cons (c.var 0 rfl (by decide +kernel)) (sa_cons se_int sa_nil)))) se_int))
    (ss_cons (c.for_ (se_tup (sa_cons (se_tup (sa_cons (se_tup (sa_cons (c.var 1 rfl (by decide +kernel)) (sa_cons (c.var 2 rfl (by decide +kernel)) sa_nil))) (sa_cons (se_tup (sa_cons (c.var 1 rfl (by decide +kernel)) (sa_cons (se_op op_mod ops_mod (se_op op_addA ops_add (c.var 2 rfl (by decide +kernel)) se_int) se_int) sa_nil))) sa_nil))) (sa_cons (se_tup (sa_cons (se_tup (sa_cons (c.var 1 rfl (by decide +kernel)) (sa_cons (c.var 2 rfl (by decide +kernel)) sa_nil))) (sa_cons (se_tup (sa_cons (c.var 3 rfl (by decide +kernel)) (sa_cons se_int sa_nil))) (sa_cons (se_tup (sa_cons (c.var 1 rfl (by decide +kernel)) (sa_cons (c.var 2 rfl (by decide +kernel)) sa_nil))) sa_nil)))) (sa_cons (se_tup (sa_cons (se_tup (sa_cons (c.var 1 rfl (by decide +kernel)) (sa_cons (c.var 2 rfl (by decide +kernel)) sa_nil))) (sa_cons (se_tup (sa_cons (c.var 1 rfl (by decide +kernel)) (sa_cons (c.var 2 rfl (by decide +kernel)) sa_nil))) sa_nil))) sa_nil)))) (c.tgn nd 4 rfl (c.wr (by decide +kernel)) (g.off 4)) (ss_one (s_if (sb_cmp (op_neA c.un) ops_ne (c.lam (V.w__law_kind) lm (Nat.le_refl _) (by decide +kernel) (by decide +kernel) rfl (fun _ _ _ _ _ => rfl) (fun Y W cl => (cl.call F1.f_faces (Nat.le_succ _) (by decide +kernel) (sa_cons (se_tup (sa_cons (se_tup (sa_cons (cl.var 4 rfl (by decide +kernel)) (sa_cons se_int (sa_cons (se_tup (sa_cons se_str (sa_cons se_int sa_nil))) sa_nil)))) sa_nil)) sa_nil)))) (se_tup (sa_cons se_int (sa_cons (se_op op_sub ops_sub se_int se_int) (sa_cons se_str sa_nil)))) (nomark _)) (ss_one (s_ret se_bl)) ss_nil)))
    (ss_one (s_ret (se_cmp (op_eqA c.un) ops_eq (c.lam (V.w__law_kind) lm (Nat.le_refl _) (by decide +kernel) (by decide +kernel) rfl (fun _ _ _ _ _ => rfl) (fun Y W cl => (cl.call F1.f_faces (Nat.le_succ _) (by decide +kernel) (sa_cons (se_tup (sa_cons (se_tup (sa_cons (se_tup (sa_cons (se_tup (sa_cons (cl.var 1 rfl (by decide +kernel)) (sa_cons (cl.var 2 rfl (by decide +kernel)) sa_nil))) (sa_cons (se_tup (sa_cons (cl.var 3 rfl (by decide +kernel)) (sa_cons (cl.var 2 rfl (by decide +kernel)) sa_nil))) sa_nil))) (sa_cons se_int (sa_cons (se_tup (sa_cons se_str (sa_cons se_int sa_nil))) sa_nil)))) sa_nil)) sa_nil)))) (se_lst (sa_cons (se_tup (sa_cons (se_tup (sa_cons (c.var 2 rfl (by decide +kernel)) (sa_cons (c.var 2 rfl (by decide +kernel)) sa_nil))) (sa_cons se_int sa_nil))) sa_nil)) (nomark _)))))))
def s_law_0 (T T1 : Tab) : SF :=
    (setS 1 (lstE (argsE [(vE 0), (cE (.int 0)), (cE (.int 1)), (cE (.int 0))])))
def s_law_1_0 (T T1 : Tab) : SF :=
    (ifS (orB (notB (tstE (callE (appF (T 23)) (argsE [(vE 1)])))) (notB (tstE (callE (appF (T 24)) (argsE [(vE 1)]))))) (retS (cE (.bl false))) nilS)
def s_law_1_1 (T T1 : Tab) : SF :=
    (setS 3 (callE (appF (T 22)) (argsE [(vE 1), (cE (.int 1000))])))
def s_law_1_2 (T T1 : Tab) : SF :=
    (ifS (tstE (binE neD (lamE w__law_kind (callE (appF (T1 21)) (argsE [(binE addD (binE addD (cE (.str "0 0 ( num ")) (callE strD (argsE [(vE 3)]))) (cE (.str " )")))]))) (tupE (argsE [(tupE (argsE [(tupE (argsE [])), (cE (.int 0)), (tupE (argsE [(cE (.str "num")), (vE 3)]))]))])))) (retS (cE (.bl false))) nilS)
def s_law_1_3_0 (T T1 : Tab) : SF :=
    (setS 5 (binE addD (vE 4) (callE strD (argsE [(vE 3)]))))
def s_law_1_3_1 (T T1 : Tab) : SF :=
    (ifS (tstE (binE neD (lamE w__law_kind (callE (appF (T1 21)) (argsE [(binE addD (binE addD (cE (.str "0 0 ( num ")) (vE 5)) (cE (.str " )")))]))) (tupE (argsE [(cE (.str "text")), (cE (.int 0)), (cE (.int 4))])))) (retS (cE (.bl false))) nilS)
def s_law_1_3_2 (T T1 : Tab) : SF :=
    (ifS (tstE (binE neD (lamE w__law_kind (callE (appF (T1 21)) (argsE [(binE addD (binE addD (cE (.str "0 0 ( num 1 )\n0 1 ")) (vE 5)) (cE (.str " 0 ( num 1 )")))]))) (tupE (argsE [(cE (.str "text")), (cE (.int 1)), (cE (.int 2))])))) (retS (cE (.bl false))) nilS)
def s_law_1_3 (T T1 : Tab) : SF :=
    (forS (tupE (argsE [(cE (.str "0")), (cE (.str "00"))])) (tgN 4) (seqS (s_law_1_3_0 T T1) (seqS (s_law_1_3_1 T T1) (s_law_1_3_2 T T1))))
def s_law_1 (T T1 : Tab) : SF :=
    (forR rng1 (argsE [(cE (.int 2))]) (tgN 2) (seqS (s_law_1_0 T T1) (seqS (s_law_1_1 T T1) (seqS (s_law_1_2 T T1) (s_law_1_3 T T1)))))
def s_law_2 (T T1 : Tab) : SF :=
    (retS (cE (.bl true)))
def n_law : List Str := ["_law_script", "_law_state", "_law_turn", "_law_number", "_law_noughts", "_law_word"]
def st_law : Stmt := top 39
def b_law (T T1 : Tab) : SF :=
    (seqS (s_law_0 T T1) (seqS (s_law_1 T T1) (s_law_2 T T1)))
theorem d_law {g : G} {l : Nat} {T T1 : Tab} (C : Cs g) (V : Vs g) (F : Fx g (l + 2) T) (F1 : Fx g l T1) {cd : Value} (lm : g.Lm cd "law") {X : Cx} {W : WX} (c : DefC g (l + 3) n_law (defScope st_law) "law" cd X W) : SSs g.N W X (defBody st_law) (b_law T T1) := by
  have nd : (n_law).Nodup := by decide +kernel
  exact (ss_cons (c.set nd 1 rfl (c.wr (by decide +kernel)) (g.off 1) (se_lst (sa_cons (c.var 0 rfl (by decide +kernel)) (sa_cons se_int (sa_cons se_int (sa_cons se_int sa_nil))))))
    (ss_cons (c.forR1 C.b_range (by decide +kernel) (sa_cons se_int sa_nil) (c.tgn nd 2 rfl (c.wr (by decide +kernel)) (g.off 2)) (ss_cons (s_if (sb_w (sw_or (sb_not (sb_val (c.call F.f_law_calls (Nat.le_succ _) (by decide +kernel) (sa_cons (c.var 1 rfl (by decide +kernel)) sa_nil)))) (sw_or1 (sb_not (sb_val (c.call F.f_law_names (Nat.le_succ _) (by decide +kernel) (sa_cons (c.var 1 rfl (by decide +kernel)) sa_nil))))))) (ss_one (s_ret se_bl)) ss_nil)
    (ss_cons (c.set nd 3 rfl (c.wr (by decide +kernel)) (g.off 3) (c.call F.f_law_taken (Nat.le_succ _) (by decide +kernel) (sa_cons (c.var 1 rfl (by decide +kernel)) (sa_cons se_int sa_nil))))
    (ss_cons (s_if (sb_cmp (op_neA c.un) ops_ne (c.lam (V.w__law_kind) lm (Nat.le_refl _) (by decide +kernel) (by decide +kernel) rfl (fun _ _ _ _ _ => rfl) (fun Y W cl => (cl.call F1.f_read (Nat.le_succ _) (by decide +kernel) (sa_cons (se_op op_addA ops_add (se_op op_addA ops_add se_str (cl.blty C.b_str call_str_int cs_str (by decide +kernel) rfl (sa_cons (cl.var 3 rfl (by decide +kernel)) sa_nil))) se_str) sa_nil)))) (se_tup (sa_cons (se_tup (sa_cons (se_tup sa_nil) (sa_cons se_int (sa_cons (se_tup (sa_cons se_str (sa_cons (c.var 3 rfl (by decide +kernel)) sa_nil))) sa_nil)))) sa_nil)) (nomark _)) (ss_one (s_ret se_bl)) ss_nil)
    (ss_one (c.for_ (se_tup (sa_cons se_str (sa_cons se_str sa_nil))) (c.tgn nd 4 rfl (c.wr (by decide +kernel)) (g.off 4)) (ss_cons (c.set nd 5 rfl (c.wr (by decide +kernel)) (g.off 5) (se_op op_addA ops_add (c.var 4 rfl (by decide +kernel)) (c.blty C.b_str call_str_int cs_str (by decide +kernel) rfl (sa_cons (c.var 3 rfl (by decide +kernel)) sa_nil))))
    (ss_cons (s_if (sb_cmp (op_neA c.un) ops_ne (c.lam (V.w__law_kind) lm (Nat.le_refl _) (by decide +kernel) (by decide +kernel) rfl (fun _ _ _ _ _ => rfl) (fun Y W cl => (cl.call F1.f_read (Nat.le_succ _) (by decide +kernel) (sa_cons (se_op op_addA ops_add (se_op op_addA ops_add se_str (cl.var 5 rfl (by decide +kernel))) se_str) sa_nil)))) (se_tup (sa_cons se_str (sa_cons se_int (sa_cons se_int sa_nil)))) (nomark _)) (ss_one (s_ret se_bl)) ss_nil)
    (ss_one (s_if (sb_cmp (op_neA c.un) ops_ne (c.lam (V.w__law_kind) lm (Nat.le_refl _) (by decide +kernel) (by decide +kernel) rfl (fun _ _ _ _ _ => rfl) (fun Y W cl => (cl.call F1.f_read (Nat.le_succ _) (by decide +kernel) (sa_cons (se_op op_addA ops_add (se_op op_addA ops_add se_str (cl.var 5 rfl (by decide +kernel))) se_str) sa_nil)))) (se_tup (sa_cons se_str (sa_cons se_int (sa_cons se_int sa_nil)))) (nomark _)) (ss_one (s_ret se_bl)) ss_nil))))))))))
    (ss_one (s_ret se_bl))))
def step (T T1 : Tab) : Tab := fun i => match i with
  | 0 => fnF 2 (b_is_number T T1)
  | 1 => fnF 1 (b_count_of T T1)
  | 2 => fnF 2 (b_is_form T T1)
  | 3 => fnF 2 (b_parts_of T T1)
  | 4 => fnF 2 (b_size_of T T1)
  | 5 => fnF 3 (b_Looker_init T T1)
  | 6 => fnF 3 (b_Looker_refuse T T1)
  | 7 => fnF 8 (b_Looker_depth T T1)
  | 8 => fnF 8 (b_Looker_inner_depths T T1)
  | 9 => fnF 12 (b_Looker_called T T1)
  | 10 => fnF 4 (b_depth_of T T1)
  | 11 => fnF 6 (b_is_face T T1)
  | 12 => fnF 5 (b_need_program T T1)
  | 13 => fnF 6 (b_faces T T1)
  | 14 => fnF 3 (b_Reader_init T T1)
  | 15 => fnF 1 (b_Reader_fail T T1)
  | 16 => fnF 1 (b_Reader_seen T T1)
  | 17 => fnF 4 (b_Reader_count T T1)
  | 18 => fnF 2 (b_Reader_sign T T1)
  | 19 => fnF 4 (b_Reader_tree T T1)
  | 20 => fnF 5 (b_Reader_whole T T1)
  | 21 => fnF 4 (b_read T T1)
  | 22 => fnF 4 (b_law_taken T T1)
  | 23 => fnF 15 (b_law_calls T T1)
  | 24 => fnF 5 (b_law_names T T1)
  | 25 => fnF 6 (b_law T T1)
  | _ => badF
def tabs : Nat → Tab × Tab
  | 0 => (fun _ => badF, fun _ => badF)
  | n + 1 => (step (tabs n).1 (tabs n).2, (tabs n).1)
/-! ## the head -/
def tbL : List Str := ["_law_calls", "_law_names", "law"]
def Nm0 (K : PySem.W.Frag) : Nm := { cn := cnL, an := anL, tb := tbL.map fun x => ((tabOf K x).2, x ++ ".<locals>." ++ "<lambda>"), xs := xsL }
def st_XBadProgram : Stmt := mtd 2 0
def n_XBadProgram : List Str := ["self", "function", "place", "word"]
def st_XBadText : Stmt := mtd 3 0
def n_XBadText : List Str := ["self", "row", "place"]
def fnL : List He.DefD := [⟨("is_number", none), "is_number", "is_number", defArgs st_is_number, defBody st_is_number, defScope st_is_number, [], []⟩,
    ⟨("count_of", none), "count_of", "count_of", defArgs st_count_of, defBody st_count_of, defScope st_count_of, [], []⟩,
    ⟨("is_form", none), "is_form", "is_form", defArgs st_is_form, defBody st_is_form, defScope st_is_form, [], []⟩,
    ⟨("parts_of", none), "parts_of", "parts_of", defArgs st_parts_of, defBody st_parts_of, defScope st_parts_of, [], []⟩,
    ⟨("size_of", none), "size_of", "size_of", defArgs st_size_of, defBody st_size_of, defScope st_size_of, [], []⟩,
    ⟨("Looker", some "__init__"), "__init__", "Looker.__init__", defArgs st_Looker_init, defBody st_Looker_init, defScope st_Looker_init, [], []⟩,
    ⟨("Looker", some "refuse"), "refuse", "Looker.refuse", defArgs st_Looker_refuse, defBody st_Looker_refuse, defScope st_Looker_refuse, [], []⟩,
    ⟨("Looker", some "depth"), "depth", "Looker.depth", defArgs st_Looker_depth, defBody st_Looker_depth, defScope st_Looker_depth, [], []⟩,
    ⟨("Looker", some "inner_depths"), "inner_depths", "Looker.inner_depths", defArgs st_Looker_inner_depths, defBody st_Looker_inner_depths, defScope st_Looker_inner_depths, [], []⟩,
    ⟨("Looker", some "called"), "called", "Looker.called", defArgs st_Looker_called, defBody st_Looker_called, defScope st_Looker_called, [], []⟩,
    ⟨("depth_of", none), "depth_of", "depth_of", defArgs st_depth_of, defBody st_depth_of, defScope st_depth_of, [], []⟩,
    ⟨("is_face", none), "is_face", "is_face", defArgs st_is_face, defBody st_is_face, defScope st_is_face, [], []⟩,
    ⟨("need_program", none), "need_program", "need_program", defArgs st_need_program, defBody st_need_program, defScope st_need_program, [], []⟩,
    ⟨("faces", none), "faces", "faces", defArgs st_faces, defBody st_faces, defScope st_faces, [], []⟩,
    ⟨("Reader", some "__init__"), "__init__", "Reader.__init__", defArgs st_Reader_init, defBody st_Reader_init, defScope st_Reader_init, [], []⟩,
    ⟨("Reader", some "fail"), "fail", "Reader.fail", defArgs st_Reader_fail, defBody st_Reader_fail, defScope st_Reader_fail, [], []⟩,
    ⟨("Reader", some "seen"), "seen", "Reader.seen", defArgs st_Reader_seen, defBody st_Reader_seen, defScope st_Reader_seen, [], []⟩,
    ⟨("Reader", some "count"), "count", "Reader.count", defArgs st_Reader_count, defBody st_Reader_count, defScope st_Reader_count, [], []⟩,
    ⟨("Reader", some "sign"), "sign", "Reader.sign", defArgs st_Reader_sign, defBody st_Reader_sign, defScope st_Reader_sign, [], []⟩,
    ⟨("Reader", some "tree"), "tree", "Reader.tree", defArgs st_Reader_tree, defBody st_Reader_tree, defScope st_Reader_tree, [], []⟩,
    ⟨("Reader", some "whole"), "whole", "Reader.whole", defArgs st_Reader_whole, defBody st_Reader_whole, defScope st_Reader_whole, [], []⟩,
    ⟨("read", none), "read", "read", defArgs st_read, defBody st_read, defScope st_read, [], []⟩,
    ⟨("_law_taken", none), "_law_taken", "_law_taken", defArgs st_law_taken, defBody st_law_taken, defScope st_law_taken, [], []⟩,
    ⟨("_law_calls", none), "_law_calls", "_law_calls", defArgs st_law_calls, defBody st_law_calls, defScope st_law_calls, [], []⟩,
    ⟨("_law_names", none), "_law_names", "_law_names", defArgs st_law_names, defBody st_law_names, defScope st_law_names, [], []⟩,
    ⟨("law", none), "law", "law", defArgs st_law, defBody st_law, defScope st_law, [], []⟩,
    ⟨("_law_kind", none), "_law_kind", "_law_kind", defArgs st_law_kind, defBody st_law_kind, defScope st_law_kind, [], []⟩,
    ⟨("BadProgram", some "__init__"), "__init__", "BadProgram.__init__", defArgs st_XBadProgram, defBody st_XBadProgram, defScope st_XBadProgram, [], []⟩,
    ⟨("BadText", some "__init__"), "__init__", "BadText.__init__", defArgs st_XBadText, defBody st_XBadText, defScope st_XBadText, [], []⟩]
def faL : List He.Fa := [.glo "is_number", .glo "count_of", .glo "is_form", .glo "parts_of", .glo "size_of", .glo "depth_of", .glo "is_face", .glo "need_program", .glo "faces", .glo "read", .glo "_law_taken", .glo "_law_calls", .glo "_law_names", .glo "law", .glo "_law_kind", .glo "NestError", .glo "BadProgram", .glo "BadText", .glo "Looker", .glo "Reader", .free "ValueError", .free "bool", .free "dict", .free "int", .free "isinstance", .free "len", .free "range", .free "set", .free "str", .free "sum", .free "tuple", .int "PRIME" 10007, .int "MOST_NAME" 19, .int "MOST_DEPTH" 3, .int "MOST_FUNCTIONS" 6, .int "MOST_PARAMS" 4, .int "MOST_PLACES" 60, .int "MOST_WITHIN" 12, .glo "SUMS", .glo "ONES", .glo "TWOS", .glo "GOES", .glo "COUNTS", .str "FIGURES" "0123456789", .int "MOST_FIGURES" 5, .str "OPEN" "(", .str "CLOSE" ")", .cls "Looker", .cls "Reader", .meth "Looker" "refuse", .meth "Looker" "depth", .meth "Looker" "inner_depths", .meth "Looker" "called", .meth "Reader" "fail", .meth "Reader" "seen", .meth "Reader" "count", .meth "Reader" "sign", .meth "Reader" "tree", .meth "Reader" "whole", .mkr "Looker", .mkr "Reader", .meth "BadProgram" "__init__", .meth "BadText" "__init__"]
def tsL : List He.Tab := [(fun K => He.ga K "COUNTS", t_COUNTS.map (·.1))]
def ckL (K : PySem.W.Frag) : List Bool := [tupOkB K "SUMS" [(.str "plus"), (.str "minus"), (.str "times"), (.str "less"), (.str "same")],
    tupOkB K "ONES" [(.str "upto"), (.str "len"), (.str "sum"), (.str "sums"), (.str "one"), (.str "flat")],
    tupOkB K "TWOS" [(.str "plus"), (.str "minus"), (.str "times"), (.str "less"), (.str "same"), (.str "pick"), (.str "put")],
    tupOkB K "GOES" [(.str "each"), (.str "where")],
    He.valsB K (He.ga K "COUNTS") (t_COUNTS.map fun p => (p.1, He.Dv.int p.2)),
    noatB K (He.ga K "Looker") anL,
    noatB K (He.ga K "Reader") anL,
    noatB K (He.ga K "NestError") anL,
    xfB K (He.ga K "NestError"),
    excCB K (He.ga K "NestError"),
    (xsL.all fun c => decide (PySem.W.kitOne K (.ref (He.ga K (cnL.getD c Str.empty))) (.ref (He.ga K "NestError")) = some (subB c 0))),
    (xsL.all fun c => decide (PySem.W.exmOne K (.ref (He.ga K (cnL.getD c Str.empty))) (.ref (He.ga K "NestError")) = some (subB c 0))),
    noatB K (He.ga K "BadProgram") anL,
    xfB K (He.ga K "BadProgram"),
    excCB K (He.ga K "BadProgram"),
    (xsL.all fun c => decide (PySem.W.kitOne K (.ref (He.ga K (cnL.getD c Str.empty))) (.ref (He.ga K "BadProgram")) = some (subB c 1))),
    (xsL.all fun c => decide (PySem.W.exmOne K (.ref (He.ga K (cnL.getD c Str.empty))) (.ref (He.ga K "BadProgram")) = some (subB c 1))),
    noatB K (He.ga K "BadText") anL,
    xfB K (He.ga K "BadText"),
    excCB K (He.ga K "BadText"),
    (xsL.all fun c => decide (PySem.W.kitOne K (.ref (He.ga K (cnL.getD c Str.empty))) (.ref (He.ga K "BadText")) = some (subB c 2))),
    (xsL.all fun c => decide (PySem.W.exmOne K (.ref (He.ga K (cnL.getD c Str.empty))) (.ref (He.ga K "BadText")) = some (subB c 2))),
    (xsL.all fun c => decide (PySem.W.kitOne K (.ref (He.ga K (cnL.getD c Str.empty))) (.type "ValueError") = some true)),
    oexB K (He.ga K "BadProgram"),
    baseIB K (He.ga K "NestError"),
    oexB K (He.ga K "BadText"),
    baseIB K (He.ga K "NestError")]
def hsp : HSpec := ⟨5, faL, fnL, tsL, fun K => (ckL K).all id, tbL⟩
theorem ck_at {K : PySem.W.Frag} (h : (ckL K).all id = true) (i : Nat) {b : Bool} (e : (ckL K)[i]? = some b) : b = true := List.all_eq_true.mp h b (List.mem_of_getElem? e)
section
variable {g : G} {w : World} {h : Heap} (S : hsp.Says w h g.K) (hM : h.Ns mainGlobals g.mg) (hw : g.w = w) (hN : g.N = Nm0 g.K)
include S hM hw hN
theorem cs_of : Cs g := by
  have ca : g.N.an = anL := by rw [hN]; rfl
  have cc : g.N.cn = cnL := by rw [hN]; rfl
  have cx : g.N.xs = xsL := by rw [hN]; rfl
  have cl : ∀ c, g.N.cl g.K c = He.ga g.K (cnL.getD c Str.empty) := fun c => by unfold Nm.cl; rw [cc]
  have fa := fun (i : Nat) {f : He.Fa} (e : faL[i]? = some f) => S.says.d.fact i e
  have ck := fun (i : Nat) {b : Bool} (e : (ckL g.K)[i]? = some b) => ck_at S.ck i e
  refine { an := ca, cn := cc, xs := cx, b_ValueError := ?_, b_bool := ?_, b_dict := ?_, b_int := ?_, b_isinstance := ?_, b_len := ?_, b_range := ?_, b_set := ?_, b_str := ?_, b_sum := ?_, b_tuple := ?_, c_PRIME := ?_, c_MOST_NAME := ?_, c_MOST_DEPTH := ?_, c_MOST_FUNCTIONS := ?_, c_MOST_PARAMS := ?_, c_MOST_PLACES := ?_, c_MOST_WITHIN := ?_, c_SUMS := ?_, c_ONES := ?_, c_TWOS := ?_, c_GOES := ?_, t_COUNTS := ?_, c_FIGURES := ?_, c_MOST_FIGURES := ?_, c_OPEN := ?_, c_CLOSE := ?_, g_NestError := ?_, kit_NestError := ?_, exm_NestError := ?_, g_BadProgram := ?_, kit_BadProgram := ?_, exm_BadProgram := ?_, g_BadText := ?_, kit_BadText := ?_, exm_BadText := ?_, kit_ValueError := ?_, xcl := ?_ }
  · exact He.free_ok S.kin hM (fa 20 rfl)
  · exact He.free_ok S.kin hM (fa 21 rfl)
  · exact He.free_ok S.kin hM (fa 22 rfl)
  · exact He.free_ok S.kin hM (fa 23 rfl)
  · exact He.free_ok S.kin hM (fa 24 rfl)
  · exact He.free_ok S.kin hM (fa 25 rfl)
  · exact He.free_ok S.kin hM (fa 26 rfl)
  · exact He.free_ok S.kin hM (fa 27 rfl)
  · exact He.free_ok S.kin hM (fa 28 rfl)
  · exact He.free_ok S.kin hM (fa 29 rfl)
  · exact He.free_ok S.kin hM (fa 30 rfl)
  · obtain ⟨t, e⟩ := He.int_ok S.kin hM (fa 31 rfl); exact ⟨.int 10007, _, e, ⟨t, rfl⟩, fun _ _ => rfl⟩
  · obtain ⟨t, e⟩ := He.int_ok S.kin hM (fa 32 rfl); exact ⟨.int 19, _, e, ⟨t, rfl⟩, fun _ _ => rfl⟩
  · obtain ⟨t, e⟩ := He.int_ok S.kin hM (fa 33 rfl); exact ⟨.int 3, _, e, ⟨t, rfl⟩, fun _ _ => rfl⟩
  · obtain ⟨t, e⟩ := He.int_ok S.kin hM (fa 34 rfl); exact ⟨.int 6, _, e, ⟨t, rfl⟩, fun _ _ => rfl⟩
  · obtain ⟨t, e⟩ := He.int_ok S.kin hM (fa 35 rfl); exact ⟨.int 4, _, e, ⟨t, rfl⟩, fun _ _ => rfl⟩
  · obtain ⟨t, e⟩ := He.int_ok S.kin hM (fa 36 rfl); exact ⟨.int 60, _, e, ⟨t, rfl⟩, fun _ _ => rfl⟩
  · obtain ⟨t, e⟩ := He.int_ok S.kin hM (fa 37 rfl); exact ⟨.int 12, _, e, ⟨t, rfl⟩, fun _ _ => rfl⟩
  · exact ⟨.ref (He.ga g.K "SUMS"), _, He.glo_ok S.kin hM (fa 38 rfl), rfl, fun ρ H => tupOkB_ok (ck 0 rfl) ρ H⟩
  · exact ⟨.ref (He.ga g.K "ONES"), _, He.glo_ok S.kin hM (fa 39 rfl), rfl, fun ρ H => tupOkB_ok (ck 1 rfl) ρ H⟩
  · exact ⟨.ref (He.ga g.K "TWOS"), _, He.glo_ok S.kin hM (fa 40 rfl), rfl, fun ρ H => tupOkB_ok (ck 2 rfl) ρ H⟩
  · exact ⟨.ref (He.ga g.K "GOES"), _, He.glo_ok S.kin hM (fa 41 rfl), rfl, fun ρ H => tupOkB_ok (ck 3 rfl) ρ H⟩
  · exact kd_of (He.glo_ok S.kin hM (fa 42 rfl)) (by have z := SaysT_raw S.says 0 (t := (fun K => He.ga K "COUNTS", t_COUNTS.map (·.1))) rfl; rw [← hw] at z; exact z) (ck 4 rfl)
  · obtain ⟨t, e⟩ := He.str_ok S.kin hM (fa 43 rfl); exact ⟨.str "0123456789", _, e, ⟨t, rfl⟩, fun _ _ => rfl⟩
  · obtain ⟨t, e⟩ := He.int_ok S.kin hM (fa 44 rfl); exact ⟨.int 5, _, e, ⟨t, rfl⟩, fun _ _ => rfl⟩
  · obtain ⟨t, e⟩ := He.str_ok S.kin hM (fa 45 rfl); exact ⟨.str "(", _, e, ⟨t, rfl⟩, fun _ _ => rfl⟩
  · obtain ⟨t, e⟩ := He.str_ok S.kin hM (fa 46 rfl); exact ⟨.str ")", _, e, ⟨t, rfl⟩, fun _ _ => rfl⟩
  · rw [cl]; exact He.glo_ok S.kin hM (fa 15 rfl)
  · intro c hc; rw [cx] at hc; rw [cl, cl]; exact of_decide_eq_true (List.all_eq_true.mp (ck 10 rfl) c hc)
  · intro c hc; rw [cx] at hc; rw [cl, cl]; exact of_decide_eq_true (List.all_eq_true.mp (ck 11 rfl) c hc)
  · rw [cl]; exact He.glo_ok S.kin hM (fa 16 rfl)
  · intro c hc; rw [cx] at hc; rw [cl, cl]; exact of_decide_eq_true (List.all_eq_true.mp (ck 15 rfl) c hc)
  · intro c hc; rw [cx] at hc; rw [cl, cl]; exact of_decide_eq_true (List.all_eq_true.mp (ck 16 rfl) c hc)
  · rw [cl]; exact He.glo_ok S.kin hM (fa 17 rfl)
  · intro c hc; rw [cx] at hc; rw [cl, cl]; exact of_decide_eq_true (List.all_eq_true.mp (ck 20 rfl) c hc)
  · intro c hc; rw [cx] at hc; rw [cl, cl]; exact of_decide_eq_true (List.all_eq_true.mp (ck 21 rfl) c hc)
  · intro c hc; rw [cx] at hc; rw [cl]; exact of_decide_eq_true (List.all_eq_true.mp (ck 22 rfl) c hc)
  · intro c hc
    have hc2 := hc
    rw [cx] at hc2
    have hd : c = 0 ∨ c = 1 ∨ c = 2 := by simpa [xsL] using hc2
    rcases hd with rfl | rfl | rfl
    · exact ⟨hc, by rw [cl]; exact xfB_ok (ck 8 rfl), by rw [cl]; exact excCB_ok (ck 9 rfl), fun n x hx => by rw [cl]; exact noatB_ok (ck 7 rfl) (by rw [← ca]; exact hx)⟩
    · exact ⟨hc, by rw [cl]; exact xfB_ok (ck 13 rfl), by rw [cl]; exact excCB_ok (ck 14 rfl), fun n x hx => by rw [cl]; exact noatB_ok (ck 12 rfl) (by rw [← ca]; exact hx)⟩
    · exact ⟨hc, by rw [cl]; exact xfB_ok (ck 18 rfl), by rw [cl]; exact excCB_ok (ck 19 rfl), fun n x hx => by rw [cl]; exact noatB_ok (ck 17 rfl) (by rw [← ca]; exact hx)⟩
/-- a class with plain instances -/
theorem cls_Looker : ClsG g.N g.K 3 := by
  have ca : g.N.an = anL := by rw [hN]; rfl
  have cl : g.N.cl g.K 3 = He.ga g.K "Looker" := by unfold Nm.cl; rw [hN]; rfl
  exact ⟨by rw [cl]; exact He.cls_ok (S.says.d.fact 47 rfl), fun n x hx => by rw [cl]; exact noatB_ok (ck_at S.ck 5 rfl) (by rw [← ca]; exact hx)⟩
theorem cls_Reader : ClsG g.N g.K 4 := by
  have ca : g.N.an = anL := by rw [hN]; rfl
  have cl : g.N.cl g.K 4 = He.ga g.K "Reader" := by unfold Nm.cl; rw [hN]; rfl
  exact ⟨by rw [cl]; exact He.cls_ok (S.says.d.fact 48 rfl), fun n x hx => by rw [cl]; exact noatB_ok (ck_at S.ck 6 rfl) (by rw [← ca]; exact hx)⟩
end
theorem sc_XBadProgram : FnScope n_XBadProgram n_XBadProgram (defScope st_XBadProgram) := ⟨rfl, rfl, rfl, by decide +kernel, rfl, by decide +kernel, by decide +kernel⟩
theorem xm_BadProgram {g : G} {w : World} {h : Heap} (S : hsp.Says w h g.K) (hM : h.Ns mainGlobals g.mg) (hN : g.N = Nm0 g.K) (C : Cs g) : g.Xm 1 "BadProgram" 1 [0, 1, 2] := by
  have ca : g.N.an = anL := by rw [hN]; rfl
  have cl : ∀ c, g.N.cl g.K c = He.ga g.K (cnL.getD c Str.empty) := fun c => by unfold Nm.cl; rw [C.cn]
  obtain ⟨fd, F, hb⟩ := def_at S.says.d 27 (st := st_XBadProgram) rfl n_XBadProgram (fun _ _ _ _ _ _ us hl => match us, hl with | [_, _, _, _], _ => rfl)
  have M := He.meth_ok (S.says.d.fact 61 rfl)
  have T : OexC g.K (g.N.cl g.K 1) := by rw [cl]; exact oexB_ok (ck_at S.ck 23 rfl)
  have O := init_ok (g := g) (k := 0) (C := g.N.cl g.K 1) (is := [0, 1, 2, 3]) (f0 := "function") (i0 := 1) (xs := [("place", 2), ("word", 3)]) ["function", "place", "word"] F sc_XBadProgram rfl (by decide) (by decide) T ?_ ?_ ?_
  · exact ⟨⟨_, fd, _, by rw [cl]; exact M.at_, beq_iff_eq.mp M.fn, hb, by rw [ca]; exact O⟩, C.g_BadProgram, T, by rw [ca]; decide +kernel, C.nd⟩
  · intro p hp
    have hp2 : p.1 ∈ anL := by
      simp only [List.mem_cons, List.not_mem_nil, or_false] at hp
      rcases hp with rfl | rfl | rfl <;> decide +kernel
    obtain ⟨n, hn⟩ := List.mem_iff_getElem?.mp hp2
    rw [cl]
    exact noatB_ok (ck_at S.ck 12 rfl) hn
  · intro a ws hl
    match ws, hl with
    | [_, _, _], _ => exact ⟨rfl, rfl, _, rfl, rfl⟩
  · intro X i hX hs
    have B : BaseI X.K (g.N.cl g.K 0) := by rw [i.K, cl]; exact baseIB_ok (ck_at S.ck 24 rfl)
    exact .mk (pe_clsinit B (by show X.env.scope.names.lookup _ = _; rw [hs]; exact gloB_ok (by decide +kernel)) (by rw [i.mg]; exact C.g_NestError) (pa_cons (pe_var (i := 0) (by rw [hX]; rfl) (by rw [hs]; exact visB_ok (by decide +kernel))) (pa_cons (pe_var (i := 1) (by rw [hX]; rfl) (by rw [hs]; exact visB_ok (by decide +kernel))) (pa_cons (pe_var (i := 2) (by rw [hX]; rfl) (by rw [hs]; exact visB_ok (by decide +kernel))) (pa_cons (pe_var (i := 3) (by rw [hX]; rfl) (by rw [hs]; exact visB_ok (by decide +kernel))) pa_nil))))) rfl (pe_var (i := 0) (by rw [hX]; rfl) (by rw [hs]; exact visB_ok (by decide +kernel))) (pe_var (i := 1) (by rw [hX]; rfl) (by rw [hs]; exact visB_ok (by decide +kernel))) rfl (.cons (pe_var (i := 0) (by rw [hX]; rfl) (by rw [hs]; exact visB_ok (by decide +kernel))) (pe_var (i := 2) (by rw [hX]; rfl) (by rw [hs]; exact visB_ok (by decide +kernel))) rfl (.cons (pe_var (i := 0) (by rw [hX]; rfl) (by rw [hs]; exact visB_ok (by decide +kernel))) (pe_var (i := 3) (by rw [hX]; rfl) (by rw [hs]; exact visB_ok (by decide +kernel))) rfl .nil))
theorem sc_XBadText : FnScope n_XBadText n_XBadText (defScope st_XBadText) := ⟨rfl, rfl, rfl, by decide +kernel, rfl, by decide +kernel, by decide +kernel⟩
theorem xm_BadText {g : G} {w : World} {h : Heap} (S : hsp.Says w h g.K) (hM : h.Ns mainGlobals g.mg) (hN : g.N = Nm0 g.K) (C : Cs g) : g.Xm 1 "BadText" 2 [3, 1] := by
  have ca : g.N.an = anL := by rw [hN]; rfl
  have cl : ∀ c, g.N.cl g.K c = He.ga g.K (cnL.getD c Str.empty) := fun c => by unfold Nm.cl; rw [C.cn]
  obtain ⟨fd, F, hb⟩ := def_at S.says.d 28 (st := st_XBadText) rfl n_XBadText (fun _ _ _ _ _ _ us hl => match us, hl with | [_, _, _], _ => rfl)
  have M := He.meth_ok (S.says.d.fact 62 rfl)
  have T : OexC g.K (g.N.cl g.K 2) := by rw [cl]; exact oexB_ok (ck_at S.ck 25 rfl)
  have O := init_ok (g := g) (k := 0) (C := g.N.cl g.K 2) (is := [0, 1, 2]) (f0 := "row") (i0 := 1) (xs := [("place", 2)]) ["row", "place"] F sc_XBadText rfl (by decide) (by decide) T ?_ ?_ ?_
  · exact ⟨⟨_, fd, _, by rw [cl]; exact M.at_, beq_iff_eq.mp M.fn, hb, by rw [ca]; exact O⟩, C.g_BadText, T, by rw [ca]; decide +kernel, C.nd⟩
  · intro p hp
    have hp2 : p.1 ∈ anL := by
      simp only [List.mem_cons, List.not_mem_nil, or_false] at hp
      rcases hp with rfl | rfl <;> decide +kernel
    obtain ⟨n, hn⟩ := List.mem_iff_getElem?.mp hp2
    rw [cl]
    exact noatB_ok (ck_at S.ck 17 rfl) hn
  · intro a ws hl
    match ws, hl with
    | [_, _], _ => exact ⟨rfl, rfl, _, rfl, rfl⟩
  · intro X i hX hs
    have B : BaseI X.K (g.N.cl g.K 0) := by rw [i.K, cl]; exact baseIB_ok (ck_at S.ck 26 rfl)
    exact .mk (pe_clsinit B (by show X.env.scope.names.lookup _ = _; rw [hs]; exact gloB_ok (by decide +kernel)) (by rw [i.mg]; exact C.g_NestError) (pa_cons (pe_var (i := 0) (by rw [hX]; rfl) (by rw [hs]; exact visB_ok (by decide +kernel))) (pa_cons (pe_var (i := 1) (by rw [hX]; rfl) (by rw [hs]; exact visB_ok (by decide +kernel))) (pa_cons (pe_var (i := 2) (by rw [hX]; rfl) (by rw [hs]; exact visB_ok (by decide +kernel))) pa_nil)))) rfl (pe_var (i := 0) (by rw [hX]; rfl) (by rw [hs]; exact visB_ok (by decide +kernel))) (pe_var (i := 1) (by rw [hX]; rfl) (by rw [hs]; exact visB_ok (by decide +kernel))) rfl (.cons (pe_var (i := 0) (by rw [hX]; rfl) (by rw [hs]; exact visB_ok (by decide +kernel))) (pe_var (i := 2) (by rw [hX]; rfl) (by rw [hs]; exact visB_ok (by decide +kernel))) rfl .nil)
theorem sc_law_kind : FnScope n_law_kind ["_law_work"] (defScope st_law_kind) := ⟨rfl, rfl, rfl, by decide +kernel, rfl, by decide +kernel, by decide +kernel⟩
theorem wk__law_kind {g : G} {w : World} {h : Heap} (S : hsp.Says w h g.K) (hM : h.Ns mainGlobals g.mg) (C : Cs g) : g.Wk "_law_kind" "_law_work" w__law_kind := by
  obtain ⟨fd, F, hb⟩ := def_at S.says.d 26 (st := st_law_kind) rfl ["_law_work"] (fun _ _ _ _ _ _ us hl => match us, hl with | [_], _ => rfl)
  refine kind_ok F (He.glo_ok S.kin hM (S.says.d.fact 14 rfl)) sc_law_kind hb rfl (by decide +kernel) rfl 1 rfl (by decide +kernel) (by decide +kernel) C.g_NestError (by decide +kernel) (fun c b hb => ?_) (su__law_kind C)
  unfold cc__law_kind at hb
  split at hb
  · rename_i hm
    have hc : c ∈ g.N.xs := by rw [C.xs]; simpa using hm
    cases hb
    exact ⟨C.exm_NestError c hc, C.xcl c hc⟩
  · cases hb
theorem vs_of {g : G} {w : World} {h : Heap} (S : hsp.Says w h g.K) (hM : h.Ns mainGlobals g.mg) (hN : g.N = Nm0 g.K) (C : Cs g) : Vs g := ⟨xm_BadProgram S hM hN C, xm_BadText S hM hN C, wk__law_kind S hM C⟩
/-! ## the defs, level by level -/
theorem sc_is_number : FnScope n_is_number ["part", "most"] (defScope st_is_number) := ⟨rfl, rfl, rfl, by decide +kernel, rfl, by decide +kernel, by decide +kernel⟩
theorem sc_count_of : FnScope n_count_of ["word"] (defScope st_count_of) := ⟨rfl, rfl, rfl, by decide +kernel, rfl, by decide +kernel, by decide +kernel⟩
theorem sc_is_form : FnScope n_is_form ["tree"] (defScope st_is_form) := ⟨rfl, rfl, rfl, by decide +kernel, rfl, by decide +kernel, by decide +kernel⟩
theorem sc_parts_of : FnScope n_parts_of ["tree"] (defScope st_parts_of) := ⟨rfl, rfl, rfl, by decide +kernel, rfl, by decide +kernel, by decide +kernel⟩
theorem sc_size_of : FnScope n_size_of ["tree"] (defScope st_size_of) := ⟨rfl, rfl, rfl, by decide +kernel, rfl, by decide +kernel, by decide +kernel⟩
theorem sc_Looker_init : FnScope n_Looker_init ["self", "program", "number"] (defScope st_Looker_init) := ⟨rfl, rfl, rfl, by decide +kernel, rfl, by decide +kernel, by decide +kernel⟩
theorem sc_Looker_refuse : FnScope n_Looker_refuse ["self", "place", "word"] (defScope st_Looker_refuse) := ⟨rfl, rfl, rfl, by decide +kernel, rfl, by decide +kernel, by decide +kernel⟩
theorem sc_Looker_depth : FnScope n_Looker_depth ["self", "tree", "known", "within"] (defScope st_Looker_depth) := ⟨rfl, rfl, rfl, by decide +kernel, rfl, by decide +kernel, by decide +kernel⟩
theorem sc_Looker_inner_depths : FnScope n_Looker_inner_depths ["self", "tree", "known", "within"] (defScope st_Looker_inner_depths) := ⟨rfl, rfl, rfl, by decide +kernel, rfl, by decide +kernel, by decide +kernel⟩
theorem sc_Looker_called : FnScope n_Looker_called ["self", "here", "tree", "known", "within"] (defScope st_Looker_called) := ⟨rfl, rfl, rfl, by decide +kernel, rfl, by decide +kernel, by decide +kernel⟩
theorem sc_depth_of : FnScope n_depth_of ["word", "found"] (defScope st_depth_of) := ⟨rfl, rfl, rfl, by decide +kernel, rfl, by decide +kernel, by decide +kernel⟩
theorem sc_is_face : FnScope n_is_face ["function"] (defScope st_is_face) := ⟨rfl, rfl, rfl, by decide +kernel, rfl, by decide +kernel, by decide +kernel⟩
theorem sc_need_program : FnScope n_need_program ["program"] (defScope st_need_program) := ⟨rfl, rfl, rfl, by decide +kernel, rfl, by decide +kernel, by decide +kernel⟩
theorem sc_faces : FnScope n_faces ["program"] (defScope st_faces) := ⟨rfl, rfl, rfl, by decide +kernel, rfl, by decide +kernel, by decide +kernel⟩
theorem sc_Reader_init : FnScope n_Reader_init ["self", "row", "text"] (defScope st_Reader_init) := ⟨rfl, rfl, rfl, by decide +kernel, rfl, by decide +kernel, by decide +kernel⟩
theorem sc_Reader_fail : FnScope n_Reader_fail ["self"] (defScope st_Reader_fail) := ⟨rfl, rfl, rfl, by decide +kernel, rfl, by decide +kernel, by decide +kernel⟩
theorem sc_Reader_seen : FnScope n_Reader_seen ["self"] (defScope st_Reader_seen) := ⟨rfl, rfl, rfl, by decide +kernel, rfl, by decide +kernel, by decide +kernel⟩
theorem sc_Reader_count : FnScope n_Reader_count ["self"] (defScope st_Reader_count) := ⟨rfl, rfl, rfl, by decide +kernel, rfl, by decide +kernel, by decide +kernel⟩
theorem sc_Reader_sign : FnScope n_Reader_sign ["self", "sign"] (defScope st_Reader_sign) := ⟨rfl, rfl, rfl, by decide +kernel, rfl, by decide +kernel, by decide +kernel⟩
theorem sc_Reader_tree : FnScope n_Reader_tree ["self"] (defScope st_Reader_tree) := ⟨rfl, rfl, rfl, by decide +kernel, rfl, by decide +kernel, by decide +kernel⟩
theorem sc_Reader_whole : FnScope n_Reader_whole ["self"] (defScope st_Reader_whole) := ⟨rfl, rfl, rfl, by decide +kernel, rfl, by decide +kernel, by decide +kernel⟩
theorem sc_read : FnScope n_read ["text"] (defScope st_read) := ⟨rfl, rfl, rfl, by decide +kernel, rfl, by decide +kernel, by decide +kernel⟩
theorem sc_law_taken : FnScope n_law_taken ["_law_row", "_law_many"] (defScope st_law_taken) := ⟨rfl, rfl, rfl, by decide +kernel, rfl, by decide +kernel, by decide +kernel⟩
theorem sc_law_calls : FnScope n_law_calls ["_law_state"] (defScope st_law_calls) := ⟨rfl, rfl, rfl, by decide +kernel, rfl, by decide +kernel, by decide +kernel⟩
theorem sc_law_names : FnScope n_law_names ["_law_state"] (defScope st_law_names) := ⟨rfl, rfl, rfl, by decide +kernel, rfl, by decide +kernel, by decide +kernel⟩
theorem sc_law : FnScope n_law ["_law_script"] (defScope st_law) := ⟨rfl, rfl, rfl, by decide +kernel, rfl, by decide +kernel, by decide +kernel⟩
structure Ds (g : G) : Prop where
  e_is_number : ∃ fd, L2.Fun g.K "is_number" "is_number" st_is_number (He.fAd g.K ("is_number", none)) fd ∧ Binds g.K fd ["part", "most"] []
  g_is_number : g.mg "is_number" = some (.ref (He.ga g.K "is_number"))
  e_count_of : ∃ fd, L2.Fun g.K "count_of" "count_of" st_count_of (He.fAd g.K ("count_of", none)) fd ∧ Binds g.K fd ["word"] []
  g_count_of : g.mg "count_of" = some (.ref (He.ga g.K "count_of"))
  e_is_form : ∃ fd, L2.Fun g.K "is_form" "is_form" st_is_form (He.fAd g.K ("is_form", none)) fd ∧ Binds g.K fd ["tree"] []
  g_is_form : g.mg "is_form" = some (.ref (He.ga g.K "is_form"))
  e_parts_of : ∃ fd, L2.Fun g.K "parts_of" "parts_of" st_parts_of (He.fAd g.K ("parts_of", none)) fd ∧ Binds g.K fd ["tree"] []
  g_parts_of : g.mg "parts_of" = some (.ref (He.ga g.K "parts_of"))
  e_size_of : ∃ fd, L2.Fun g.K "size_of" "size_of" st_size_of (He.fAd g.K ("size_of", none)) fd ∧ Binds g.K fd ["tree"] []
  g_size_of : g.mg "size_of" = some (.ref (He.ga g.K "size_of"))
  e_Looker_init : ∃ fd, L2.Fun g.K "__init__" "Looker.__init__" st_Looker_init (He.fAd g.K ("Looker", some "__init__")) fd ∧ Binds g.K fd ["self", "program", "number"] []
  g_Looker : g.mg "Looker" = some (.ref (g.N.cl g.K 3))
  k_Looker : L2.Mk g.K (g.N.cl g.K 3) (He.fAd g.K ("Looker", some "__init__"))
  e_Looker_refuse : ∃ fd, L2.Fun g.K "refuse" "Looker.refuse" st_Looker_refuse (He.fAd g.K ("Looker", some "refuse")) fd ∧ Binds g.K fd ["self", "place", "word"] []
  m_Looker_refuse : Meth g.K (g.N.cl g.K 3) "refuse" (He.fAd g.K ("Looker", some "refuse"))
  e_Looker_depth : ∃ fd, L2.Fun g.K "depth" "Looker.depth" st_Looker_depth (He.fAd g.K ("Looker", some "depth")) fd ∧ Binds g.K fd ["self", "tree", "known", "within"] []
  m_Looker_depth : Meth g.K (g.N.cl g.K 3) "depth" (He.fAd g.K ("Looker", some "depth"))
  e_Looker_inner_depths : ∃ fd, L2.Fun g.K "inner_depths" "Looker.inner_depths" st_Looker_inner_depths (He.fAd g.K ("Looker", some "inner_depths")) fd ∧ Binds g.K fd ["self", "tree", "known", "within"] []
  m_Looker_inner_depths : Meth g.K (g.N.cl g.K 3) "inner_depths" (He.fAd g.K ("Looker", some "inner_depths"))
  e_Looker_called : ∃ fd, L2.Fun g.K "called" "Looker.called" st_Looker_called (He.fAd g.K ("Looker", some "called")) fd ∧ Binds g.K fd ["self", "here", "tree", "known", "within"] []
  m_Looker_called : Meth g.K (g.N.cl g.K 3) "called" (He.fAd g.K ("Looker", some "called"))
  e_depth_of : ∃ fd, L2.Fun g.K "depth_of" "depth_of" st_depth_of (He.fAd g.K ("depth_of", none)) fd ∧ Binds g.K fd ["word", "found"] []
  g_depth_of : g.mg "depth_of" = some (.ref (He.ga g.K "depth_of"))
  e_is_face : ∃ fd, L2.Fun g.K "is_face" "is_face" st_is_face (He.fAd g.K ("is_face", none)) fd ∧ Binds g.K fd ["function"] []
  g_is_face : g.mg "is_face" = some (.ref (He.ga g.K "is_face"))
  e_need_program : ∃ fd, L2.Fun g.K "need_program" "need_program" st_need_program (He.fAd g.K ("need_program", none)) fd ∧ Binds g.K fd ["program"] []
  g_need_program : g.mg "need_program" = some (.ref (He.ga g.K "need_program"))
  e_faces : ∃ fd, L2.Fun g.K "faces" "faces" st_faces (He.fAd g.K ("faces", none)) fd ∧ Binds g.K fd ["program"] []
  g_faces : g.mg "faces" = some (.ref (He.ga g.K "faces"))
  e_Reader_init : ∃ fd, L2.Fun g.K "__init__" "Reader.__init__" st_Reader_init (He.fAd g.K ("Reader", some "__init__")) fd ∧ Binds g.K fd ["self", "row", "text"] []
  g_Reader : g.mg "Reader" = some (.ref (g.N.cl g.K 4))
  k_Reader : L2.Mk g.K (g.N.cl g.K 4) (He.fAd g.K ("Reader", some "__init__"))
  e_Reader_fail : ∃ fd, L2.Fun g.K "fail" "Reader.fail" st_Reader_fail (He.fAd g.K ("Reader", some "fail")) fd ∧ Binds g.K fd ["self"] []
  m_Reader_fail : Meth g.K (g.N.cl g.K 4) "fail" (He.fAd g.K ("Reader", some "fail"))
  e_Reader_seen : ∃ fd, L2.Fun g.K "seen" "Reader.seen" st_Reader_seen (He.fAd g.K ("Reader", some "seen")) fd ∧ Binds g.K fd ["self"] []
  m_Reader_seen : Meth g.K (g.N.cl g.K 4) "seen" (He.fAd g.K ("Reader", some "seen"))
  e_Reader_count : ∃ fd, L2.Fun g.K "count" "Reader.count" st_Reader_count (He.fAd g.K ("Reader", some "count")) fd ∧ Binds g.K fd ["self"] []
  m_Reader_count : Meth g.K (g.N.cl g.K 4) "count" (He.fAd g.K ("Reader", some "count"))
  e_Reader_sign : ∃ fd, L2.Fun g.K "sign" "Reader.sign" st_Reader_sign (He.fAd g.K ("Reader", some "sign")) fd ∧ Binds g.K fd ["self", "sign"] []
  m_Reader_sign : Meth g.K (g.N.cl g.K 4) "sign" (He.fAd g.K ("Reader", some "sign"))
  e_Reader_tree : ∃ fd, L2.Fun g.K "tree" "Reader.tree" st_Reader_tree (He.fAd g.K ("Reader", some "tree")) fd ∧ Binds g.K fd ["self"] []
  m_Reader_tree : Meth g.K (g.N.cl g.K 4) "tree" (He.fAd g.K ("Reader", some "tree"))
  e_Reader_whole : ∃ fd, L2.Fun g.K "whole" "Reader.whole" st_Reader_whole (He.fAd g.K ("Reader", some "whole")) fd ∧ Binds g.K fd ["self"] []
  m_Reader_whole : Meth g.K (g.N.cl g.K 4) "whole" (He.fAd g.K ("Reader", some "whole"))
  e_read : ∃ fd, L2.Fun g.K "read" "read" st_read (He.fAd g.K ("read", none)) fd ∧ Binds g.K fd ["text"] []
  g_read : g.mg "read" = some (.ref (He.ga g.K "read"))
  e_law_taken : ∃ fd, L2.Fun g.K "_law_taken" "_law_taken" st_law_taken (He.fAd g.K ("_law_taken", none)) fd ∧ Binds g.K fd ["_law_row", "_law_many"] []
  g_law_taken : g.mg "_law_taken" = some (.ref (He.ga g.K "_law_taken"))
  e_law_calls : ∃ fd, L2.Fun g.K "_law_calls" "_law_calls" st_law_calls (He.fAd g.K ("_law_calls", none)) fd ∧ Binds g.K fd ["_law_state"] [] ∧ g.Lm fd.code "_law_calls"
  g_law_calls : g.mg "_law_calls" = some (.ref (He.ga g.K "_law_calls"))
  e_law_names : ∃ fd, L2.Fun g.K "_law_names" "_law_names" st_law_names (He.fAd g.K ("_law_names", none)) fd ∧ Binds g.K fd ["_law_state"] [] ∧ g.Lm fd.code "_law_names"
  g_law_names : g.mg "_law_names" = some (.ref (He.ga g.K "_law_names"))
  e_law : ∃ fd, L2.Fun g.K "law" "law" st_law (He.fAd g.K ("law", none)) fd ∧ Binds g.K fd ["_law_script"] [] ∧ g.Lm fd.code "law"
  g_law : g.mg "law" = some (.ref (He.ga g.K "law"))
  cls_Looker : ClsG g.N g.K 3
  cls_Reader : ClsG g.N g.K 4
theorem fx_of {g : G} {l : Nat} {T : Tab} (C : Cs g) (D : Ds g)
    (h0 : g.Fn l (He.fAd g.K ("is_number", none)) 2 (T 0))
    (h1 : g.Fn l (He.fAd g.K ("count_of", none)) 1 (T 1))
    (h2 : g.Fn l (He.fAd g.K ("is_form", none)) 1 (T 2))
    (h3 : g.Fn l (He.fAd g.K ("parts_of", none)) 1 (T 3))
    (h4 : g.Fn l (He.fAd g.K ("size_of", none)) 1 (T 4))
    (h5 : g.Fn l (He.fAd g.K ("Looker", some "__init__")) 3 (T 5))
    (h6 : g.Fn l (He.fAd g.K ("Looker", some "refuse")) 3 (T 6))
    (h7 : g.Fn l (He.fAd g.K ("Looker", some "depth")) 4 (T 7))
    (h8 : g.Fn l (He.fAd g.K ("Looker", some "inner_depths")) 4 (T 8))
    (h9 : g.Fn l (He.fAd g.K ("Looker", some "called")) 5 (T 9))
    (h10 : g.Fn l (He.fAd g.K ("depth_of", none)) 2 (T 10))
    (h11 : g.Fn l (He.fAd g.K ("is_face", none)) 1 (T 11))
    (h12 : g.Fn l (He.fAd g.K ("need_program", none)) 1 (T 12))
    (h13 : g.Fn l (He.fAd g.K ("faces", none)) 1 (T 13))
    (h14 : g.Fn l (He.fAd g.K ("Reader", some "__init__")) 3 (T 14))
    (h15 : g.Fn l (He.fAd g.K ("Reader", some "fail")) 1 (T 15))
    (h16 : g.Fn l (He.fAd g.K ("Reader", some "seen")) 1 (T 16))
    (h17 : g.Fn l (He.fAd g.K ("Reader", some "count")) 1 (T 17))
    (h18 : g.Fn l (He.fAd g.K ("Reader", some "sign")) 2 (T 18))
    (h19 : g.Fn l (He.fAd g.K ("Reader", some "tree")) 1 (T 19))
    (h20 : g.Fn l (He.fAd g.K ("Reader", some "whole")) 1 (T 20))
    (h21 : g.Fn l (He.fAd g.K ("read", none)) 1 (T 21))
    (h22 : g.Fn l (He.fAd g.K ("_law_taken", none)) 2 (T 22))
    (h23 : g.Fn l (He.fAd g.K ("_law_calls", none)) 1 (T 23))
    (h24 : g.Fn l (He.fAd g.K ("_law_names", none)) 1 (T 24))
    (h25 : g.Fn l (He.fAd g.K ("law", none)) 1 (T 25))
    : Fx g l T := by
  refine {f_is_number := ?_, f_count_of := ?_, f_is_form := ?_, f_parts_of := ?_, f_size_of := ?_, k_Looker := ?_, m_Looker_refuse := ?_, m_Looker_depth := ?_, m_Looker_inner_depths := ?_, m_Looker_called := ?_, f_depth_of := ?_, f_is_face := ?_, f_need_program := ?_, f_faces := ?_, k_Reader := ?_, m_Reader_fail := ?_, m_Reader_seen := ?_, m_Reader_count := ?_, m_Reader_sign := ?_, m_Reader_tree := ?_, m_Reader_whole := ?_, f_read := ?_, f_law_taken := ?_, f_law_calls := ?_, f_law_names := ?_, f_law := ?_ }
  · obtain ⟨fd, F, hb⟩ := D.e_is_number; exact ⟨⟨_, D.g_is_number, F.kp, h0⟩⟩
  · obtain ⟨fd, F, hb⟩ := D.e_count_of; exact ⟨⟨_, D.g_count_of, F.kp, h1⟩⟩
  · obtain ⟨fd, F, hb⟩ := D.e_is_form; exact ⟨⟨_, D.g_is_form, F.kp, h2⟩⟩
  · obtain ⟨fd, F, hb⟩ := D.e_parts_of; exact ⟨⟨_, D.g_parts_of, F.kp, h3⟩⟩
  · obtain ⟨fd, F, hb⟩ := D.e_size_of; exact ⟨⟨_, D.g_size_of, F.kp, h4⟩⟩
  · exact ⟨⟨_, D.k_Looker, h5⟩, D.g_Looker, D.cls_Looker⟩
  · exact ⟨⟨_, D.m_Looker_refuse, h6⟩, D.cls_Looker, by rw [C.an]; decide +kernel⟩
  · exact ⟨⟨_, D.m_Looker_depth, h7⟩, D.cls_Looker, by rw [C.an]; decide +kernel⟩
  · exact ⟨⟨_, D.m_Looker_inner_depths, h8⟩, D.cls_Looker, by rw [C.an]; decide +kernel⟩
  · exact ⟨⟨_, D.m_Looker_called, h9⟩, D.cls_Looker, by rw [C.an]; decide +kernel⟩
  · obtain ⟨fd, F, hb⟩ := D.e_depth_of; exact ⟨⟨_, D.g_depth_of, F.kp, h10⟩⟩
  · obtain ⟨fd, F, hb⟩ := D.e_is_face; exact ⟨⟨_, D.g_is_face, F.kp, h11⟩⟩
  · obtain ⟨fd, F, hb⟩ := D.e_need_program; exact ⟨⟨_, D.g_need_program, F.kp, h12⟩⟩
  · obtain ⟨fd, F, hb⟩ := D.e_faces; exact ⟨⟨_, D.g_faces, F.kp, h13⟩⟩
  · exact ⟨⟨_, D.k_Reader, h14⟩, D.g_Reader, D.cls_Reader⟩
  · exact ⟨⟨_, D.m_Reader_fail, h15⟩, D.cls_Reader, by rw [C.an]; decide +kernel⟩
  · exact ⟨⟨_, D.m_Reader_seen, h16⟩, D.cls_Reader, by rw [C.an]; decide +kernel⟩
  · exact ⟨⟨_, D.m_Reader_count, h17⟩, D.cls_Reader, by rw [C.an]; decide +kernel⟩
  · exact ⟨⟨_, D.m_Reader_sign, h18⟩, D.cls_Reader, by rw [C.an]; decide +kernel⟩
  · exact ⟨⟨_, D.m_Reader_tree, h19⟩, D.cls_Reader, by rw [C.an]; decide +kernel⟩
  · exact ⟨⟨_, D.m_Reader_whole, h20⟩, D.cls_Reader, by rw [C.an]; decide +kernel⟩
  · obtain ⟨fd, F, hb⟩ := D.e_read; exact ⟨⟨_, D.g_read, F.kp, h21⟩⟩
  · obtain ⟨fd, F, hb⟩ := D.e_law_taken; exact ⟨⟨_, D.g_law_taken, F.kp, h22⟩⟩
  · obtain ⟨fd, F, hb, _⟩ := D.e_law_calls; exact ⟨⟨_, D.g_law_calls, F.kp, h23⟩⟩
  · obtain ⟨fd, F, hb, _⟩ := D.e_law_names; exact ⟨⟨_, D.g_law_names, F.kp, h24⟩⟩
  · obtain ⟨fd, F, hb, _⟩ := D.e_law; exact ⟨⟨_, D.g_law, F.kp, h25⟩⟩
theorem bad_all {g : G} (C : Cs g) (D : Ds g) (l : Nat) : Fx g l (fun _ => badF) := by
  refine fx_of C D ?_ ?_ ?_ ?_ ?_ ?_ ?_ ?_ ?_ ?_ ?_ ?_ ?_ ?_ ?_ ?_ ?_ ?_ ?_ ?_ ?_ ?_ ?_ ?_ ?_ ?_
  · obtain ⟨fd, F, hb⟩ := D.e_is_number; exact bad_ok hb rfl
  · obtain ⟨fd, F, hb⟩ := D.e_count_of; exact bad_ok hb rfl
  · obtain ⟨fd, F, hb⟩ := D.e_is_form; exact bad_ok hb rfl
  · obtain ⟨fd, F, hb⟩ := D.e_parts_of; exact bad_ok hb rfl
  · obtain ⟨fd, F, hb⟩ := D.e_size_of; exact bad_ok hb rfl
  · obtain ⟨fd, F, hb⟩ := D.e_Looker_init; exact bad_ok hb rfl
  · obtain ⟨fd, F, hb⟩ := D.e_Looker_refuse; exact bad_ok hb rfl
  · obtain ⟨fd, F, hb⟩ := D.e_Looker_depth; exact bad_ok hb rfl
  · obtain ⟨fd, F, hb⟩ := D.e_Looker_inner_depths; exact bad_ok hb rfl
  · obtain ⟨fd, F, hb⟩ := D.e_Looker_called; exact bad_ok hb rfl
  · obtain ⟨fd, F, hb⟩ := D.e_depth_of; exact bad_ok hb rfl
  · obtain ⟨fd, F, hb⟩ := D.e_is_face; exact bad_ok hb rfl
  · obtain ⟨fd, F, hb⟩ := D.e_need_program; exact bad_ok hb rfl
  · obtain ⟨fd, F, hb⟩ := D.e_faces; exact bad_ok hb rfl
  · obtain ⟨fd, F, hb⟩ := D.e_Reader_init; exact bad_ok hb rfl
  · obtain ⟨fd, F, hb⟩ := D.e_Reader_fail; exact bad_ok hb rfl
  · obtain ⟨fd, F, hb⟩ := D.e_Reader_seen; exact bad_ok hb rfl
  · obtain ⟨fd, F, hb⟩ := D.e_Reader_count; exact bad_ok hb rfl
  · obtain ⟨fd, F, hb⟩ := D.e_Reader_sign; exact bad_ok hb rfl
  · obtain ⟨fd, F, hb⟩ := D.e_Reader_tree; exact bad_ok hb rfl
  · obtain ⟨fd, F, hb⟩ := D.e_Reader_whole; exact bad_ok hb rfl
  · obtain ⟨fd, F, hb⟩ := D.e_read; exact bad_ok hb rfl
  · obtain ⟨fd, F, hb⟩ := D.e_law_taken; exact bad_ok hb rfl
  · obtain ⟨fd, F, hb, _⟩ := D.e_law_calls; exact bad_ok hb rfl
  · obtain ⟨fd, F, hb, _⟩ := D.e_law_names; exact bad_ok hb rfl
  · obtain ⟨fd, F, hb, _⟩ := D.e_law; exact bad_ok hb rfl
theorem step_ok {g : G} {l : Nat} {T T1 : Tab} (C : Cs g) (V : Vs g) (D : Ds g) (F : Fx g (l + 2) T) (F1 : Fx g l T1) : Fx g (l + 4) (step T T1) := by
  refine fx_of C D ?_ ?_ ?_ ?_ ?_ ?_ ?_ ?_ ?_ ?_ ?_ ?_ ?_ ?_ ?_ ?_ ?_ ?_ ?_ ?_ ?_ ?_ ?_ ?_ ?_ ?_
  · obtain ⟨fd, f, hb⟩ := D.e_is_number; exact fn_ok f sc_is_number hb rfl fun X W c => d_is_number C V F F1 c
  · obtain ⟨fd, f, hb⟩ := D.e_count_of; exact fn_ok f sc_count_of hb rfl fun X W c => d_count_of C V F F1 c
  · obtain ⟨fd, f, hb⟩ := D.e_is_form; exact fn_ok f sc_is_form hb rfl fun X W c => d_is_form C V F F1 c
  · obtain ⟨fd, f, hb⟩ := D.e_parts_of; exact fn_ok f sc_parts_of hb rfl fun X W c => d_parts_of C V F F1 c
  · obtain ⟨fd, f, hb⟩ := D.e_size_of; exact fn_ok f sc_size_of hb rfl fun X W c => d_size_of C V F F1 c
  · obtain ⟨fd, f, hb⟩ := D.e_Looker_init; exact fn_ok f sc_Looker_init hb rfl fun X W c => d_Looker_init C V F F1 c
  · obtain ⟨fd, f, hb⟩ := D.e_Looker_refuse; exact fn_ok f sc_Looker_refuse hb rfl fun X W c => d_Looker_refuse C V F F1 c
  · obtain ⟨fd, f, hb⟩ := D.e_Looker_depth; exact fn_ok f sc_Looker_depth hb rfl fun X W c => d_Looker_depth C V F F1 c
  · obtain ⟨fd, f, hb⟩ := D.e_Looker_inner_depths; exact fn_ok f sc_Looker_inner_depths hb rfl fun X W c => d_Looker_inner_depths C V F F1 c
  · obtain ⟨fd, f, hb⟩ := D.e_Looker_called; exact fn_ok f sc_Looker_called hb rfl fun X W c => d_Looker_called C V F F1 c
  · obtain ⟨fd, f, hb⟩ := D.e_depth_of; exact fn_ok f sc_depth_of hb rfl fun X W c => d_depth_of C V F F1 c
  · obtain ⟨fd, f, hb⟩ := D.e_is_face; exact fn_ok f sc_is_face hb rfl fun X W c => d_is_face C V F F1 c
  · obtain ⟨fd, f, hb⟩ := D.e_need_program; exact fn_ok f sc_need_program hb rfl fun X W c => d_need_program C V F F1 c
  · obtain ⟨fd, f, hb⟩ := D.e_faces; exact fn_ok f sc_faces hb rfl fun X W c => d_faces C V F F1 c
  · obtain ⟨fd, f, hb⟩ := D.e_Reader_init; exact fn_ok f sc_Reader_init hb rfl fun X W c => d_Reader_init C V F F1 c
  · obtain ⟨fd, f, hb⟩ := D.e_Reader_fail; exact fn_ok f sc_Reader_fail hb rfl fun X W c => d_Reader_fail C V F F1 c
  · obtain ⟨fd, f, hb⟩ := D.e_Reader_seen; exact fn_ok f sc_Reader_seen hb rfl fun X W c => d_Reader_seen C V F F1 c
  · obtain ⟨fd, f, hb⟩ := D.e_Reader_count; exact fn_ok f sc_Reader_count hb rfl fun X W c => d_Reader_count C V F F1 c
  · obtain ⟨fd, f, hb⟩ := D.e_Reader_sign; exact fn_ok f sc_Reader_sign hb rfl fun X W c => d_Reader_sign C V F F1 c
  · obtain ⟨fd, f, hb⟩ := D.e_Reader_tree; exact fn_ok f sc_Reader_tree hb rfl fun X W c => d_Reader_tree C V F F1 c
  · obtain ⟨fd, f, hb⟩ := D.e_Reader_whole; exact fn_ok f sc_Reader_whole hb rfl fun X W c => d_Reader_whole C V F F1 c
  · obtain ⟨fd, f, hb⟩ := D.e_read; exact fn_ok f sc_read hb rfl fun X W c => d_read C V F F1 c
  · obtain ⟨fd, f, hb⟩ := D.e_law_taken; exact fn_ok f sc_law_taken hb rfl fun X W c => d_law_taken C V F F1 c
  · obtain ⟨fd, f, hb, lm⟩ := D.e_law_calls; exact fn_ok f sc_law_calls hb rfl fun X W c => d_law_calls C V F F1 lm c
  · obtain ⟨fd, f, hb, lm⟩ := D.e_law_names; exact fn_ok f sc_law_names hb rfl fun X W c => d_law_names C V F F1 lm c
  · obtain ⟨fd, f, hb, lm⟩ := D.e_law; exact fn_ok f sc_law hb rfl fun X W c => d_law C V F F1 lm c
theorem all_ok {g : G} (C : Cs g) (V : Vs g) (D : Ds g) : ∀ j, Fx g (2 * j + 2) (tabs j).1 ∧ Fx g (2 * j) (tabs j).2
  | 0 => ⟨bad_all C D _, bad_all C D _⟩
  | j + 1 => by
    obtain ⟨h1, h2⟩ := all_ok C V D j
    exact ⟨step_ok C V D h1 h2, h1⟩
theorem ds_of {g : G} {w : World} {h : Heap} (S : hsp.Says w h g.K) (hM : h.Ns mainGlobals g.mg) (hw : g.w = w) (hN : g.N = Nm0 g.K) (C : Cs g) (hT : ∀ p ∈ tbL.map (tabOf g.K), LamX.TabB g.base g.mg p.1 p.2) : Ds g := by
  have cl : ∀ c, g.N.cl g.K c = He.ga g.K (cnL.getD c Str.empty) := fun c => by unfold Nm.cl; rw [C.cn]
  refine { e_is_number := ?_, g_is_number := ?_, e_count_of := ?_, g_count_of := ?_, e_is_form := ?_, g_is_form := ?_, e_parts_of := ?_, g_parts_of := ?_, e_size_of := ?_, g_size_of := ?_, e_Looker_init := ?_, g_Looker := ?_, k_Looker := ?_, e_Looker_refuse := ?_, m_Looker_refuse := ?_, e_Looker_depth := ?_, m_Looker_depth := ?_, e_Looker_inner_depths := ?_, m_Looker_inner_depths := ?_, e_Looker_called := ?_, m_Looker_called := ?_, e_depth_of := ?_, g_depth_of := ?_, e_is_face := ?_, g_is_face := ?_, e_need_program := ?_, g_need_program := ?_, e_faces := ?_, g_faces := ?_, e_Reader_init := ?_, g_Reader := ?_, k_Reader := ?_, e_Reader_fail := ?_, m_Reader_fail := ?_, e_Reader_seen := ?_, m_Reader_seen := ?_, e_Reader_count := ?_, m_Reader_count := ?_, e_Reader_sign := ?_, m_Reader_sign := ?_, e_Reader_tree := ?_, m_Reader_tree := ?_, e_Reader_whole := ?_, m_Reader_whole := ?_, e_read := ?_, g_read := ?_, e_law_taken := ?_, g_law_taken := ?_, e_law_calls := ?_, g_law_calls := ?_, e_law_names := ?_, g_law_names := ?_, e_law := ?_, g_law := ?_, cls_Looker := cls_Looker S hM hw hN, cls_Reader := cls_Reader S hM hw hN }
  · obtain ⟨fd, F, hb⟩ := def_at S.says.d 0 (st := st_is_number) rfl ["part", "most"] (fun _ _ _ _ _ _ us hl => match us, hl with | [_, _], _ => rfl); exact ⟨fd, F, hb⟩
  · exact He.glo_ok S.kin hM (S.says.d.fact 0 rfl)
  · obtain ⟨fd, F, hb⟩ := def_at S.says.d 1 (st := st_count_of) rfl ["word"] (fun _ _ _ _ _ _ us hl => match us, hl with | [_], _ => rfl); exact ⟨fd, F, hb⟩
  · exact He.glo_ok S.kin hM (S.says.d.fact 1 rfl)
  · obtain ⟨fd, F, hb⟩ := def_at S.says.d 2 (st := st_is_form) rfl ["tree"] (fun _ _ _ _ _ _ us hl => match us, hl with | [_], _ => rfl); exact ⟨fd, F, hb⟩
  · exact He.glo_ok S.kin hM (S.says.d.fact 2 rfl)
  · obtain ⟨fd, F, hb⟩ := def_at S.says.d 3 (st := st_parts_of) rfl ["tree"] (fun _ _ _ _ _ _ us hl => match us, hl with | [_], _ => rfl); exact ⟨fd, F, hb⟩
  · exact He.glo_ok S.kin hM (S.says.d.fact 3 rfl)
  · obtain ⟨fd, F, hb⟩ := def_at S.says.d 4 (st := st_size_of) rfl ["tree"] (fun _ _ _ _ _ _ us hl => match us, hl with | [_], _ => rfl); exact ⟨fd, F, hb⟩
  · exact He.glo_ok S.kin hM (S.says.d.fact 4 rfl)
  · obtain ⟨fd, F, hb⟩ := def_at S.says.d 5 (st := st_Looker_init) rfl ["self", "program", "number"] (fun _ _ _ _ _ _ us hl => match us, hl with | [_, _, _], _ => rfl); exact ⟨fd, F, hb⟩
  · rw [cl]; exact He.glo_ok S.kin hM (S.says.d.fact 18 rfl)
  · rw [cl]; exact He.mkr_ok (S.says.d.fact 59 rfl)
  · obtain ⟨fd, F, hb⟩ := def_at S.says.d 6 (st := st_Looker_refuse) rfl ["self", "place", "word"] (fun _ _ _ _ _ _ us hl => match us, hl with | [_, _, _], _ => rfl); exact ⟨fd, F, hb⟩
  · rw [cl]; exact He.meth_ok (S.says.d.fact 49 rfl)
  · obtain ⟨fd, F, hb⟩ := def_at S.says.d 7 (st := st_Looker_depth) rfl ["self", "tree", "known", "within"] (fun _ _ _ _ _ _ us hl => match us, hl with | [_, _, _, _], _ => rfl); exact ⟨fd, F, hb⟩
  · rw [cl]; exact He.meth_ok (S.says.d.fact 50 rfl)
  · obtain ⟨fd, F, hb⟩ := def_at S.says.d 8 (st := st_Looker_inner_depths) rfl ["self", "tree", "known", "within"] (fun _ _ _ _ _ _ us hl => match us, hl with | [_, _, _, _], _ => rfl); exact ⟨fd, F, hb⟩
  · rw [cl]; exact He.meth_ok (S.says.d.fact 51 rfl)
  · obtain ⟨fd, F, hb⟩ := def_at S.says.d 9 (st := st_Looker_called) rfl ["self", "here", "tree", "known", "within"] (fun _ _ _ _ _ _ us hl => match us, hl with | [_, _, _, _, _], _ => rfl); exact ⟨fd, F, hb⟩
  · rw [cl]; exact He.meth_ok (S.says.d.fact 52 rfl)
  · obtain ⟨fd, F, hb⟩ := def_at S.says.d 10 (st := st_depth_of) rfl ["word", "found"] (fun _ _ _ _ _ _ us hl => match us, hl with | [_, _], _ => rfl); exact ⟨fd, F, hb⟩
  · exact He.glo_ok S.kin hM (S.says.d.fact 5 rfl)
  · obtain ⟨fd, F, hb⟩ := def_at S.says.d 11 (st := st_is_face) rfl ["function"] (fun _ _ _ _ _ _ us hl => match us, hl with | [_], _ => rfl); exact ⟨fd, F, hb⟩
  · exact He.glo_ok S.kin hM (S.says.d.fact 6 rfl)
  · obtain ⟨fd, F, hb⟩ := def_at S.says.d 12 (st := st_need_program) rfl ["program"] (fun _ _ _ _ _ _ us hl => match us, hl with | [_], _ => rfl); exact ⟨fd, F, hb⟩
  · exact He.glo_ok S.kin hM (S.says.d.fact 7 rfl)
  · obtain ⟨fd, F, hb⟩ := def_at S.says.d 13 (st := st_faces) rfl ["program"] (fun _ _ _ _ _ _ us hl => match us, hl with | [_], _ => rfl); exact ⟨fd, F, hb⟩
  · exact He.glo_ok S.kin hM (S.says.d.fact 8 rfl)
  · obtain ⟨fd, F, hb⟩ := def_at S.says.d 14 (st := st_Reader_init) rfl ["self", "row", "text"] (fun _ _ _ _ _ _ us hl => match us, hl with | [_, _, _], _ => rfl); exact ⟨fd, F, hb⟩
  · rw [cl]; exact He.glo_ok S.kin hM (S.says.d.fact 19 rfl)
  · rw [cl]; exact He.mkr_ok (S.says.d.fact 60 rfl)
  · obtain ⟨fd, F, hb⟩ := def_at S.says.d 15 (st := st_Reader_fail) rfl ["self"] (fun _ _ _ _ _ _ us hl => match us, hl with | [_], _ => rfl); exact ⟨fd, F, hb⟩
  · rw [cl]; exact He.meth_ok (S.says.d.fact 53 rfl)
  · obtain ⟨fd, F, hb⟩ := def_at S.says.d 16 (st := st_Reader_seen) rfl ["self"] (fun _ _ _ _ _ _ us hl => match us, hl with | [_], _ => rfl); exact ⟨fd, F, hb⟩
  · rw [cl]; exact He.meth_ok (S.says.d.fact 54 rfl)
  · obtain ⟨fd, F, hb⟩ := def_at S.says.d 17 (st := st_Reader_count) rfl ["self"] (fun _ _ _ _ _ _ us hl => match us, hl with | [_], _ => rfl); exact ⟨fd, F, hb⟩
  · rw [cl]; exact He.meth_ok (S.says.d.fact 55 rfl)
  · obtain ⟨fd, F, hb⟩ := def_at S.says.d 18 (st := st_Reader_sign) rfl ["self", "sign"] (fun _ _ _ _ _ _ us hl => match us, hl with | [_, _], _ => rfl); exact ⟨fd, F, hb⟩
  · rw [cl]; exact He.meth_ok (S.says.d.fact 56 rfl)
  · obtain ⟨fd, F, hb⟩ := def_at S.says.d 19 (st := st_Reader_tree) rfl ["self"] (fun _ _ _ _ _ _ us hl => match us, hl with | [_], _ => rfl); exact ⟨fd, F, hb⟩
  · rw [cl]; exact He.meth_ok (S.says.d.fact 57 rfl)
  · obtain ⟨fd, F, hb⟩ := def_at S.says.d 20 (st := st_Reader_whole) rfl ["self"] (fun _ _ _ _ _ _ us hl => match us, hl with | [_], _ => rfl); exact ⟨fd, F, hb⟩
  · rw [cl]; exact He.meth_ok (S.says.d.fact 58 rfl)
  · obtain ⟨fd, F, hb⟩ := def_at S.says.d 21 (st := st_read) rfl ["text"] (fun _ _ _ _ _ _ us hl => match us, hl with | [_], _ => rfl); exact ⟨fd, F, hb⟩
  · exact He.glo_ok S.kin hM (S.says.d.fact 9 rfl)
  · obtain ⟨fd, F, hb⟩ := def_at S.says.d 22 (st := st_law_taken) rfl ["_law_row", "_law_many"] (fun _ _ _ _ _ _ us hl => match us, hl with | [_, _], _ => rfl); exact ⟨fd, F, hb⟩
  · exact He.glo_ok S.kin hM (S.says.d.fact 10 rfl)
  · obtain ⟨fd, F, hb⟩ := def_at S.says.d 23 (st := st_law_calls) rfl ["_law_state"] (fun _ _ _ _ _ _ us hl => match us, hl with | [_], _ => rfl); exact ⟨fd, F, hb, lm_of S (by rw [hN]; rfl) hT (by decide +kernel) F⟩
  · exact He.glo_ok S.kin hM (S.says.d.fact 11 rfl)
  · obtain ⟨fd, F, hb⟩ := def_at S.says.d 24 (st := st_law_names) rfl ["_law_state"] (fun _ _ _ _ _ _ us hl => match us, hl with | [_], _ => rfl); exact ⟨fd, F, hb, lm_of S (by rw [hN]; rfl) hT (by decide +kernel) F⟩
  · exact He.glo_ok S.kin hM (S.says.d.fact 12 rfl)
  · obtain ⟨fd, F, hb⟩ := def_at S.says.d 25 (st := st_law) rfl ["_law_script"] (fun _ _ _ _ _ _ us hl => match us, hl with | [_], _ => rfl); exact ⟨fd, F, hb, lm_of S (by rw [hN]; rfl) hT (by decide +kernel) F⟩
  · exact He.glo_ok S.kin hM (S.says.d.fact 13 rfl)
/-! ## the law -/
def lawF : List D → M D := fnF 6 (b_law (tabs 40).1 (tabs 40).2)
abbrev Lw : PySem.W.OpenLaw := PySem.Challenge.rw_nestrows_k22_corners_told_by_hand
theorem law_at {w : World} {mg : Str → Option Value} {fa : Addr} {h : Heap} (Y : ∃ K : PySem.W.Frag, hsp.Says w h K) (hM : h.Ns mainGlobals mg) (hmg : mg "law" = some (.ref fa)) (pure_ : ∀ ns : List Int, ns.length ≤ 63 → ∃ s, lawF [.scr ns] [] = .ok (.bl true) s) :
    ∃ K : PySem.W.Frag, K.In h ∧ LamX.LawAtS Lw w K (L2.CX Lw.prog w) 84 63 "_law_script" mg fa h := by
  obtain ⟨K, S⟩ := Y
  obtain ⟨fd, FD⟩ := S.says.d.def_ 25 (d := ⟨("law", none), "law", "law", defArgs st_law, defBody st_law, defScope st_law, [], []⟩) rfl
  have b := FunD.bindsA (ps := ["_law_script"]) FD fun _ _ _ _ _ _ us hl => match us, hl with | [_], _ => rfl
  have hb := FD.bindsN (ps := ["_law_script"]) fun _ _ _ _ _ _ us hl => match us, hl with | [_], _ => rfl
  have F : L2.Fun K "law" "law" st_law (He.fAd K ("law", none)) fd := He5.fun_of (st := st_law) FD
  have e := hmg.symm.trans (He.glo_ok S.kin hM (S.says.d.fact 13 (f := .glo "law") rfl))
  cases e
  refine ⟨K, S.kin, fd, tbL.map (tabOf K), spS (Nm0 K) K lawF, fun p hp => ?_, fun p hp => ?_, fun p hp => ?_, fun s u => b s [u] rfl, fun H a ns hl _ hH hS => ⟨a, ns, rfl, hS, fun p hp => ?_, pure_ ns hl, fun _ => rfl⟩, fun base hK hB hT => ?_⟩
  · obtain ⟨x, hx, rfl⟩ := List.mem_map.mp hp; exact (S.tab x hx).1
  · obtain ⟨x, hx, rfl⟩ := List.mem_map.mp hp; exact (S.tab x hx).2.1
  · obtain ⟨x, hx, rfl⟩ := List.mem_map.mp hp; exact PySem.W.codeHd_of_K S.kin (S.tab x hx).2.2
  · obtain ⟨x, hx, rfl⟩ := List.mem_map.mp hp; exact LamX.TabS.nil (hH _ (List.mem_map.mpr ⟨x, hx, rfl⟩))
  · have C : Cs (G.mk Lw.prog w K mg base (Nm0 K) rfl) := cs_of S hM rfl rfl
    have V : Vs (G.mk Lw.prog w K mg base (Nm0 K) rfl) := vs_of S hM rfl C
    have D : Ds (G.mk Lw.prog w K mg base (Nm0 K) rfl) := ds_of S hM rfl rfl C hT
    obtain ⟨h1, h2⟩ := all_ok C V D 40
    have lm : (G.mk Lw.prog w K mg base (Nm0 K) rfl).Lm fd.code "law" := lm_of (g := G.mk Lw.prog w K mg base (Nm0 K) rfl) S rfl hT (by decide +kernel) F
    exact law_fn rfl (fn_okP (g := G.mk Lw.prog w K mg base (Nm0 K) rfl) F sc_law hb rfl fun X W c => d_law C V h1 h2 lm c) rfl
end K22
set_option Elab.async false
set_option linter.all false
set_option maxRecDepth 100000
set_option maxHeartbeats 4000000
namespace K22
open PySem L2 Mi
abbrev stt (ns : List Int) (a b c : Int) : S := [.lst [.scr ns, .int a, .int b, .int c]]
theorem ix3 (ns : List Int) (a b c : Int) : L2.atI [D.scr ns, .int a, .int b, .int c] 3 = some (.int c) := rfl
theorem ix2 (ns : List Int) (a b c : Int) : L2.atI [D.scr ns, .int a, .int b, .int c] 2 = some (.int b) := rfl
theorem ix1 (ns : List Int) (a b c : Int) : L2.atI [D.scr ns, .int a, .int b, .int c] 1 = some (.int a) := rfl
theorem ix0 (ns : List Int) (a b c : Int) : L2.atI [D.scr ns, .int a, .int b, .int c] 0 = some (.scr ns) := rfl
theorem ixn3 : L2.ixN 4 3 = some 3 := rfl
theorem ixn2 : L2.ixN 4 2 = some 2 := rfl
theorem ixn1 : L2.ixN 4 1 = some 1 := rfl
theorem atI_len {ns : List Int} {i : Int} (h0 : 0 ≤ i) (h1 : i < ns.length) : L2.atI (ns.map D.int) i = some (.int (ns.getD i.toNat 0)) := by
  unfold L2.atI L2.ixN
  rw [if_pos h0, if_pos (by simpa using h1)]
  have : i.toNat < ns.length := by omega
  simp [List.getElem?_map, List.getElem?_eq_getElem this, List.getD]
theorem taken (T T1 : Tab) {ns : List Int} {a b c m : Int} (ha : 0 ≤ a) (hm : 0 < m) (hm2 : m < 1073741824) :
    ∃ v a' b' c', fnF 4 (b_law_taken T T1) [.ref 0, .int m] (stt ns a b c) = .ok (.int v) (stt ns a' b' c') ∧ 0 ≤ v ∧ v < m ∧ 0 ≤ a' := by
  by_cases hc : 0 < c
  · refine ⟨c % m, a, b, c / m, ?_, Int.emod_nonneg _ (by omega), Int.emod_lt_of_pos _ hm, ha⟩
    simp [fnF, runB, b_law_taken, seqS, s_law_taken_0, ifS, tstE, binE, idxD, vE, cE, gtD, toB, R.bind, R.bs, SR.seq, setS, setL, modD, fdivD, hc, hm, hm2, retS, itemsOf, gc, okOld, below, O.refs, D.refs, refsL, ix3, ixn3]
  · by_cases hl : (ns.length : Int) < a + 1
    · refine ⟨(b * 48271 + 11) % 2147483647 / 7 % m, a + 1, (b * 48271 + 11) % 2147483647, c, ?_, Int.emod_nonneg _ (by omega), Int.emod_lt_of_pos _ hm, by omega⟩
      simp [fnF, runB, b_law_taken, seqS, s_law_taken_0, s_law_taken_1, s_law_taken_2, ifS, tstE, binE, idxD, vE, cE, gtD, toB, R.bind, R.bs, SR.seq, setS, setL, modD, fdivD, addD, mulD, mulOk, hc, hm, hm2, hl, retS, nilS, itemsOf, gc, okOld, below, O.refs, D.refs, refsL, callE, argsE, consA, nilA, lenD, ix3, ix2, ix1, ix0, ixn3, ixn2, ixn1]
    · have hi := atI_len (ns := ns) (i := a) ha (by omega)
      generalize ns.getD a.toNat 0 = cell at hi
      by_cases hp : (10 : Int) ^ 18 ≤ cell
      · refine ⟨cell % m, a + 1, (b * 48271 + cell + 11) % 2147483647, cell / m, ?_, Int.emod_nonneg _ (by omega), Int.emod_lt_of_pos _ hm, by omega⟩
        have hp' : (1000000000000000000 : Int) ≤ cell := by omega
        simp [fnF, runB, b_law_taken, seqS, s_law_taken_0, s_law_taken_1, s_law_taken_2, s_law_taken_3, s_law_taken_4, s_law_taken_5, s_law_taken_6, ifS, ifE, tstE, binE, idxD, vE, cE, gtD, geD, powD, toB, R.bind, R.bs, SR.seq, setS, setL, modD, fdivD, addD, subD, mulD, mulOk, hc, hm, hm2, hl, hp', hi, retS, nilS, itemsOf, gc, okOld, below, O.refs, D.refs, refsL, callE, argsE, consA, nilA, lenD, ix3, ix2, ix1, ix0, ixn3, ixn2, ixn1]
      · refine ⟨cell % m, a + 1, (b * 48271 + cell + 11) % 2147483647, 0, ?_, Int.emod_nonneg _ (by omega), Int.emod_lt_of_pos _ hm, by omega⟩
        have hp' : ¬ (1000000000000000000 : Int) ≤ cell := by omega
        simp [fnF, runB, b_law_taken, seqS, s_law_taken_0, s_law_taken_1, s_law_taken_2, s_law_taken_3, s_law_taken_4, s_law_taken_5, s_law_taken_6, ifS, ifE, tstE, binE, idxD, vE, cE, gtD, geD, powD, toB, R.bind, R.bs, SR.seq, setS, setL, modD, fdivD, addD, subD, mulD, mulOk, hc, hm, hm2, hl, hp', hi, retS, nilS, itemsOf, gc, okOld, below, O.refs, D.refs, refsL, callE, argsE, consA, nilA, lenD, ix3, ix2, ix1, ix0, ixn3, ixn2, ixn1]
/-! ## _law_calls -/
abbrev TA := (tabs 39).1
abbrev TB := (tabs 39).2
theorem TA22 : TA 22 = fnF 4 (b_law_taken (tabs 38).1 (tabs 38).2) := by kernel_rfl
abbrev shortD : D := .tup [.tup [], .int 0, .tup [.str "num", .int 7]]
abbrev lastD : D := .tup [.tup [], .int 0, .tup [.str "call", .int 8, .tup []]]
def etaA (k : Int) : Ev := [some (.ref 0), some (.int k), none, none, none, none, none, none, none, none, none, none, none, none, none]
def etaB (k : Int) : Ev := [some (.ref 0), some (.int k), some shortD, some (.int 8), some (.tup [.int k, .int 0, .str "form"]), some lastD, none, none, none, none, none, none, none, none, none]
theorem calls_a1 (ns : List Int) (a b c : Int) : seqS (s_law_calls_1 TA TB) (s_law_calls_2 TA TB) (etaA 1) (stt ns a b c) = .nx (etaB 1) (stt ns a b c) := by kernel_rfl
theorem calls_a2 (ns : List Int) (a b c : Int) : seqS (s_law_calls_1 TA TB) (s_law_calls_2 TA TB) (etaA 2) (stt ns a b c) = .nx (etaB 2) (stt ns a b c) := by kernel_rfl
theorem calls_a3 (ns : List Int) (a b c : Int) : seqS (s_law_calls_1 TA TB) (s_law_calls_2 TA TB) (etaA 3) (stt ns a b c) = .nx (etaB 3) (stt ns a b c) := by kernel_rfl
theorem calls_a4 (ns : List Int) (a b c : Int) : seqS (s_law_calls_1 TA TB) (s_law_calls_2 TA TB) (etaA 4) (stt ns a b c) = .nx (etaB 4) (stt ns a b c) := by kernel_rfl
def etaC (x1 x2 x3 x4 x5 : Option D) (k : Int) : Ev := [some (.ref 0), x1, x2, x3, x4, x5, some (.int k), none, none, none, none, none, none, none, none]
abbrev restC : SF := seqS (s_law_calls_4 TA TB) (seqS (s_law_calls_5 TA TB) (seqS (s_law_calls_6 TA TB) (seqS (s_law_calls_7 TA TB) (seqS (s_law_calls_8 TA TB) (s_law_calls_9 TA TB)))))
theorem calls_b1 (x1 x2 x3 x4 x5 : Option D) (ns : List Int) (a0 b0 c0 a b c : Int) : gc (stt ns a0 b0 c0) (restC (etaC x1 x2 x3 x4 x5 1) (stt ns a b c)).out = .ok (.bl true) (stt ns a b c) := by kernel_rfl
theorem calls_b2 (x1 x2 x3 x4 x5 : Option D) (ns : List Int) (a0 b0 c0 a b c : Int) : gc (stt ns a0 b0 c0) (restC (etaC x1 x2 x3 x4 x5 2) (stt ns a b c)).out = .ok (.bl true) (stt ns a b c) := by kernel_rfl
theorem calls_b3 (x1 x2 x3 x4 x5 : Option D) (ns : List Int) (a0 b0 c0 a b c : Int) : gc (stt ns a0 b0 c0) (restC (etaC x1 x2 x3 x4 x5 3) (stt ns a b c)).out = .ok (.bl true) (stt ns a b c) := by kernel_rfl
theorem calls_b4 (x1 x2 x3 x4 x5 : Option D) (ns : List Int) (a0 b0 c0 a b c : Int) : gc (stt ns a0 b0 c0) (restC (etaC x1 x2 x3 x4 x5 4) (stt ns a b c)).out = .ok (.bl true) (stt ns a b c) := by kernel_rfl
theorem seq_nx {f g : SF} {η η' : Ev} {s s' : S} (h : f η s = .nx η' s') : seqS f g η s = g η' s' := by unfold seqS; rw [h]; rfl
theorem seq_assoc (f g h : SF) (η : Ev) (s : S) : seqS f (seqS g h) η s = seqS (seqS f g) h η s := by
  unfold seqS
  cases f η s <;> rfl
theorem draw (F : List D → M D) (m : Int) (η : Ev) (s : S) : callE (appF F) (argsE [vE 0, cE (.int m)]) (some (.ref 0) :: η) s = F [.ref 0, .int m] s := rfl
theorem one_more {F : List D → M D} {m v : Int} {i : Nat} {η : Ev} {s s' : S} (h : F [.ref 0, .int m] s = .ok (.int v) s') :
    setS i (binE addD (cE (.int 1)) (callE (appF F) (argsE [vE 0, cE (.int m)]))) (some (.ref 0) :: η) s = .nx ((some (.ref 0) :: η).set i (some (.int (1 + v)))) s' := by
  simp only [setS, binE, cE, R.bind]
  rw [draw, h]
  rfl
theorem calls_ok {ns : List Int} {a b c : Int} (ha : 0 ≤ a) : ∃ a' b' c', fnF 15 (b_law_calls TA TB) [.ref 0] (stt ns a b c) = .ok (.bl true) (stt ns a' b' c') ∧ 0 ≤ a' := by
  obtain ⟨v, a1, b1, c1, h1, v0, v1, ha1⟩ := taken (tabs 38).1 (tabs 38).2 (ns := ns) (a := a) (b := b) (c := c) (m := 4) ha (by omega) (by omega)
  obtain ⟨u, a2, b2, c2, h2, u0, u1, ha2⟩ := taken (tabs 38).1 (tabs 38).2 (ns := ns) (a := a1) (b := b1) (c := c1) (m := 4) ha1 (by omega) (by omega)
  rw [← TA22] at h1 h2
  refine ⟨a2, b2, c2, ?_, ha2⟩
  have e0 : s_law_calls_0 TA TB (etaA 0 |>.set 1 none) (stt ns a b c) = .nx (etaA (1 + v)) (stt ns a1 b1 c1) := one_more h1
  have ea : ∃ x1 x2 x3 x4 x5, seqS (s_law_calls_1 TA TB) (s_law_calls_2 TA TB) (etaA (1 + v)) (stt ns a1 b1 c1) = .nx [some (.ref 0), x1, x2, x3, x4, x5, none, none, none, none, none, none, none, none, none] (stt ns a1 b1 c1) := by
    have hv : v = 0 ∨ v = 1 ∨ v = 2 ∨ v = 3 := by omega
    rcases hv with rfl | rfl | rfl | rfl
    · exact ⟨_, _, _, _, _, calls_a1 ns a1 b1 c1⟩
    · exact ⟨_, _, _, _, _, calls_a2 ns a1 b1 c1⟩
    · exact ⟨_, _, _, _, _, calls_a3 ns a1 b1 c1⟩
    · exact ⟨_, _, _, _, _, calls_a4 ns a1 b1 c1⟩
  obtain ⟨x1, x2, x3, x4, x5, ea⟩ := ea
  have e3 : s_law_calls_3 TA TB [some (.ref 0), x1, x2, x3, x4, x5, none, none, none, none, none, none, none, none, none] (stt ns a1 b1 c1) = .nx (etaC x1 x2 x3 x4 x5 (1 + u)) (stt ns a2 b2 c2) := one_more h2
  show gc (stt ns a b c) (SR.out (seqS (s_law_calls_0 TA TB) (seqS (s_law_calls_1 TA TB) (seqS (s_law_calls_2 TA TB) (seqS (s_law_calls_3 TA TB) restC))) (etaA 0 |>.set 1 none) (stt ns a b c))) = _
  rw [seq_nx e0, seq_assoc, seq_nx ea, seq_nx e3]
  have hu : u = 0 ∨ u = 1 ∨ u = 2 ∨ u = 3 := by omega
  rcases hu with rfl | rfl | rfl | rfl
  · exact calls_b1 ..
  · exact calls_b2 ..
  · exact calls_b3 ..
  · exact calls_b4 ..
end K22
set_option Elab.async false
set_option linter.all false
set_option maxRecDepth 100000
set_option maxHeartbeats 4000000
namespace K22
open PySem L2 Mi
theorem isnum (T T1 : Tab) (x m : Int) : fnF 2 (b_is_number T T1) [.int x, .int m] [] = .ok (.bl (decide (0 ≤ x) && decide (x ≤ m))) [] := by
  by_cases h : 0 ≤ x <;> simp [fnF, runB, seqS, ifS, ifE, tstE, binE, vE, cE, toB, R.bind, R.bs, SR.seq, setS, retS, exprS, nilS, unpS, tgT, tgN, setMany, slE, noO, yesO, toI, callE, argsE, consA, nilA, andB, orB, notB, andV, orV, notV, chE, forS, forR, loop, gc, okOld, below, O.refs, D.refs, refsL, gtD, ltD, leD, geD, isiE, tyD, isT, lenD, itemsOf, itemsI, chkOf, rng1, rngL, small62, lstE, tupE, lcE, lcL, srcV, yesB, wipeE, raiseS, negE, neD, eqD, eqS, idxD, L2.atI, L2.ixN, lenSetE, lstInts, intsOf, dedupI, PyProof.Rows.step_dedup, subD, addD, mulD, modD, b_is_number, s_is_number_0, h]
abbrev NumOk (T : Tab) : Prop := ∀ x m : Int, T 0 [.int x, .int m] [] = .ok (.bl (decide (0 ≤ x) && decide (x ≤ m))) []
theorem num_ap {T : Tab} (hT : NumOk T) (x m : Int) : appF (T 0) [.int x, .int m] [] = .ok (.bl (decide (0 ≤ x) && decide (x ≤ m))) [] := by
  unfold appF
  simp [fnF, runB, seqS, ifS, ifE, tstE, binE, vE, cE, toB, R.bind, R.bs, SR.seq, setS, retS, exprS, nilS, unpS, tgT, tgN, setMany, slE, noO, yesO, toI, callE, argsE, consA, nilA, andB, orB, notB, andV, orV, notV, chE, forS, forR, loop, gc, okOld, below, O.refs, D.refs, refsL, gtD, ltD, leD, geD, isiE, tyD, isT, lenD, itemsOf, itemsI, chkOf, rng1, rngL, small62, lstE, tupE, lcE, lcL, srcV, yesB, wipeE, raiseS, negE, neD, eqD, eqS, idxD, L2.atI, L2.ixN, lenSetE, lstInts, intsOf, dedupI, PyProof.Rows.step_dedup, subD, addD, mulD, modD, hT x m]
/-- two params -/
theorem face2 (T T1 : Tab) (hT : NumOk T) {a b c d : Int} (bd : D) (a0 : 0 ≤ a) (a1 : a ≤ 19) (b0 : 0 ≤ b) (b1 : b ≤ 3) (c0 : 0 ≤ c) (c1 : c ≤ 19) (d0 : 0 ≤ d) (d1 : d ≤ 3) :
    fnF 6 (b_is_face T T1) [.tup [.tup [.tup [.int a, .int b], .tup [.int c, .int d]], .int 0, bd]] [] = .ok (.bl (decide (a ≠ c))) [] := by
  have e0 : s_is_face_0 T T1 [some (.tup [.tup [.tup [.int a, .int b], .tup [.int c, .int d]], .int 0, bd]), none, none, none, none, none] [] = .nx [some (.tup [.tup [.tup [.int a, .int b], .tup [.int c, .int d]], .int 0, bd]), some (.tup [.tup [.int a, .int b], .tup [.int c, .int d]]), some (.int 0), none, none, none] [] := by rfl
  simp [fnF, runB, seqS, ifS, ifE, tstE, binE, vE, cE, toB, R.bind, R.bs, SR.seq, setS, retS, exprS, nilS, unpS, tgT, tgN, setMany, slE, noO, yesO, toI, callE, argsE, consA, nilA, andB, orB, notB, andV, orV, notV, chE, forS, forR, loop, gc, okOld, below, O.refs, D.refs, refsL, gtD, ltD, leD, geD, isiE, tyD, isT, lenD, itemsOf, itemsI, chkOf, rng1, rngL, small62, lstE, tupE, lcE, lcL, srcV, yesB, wipeE, raiseS, negE, neD, eqD, eqS, idxD, L2.atI, L2.ixN, lenSetE, lstInts, intsOf, dedupI, PyProof.Rows.step_dedup, subD, addD, mulD, modD, b_is_face, e0, s_is_face_1, s_is_face_2, s_is_face_2_0, s_is_face_3, c_MOST_PARAMS, c_MOST_DEPTH, c_MOST_NAME, num_ap hT, a0, a1, b0, b1, c0, c1, d0, d1]
  by_cases h : a = c <;> simp [h]
theorem face3 (T T1 : Tab) (hT : NumOk T) {a b c d e : Int} (bd : D) (a0 : 0 ≤ a) (a1 : a ≤ 19) (b0 : 0 ≤ b) (b1 : b ≤ 3) (c0 : 0 ≤ c) (c1 : c ≤ 19) (d0 : 0 ≤ d) (d1 : d ≤ 3) (h : a ≠ c) :
    fnF 6 (b_is_face T T1) [.tup [.tup [.tup [.int a, .int b], .tup [.int c, .int d], .tup [.int a, .int b]], .int 0, bd]] [] = .ok (.bl false) [] := by
  have e0 : s_is_face_0 T T1 [some (.tup [.tup [.tup [.int a, .int b], .tup [.int c, .int d], .tup [.int a, .int b]], .int 0, bd]), none, none, none, none, none] [] = .nx [some (.tup [.tup [.tup [.int a, .int b], .tup [.int c, .int d], .tup [.int a, .int b]], .int 0, bd]), some (.tup [.tup [.int a, .int b], .tup [.int c, .int d], .tup [.int a, .int b]]), some (.int 0), none, none, none] [] := by rfl
  have h' : ¬ c = a := fun z => h z.symm
  simp [fnF, runB, seqS, ifS, ifE, tstE, binE, vE, cE, toB, R.bind, R.bs, SR.seq, setS, retS, exprS, nilS, unpS, tgT, tgN, setMany, slE, noO, yesO, toI, callE, argsE, consA, nilA, andB, orB, notB, andV, orV, notV, chE, forS, forR, loop, gc, okOld, below, O.refs, D.refs, refsL, gtD, ltD, leD, geD, isiE, tyD, isT, lenD, itemsOf, itemsI, chkOf, rng1, rngL, small62, lstE, tupE, lcE, lcL, srcV, yesB, wipeE, raiseS, negE, neD, eqD, eqS, idxD, L2.atI, L2.ixN, lenSetE, lstInts, intsOf, dedupI, PyProof.Rows.step_dedup, subD, addD, mulD, modD, b_is_face, e0, s_is_face_1, s_is_face_2, s_is_face_2_0, s_is_face_3, c_MOST_PARAMS, c_MOST_DEPTH, c_MOST_NAME, num_ap hT, a0, a1, b0, b1, c0, c1, d0, d1, h, h']
/-- one function whose face is refused -/
theorem need_bad (T T1 : Tab) (f : D) (hf : f.refs = []) (h : T 11 [f] [] = .ok (.bl false) []) : fnF 5 (b_need_program T T1) [.tup [f]] [] = .ex 1 [(2, .str "face"), (1, .int (-1)), (0, .int 0)] [] := by
  have ap : appF (T 11) [f] [] = .ok (.bl false) [] := by
    unfold appF
    simp [fnF, runB, seqS, ifS, ifE, tstE, binE, vE, cE, toB, R.bind, R.bs, SR.seq, setS, retS, exprS, nilS, unpS, tgT, tgN, setMany, slE, noO, yesO, toI, callE, argsE, consA, nilA, andB, orB, notB, andV, orV, notV, chE, forS, forR, loop, gc, okOld, below, O.refs, D.refs, refsL, gtD, ltD, leD, geD, isiE, tyD, isT, lenD, itemsOf, itemsI, chkOf, rng1, rngL, small62, lstE, tupE, lcE, lcL, srcV, yesB, wipeE, raiseS, negE, neD, eqD, eqS, idxD, L2.atI, L2.ixN, lenSetE, lstInts, intsOf, dedupI, PyProof.Rows.step_dedup, subD, addD, mulD, modD, hf, h]
  simp [fnF, runB, seqS, ifS, ifE, tstE, binE, vE, cE, toB, R.bind, R.bs, SR.seq, setS, retS, exprS, nilS, unpS, tgT, tgN, setMany, slE, noO, yesO, toI, callE, argsE, consA, nilA, andB, orB, notB, andV, orV, notV, chE, forS, forR, loop, gc, okOld, below, O.refs, D.refs, refsL, gtD, ltD, leD, geD, isiE, tyD, isT, lenD, itemsOf, itemsI, chkOf, rng1, rngL, small62, lstE, tupE, lcE, lcL, srcV, yesB, wipeE, raiseS, negE, neD, eqD, eqS, idxD, L2.atI, L2.ixN, lenSetE, lstInts, intsOf, dedupI, PyProof.Rows.step_dedup, subD, addD, mulD, modD, b_need_program, s_need_program_0, s_need_program_1, s_need_program_1_0, s_need_program_1_1, c_MOST_FUNCTIONS, ap, refsFs]
theorem faces_bad (T T1 : Tab) (f : D) (hf : f.refs = []) (h : T 12 [.tup [f]] [] = .ex 1 [(2, .str "face"), (1, .int (-1)), (0, .int 0)] []) : fnF 6 (b_faces T T1) [.tup [f]] [] = .ex 1 [(2, .str "face"), (1, .int (-1)), (0, .int 0)] [] := by
  have ap : appF (T 12) [.tup [f]] [] = .ex 1 [(2, .str "face"), (1, .int (-1)), (0, .int 0)] [] := by
    unfold appF
    simp [fnF, runB, seqS, ifS, ifE, tstE, binE, vE, cE, toB, R.bind, R.bs, SR.seq, setS, retS, exprS, nilS, unpS, tgT, tgN, setMany, slE, noO, yesO, toI, callE, argsE, consA, nilA, andB, orB, notB, andV, orV, notV, chE, forS, forR, loop, gc, okOld, below, O.refs, D.refs, refsL, gtD, ltD, leD, geD, isiE, tyD, isT, lenD, itemsOf, itemsI, chkOf, rng1, rngL, small62, lstE, tupE, lcE, lcL, srcV, yesB, wipeE, raiseS, negE, neD, eqD, eqS, idxD, L2.atI, L2.ixN, lenSetE, lstInts, intsOf, dedupI, PyProof.Rows.step_dedup, subD, addD, mulD, modD, hf, h, refsFs]
  simp [fnF, runB, seqS, ifS, ifE, tstE, binE, vE, cE, toB, R.bind, R.bs, SR.seq, setS, retS, exprS, nilS, unpS, tgT, tgN, setMany, slE, noO, yesO, toI, callE, argsE, consA, nilA, andB, orB, notB, andV, orV, notV, chE, forS, forR, loop, gc, okOld, below, O.refs, D.refs, refsL, gtD, ltD, leD, geD, isiE, tyD, isT, lenD, itemsOf, itemsI, chkOf, rng1, rngL, small62, lstE, tupE, lcE, lcL, srcV, yesB, wipeE, raiseS, negE, neD, eqD, eqS, idxD, L2.atI, L2.ixN, lenSetE, lstInts, intsOf, dedupI, PyProof.Rows.step_dedup, subD, addD, mulD, modD, b_faces, s_faces_0, ap, refsFs]
end K22
set_option Elab.async false
set_option linter.all false
set_option maxRecDepth 100000
set_option maxHeartbeats 4000000
namespace K22
open PySem L2 Mi
theorem fnF_out (n : Nat) (f : SF) (ds : List D) (st : S) : fnF n f ds st = gc st (SR.out (f (ds.map some ++ List.replicate (n - ds.length) none) st)) := by
  unfold fnF runB SR.out
  cases f (ds.map some ++ List.replicate (n - ds.length) none) st <;> rfl
abbrev TN := (tabs 36).1
abbrev TN1 := (tabs 36).2
abbrev numD : D := .tup [.str "num", .int 1]
abbrev fnD (a b o d : Int) : D := .tup [.tup [.tup [.int a, .int b], .tup [.int o, .int d]], .int 0, numD]
theorem h5 (a b o d : Int) : TN 5 [.ref 0, .tup [fnD a b o d], .int 0] [.ins 3 []] = .ok .non [.ins 3 [(4, .tup [fnD a b o d]), (5, .int 0), (1, .int 0), (6, .int 0)]] := by kernel_rfl
theorem h7 (a b o d : Int) : TN 7 [.ref 0, numD, .ref 1, .int 0] [.ins 3 [(4, .tup [fnD a b o d]), (5, .int 0), (1, .int 0), (6, .int 0)], .dct [(.int a, .int b), (.int o, .int d)]] = .ok (.int 0) [.ins 3 [(4, .tup [fnD a b o d]), (5, .int 0), (1, .int 1), (6, .int 0)], .dct [(.int a, .int b), (.int o, .int d)]] := by kernel_rfl
theorem need_good {a b o d : Int} (h : a ≠ o) (h11 : TN 11 [fnD a b o d] [] = .ok (.bl true) []) : fnF 5 (b_need_program TN TN1) [.tup [fnD a b o d]] [] = .ok .non [] := by
  have ap : appF (TN 11) [fnD a b o d] [] = .ok (.bl true) [] := by
    unfold appF
    simp [fnF, runB, seqS, ifS, ifE, tstE, binE, vE, cE, toB, R.bind, R.bs, SR.seq, setS, retS, exprS, nilS, unpS, tgT, tgN, setMany, slE, noO, yesO, toI, callE, argsE, consA, nilA, andB, orB, notB, andV, orV, notV, chE, forS, forR, loop, gc, okOld, below, O.refs, D.refs, refsL, gtD, ltD, leD, geD, isiE, tyD, isT, lenD, itemsOf, itemsI, chkOf, rng1, rngL, small62, lstE, tupE, lcE, lcL, srcV, yesB, wipeE, raiseS, negE, neD, eqD, eqS, idxD, L2.atI, L2.ixN, lenSetE, lstInts, intsOf, dedupI, PyProof.Rows.step_dedup, subD, addD, mulD, modD, h11]
  have hs : ∀ s : S, appF (TN 7) [.ref 0, numD, .ref 1, .int 0] s = TN 7 [.ref 0, numD, .ref 1, .int 0] s := fun s => rfl
  have h' : ¬ o = a := fun z => h z.symm
  have e1 : seqS (s_need_program_0 TN TN1) (s_need_program_1 TN TN1) [some (.tup [fnD a b o d]), none, none, none, none] [] = .nx [some (.tup [fnD a b o d]), some (.int 0), none, none, none] [] := by
    simp [fnF, runB, seqS, ifS, ifE, tstE, binE, vE, cE, toB, R.bind, R.bs, SR.seq, setS, retS, exprS, nilS, unpS, tgT, tgN, setMany, slE, noO, yesO, toI, callE, argsE, consA, nilA, andB, orB, notB, andV, orV, notV, chE, forS, forR, loop, gc, okOld, below, O.refs, D.refs, refsL, gtD, ltD, leD, geD, isiE, tyD, isT, lenD, itemsOf, itemsI, chkOf, rng1, rngL, small62, lstE, tupE, lcE, lcL, srcV, yesB, wipeE, raiseS, negE, neD, eqD, eqS, idxD, L2.atI, L2.ixN, lenSetE, lstInts, intsOf, dedupI, PyProof.Rows.step_dedup, subD, addD, mulD, modD, s_need_program_0, s_need_program_1, s_need_program_1_0, s_need_program_1_1, c_MOST_FUNCTIONS, ap]
  have e2 : s_need_program_2 TN TN1 [some (.tup [fnD a b o d]), some (.int 0), none, none, none] [] = .nx [some (.tup [fnD a b o d]), some (.int 0), some (.tup [.tup [.int a, .int b], .tup [.int o, .int d]]), some (.int 0), some numD] [.ins 3 [(4, .tup [fnD a b o d]), (5, .int 0), (1, .int 1), (6, .int 0)], .dct [(.int a, .int b), (.int o, .int d)]] := by
    simp [fnF, runB, seqS, ifS, ifE, tstE, binE, vE, cE, toB, R.bind, R.bs, SR.seq, setS, retS, exprS, nilS, unpS, tgT, tgN, setMany, slE, noO, yesO, toI, callE, argsE, consA, nilA, andB, orB, notB, andV, orV, notV, chE, forS, forR, loop, gc, okOld, below, O.refs, D.refs, refsL, gtD, ltD, leD, geD, isiE, tyD, isT, lenD, itemsOf, itemsI, chkOf, rng1, rngL, small62, lstE, tupE, lcE, lcL, srcV, yesB, wipeE, raiseS, negE, neD, eqD, eqS, idxD, L2.atI, L2.ixN, lenSetE, lstInts, intsOf, dedupI, PyProof.Rows.step_dedup, subD, addD, mulD, modD, s_need_program_2, s_need_program_2_0, s_need_program_2_1, methE, mkE, h5, h7, hs, dictD, pairsOf, isKey, mergeD, putD, kEq, h, h']
  rw [fnF_out]
  unfold b_need_program
  simp only [List.map_cons, List.map_nil, List.length_cons, List.length_nil, List.cons_append, List.nil_append]
  rw [seq_assoc, show (List.replicate (5 - (0 + 1)) (none : Option D)) = [none, none, none, none] from rfl, seq_nx e1, e2]
  rfl
abbrev TF := (tabs 37).1
abbrev TF1 := (tabs 37).2
theorem TF12 : TF 12 = fnF 5 (b_need_program TN TN1) := by kernel_rfl
theorem TN11 : TN 11 = fnF 6 (b_is_face (tabs 35).1 (tabs 35).2) := by kernel_rfl
theorem num35 : NumOk (tabs 35).1 := fun x m => isnum (tabs 34).1 (tabs 34).2 x m
theorem faces_g1 (a b o d : Int) : gc [] (SR.out (s_faces_1 TF TF1 [some (.tup [fnD a b o d]), none, none, none, none, none] [])) = .ok (.ref 0) [.lst [.tup [.tup [.int b, .int d], .int 0]]] := by kernel_rfl
theorem faces_good {a b o d : Int} (h : a ≠ o) (a0 : 0 ≤ a) (a1 : a ≤ 19) (b0 : 0 ≤ b) (b1 : b ≤ 3) (c0 : 0 ≤ o) (c1 : o ≤ 19) (d0 : 0 ≤ d) (d1 : d ≤ 3) : fnF 6 (b_faces TF TF1) [.tup [fnD a b o d]] [] = .ok (.ref 0) [.lst [.tup [.tup [.int b, .int d], .int 0]]] := by
  have hn : TF 12 [.tup [fnD a b o d]] [] = .ok .non [] := by
    rw [TF12]
    refine need_good h ?_
    rw [TN11, face2 _ _ num35 numD a0 a1 b0 b1 c0 c1 d0 d1]
    simp [h]
  have ap : appF (TF 12) [.tup [fnD a b o d]] [] = .ok .non [] := by
    unfold appF
    simp [fnF, runB, seqS, ifS, ifE, tstE, binE, vE, cE, toB, R.bind, R.bs, SR.seq, setS, retS, exprS, nilS, unpS, tgT, tgN, setMany, slE, noO, yesO, toI, callE, argsE, consA, nilA, andB, orB, notB, andV, orV, notV, chE, forS, forR, loop, gc, okOld, below, O.refs, D.refs, refsL, gtD, ltD, leD, geD, isiE, tyD, isT, lenD, itemsOf, itemsI, chkOf, rng1, rngL, small62, lstE, tupE, lcE, lcL, srcV, yesB, wipeE, raiseS, negE, neD, eqD, eqS, idxD, L2.atI, L2.ixN, lenSetE, lstInts, intsOf, dedupI, PyProof.Rows.step_dedup, subD, addD, mulD, modD, hn]
  have e0 : s_faces_0 TF TF1 [some (.tup [fnD a b o d]), none, none, none, none, none] [] = .nx [some (.tup [fnD a b o d]), none, none, none, none, none] [] := by
    simp [fnF, runB, seqS, ifS, ifE, tstE, binE, vE, cE, toB, R.bind, R.bs, SR.seq, setS, retS, exprS, nilS, unpS, tgT, tgN, setMany, slE, noO, yesO, toI, callE, argsE, consA, nilA, andB, orB, notB, andV, orV, notV, chE, forS, forR, loop, gc, okOld, below, O.refs, D.refs, refsL, gtD, ltD, leD, geD, isiE, tyD, isT, lenD, itemsOf, itemsI, chkOf, rng1, rngL, small62, lstE, tupE, lcE, lcL, srcV, yesB, wipeE, raiseS, negE, neD, eqD, eqS, idxD, L2.atI, L2.ixN, lenSetE, lstInts, intsOf, dedupI, PyProof.Rows.step_dedup, subD, addD, mulD, modD, s_faces_0, ap]
  rw [fnF_out]
  unfold b_faces
  simp only [List.map_cons, List.map_nil, List.length_cons, List.length_nil, List.cons_append, List.nil_append]
  rw [show (List.replicate (6 - (0 + 1)) (none : Option D)) = [none, none, none, none, none] from rfl, seq_nx e0]
  exact faces_g1 a b o d
abbrev badX : List (Nat × D) := [(2, .str "face"), (1, .int (-1)), (0, .int 0)]
theorem faces_bad2 {a b d : Int} (a0 : 0 ≤ a) (a1 : a ≤ 19) (b0 : 0 ≤ b) (b1 : b ≤ 3) (d0 : 0 ≤ d) (d1 : d ≤ 3) : fnF 6 (b_faces TF TF1) [.tup [fnD a b a d]] [] = .ex 1 badX [] := by
  refine faces_bad _ _ _ rfl ?_
  rw [TF12]
  refine need_bad _ _ _ rfl ?_
  rw [TN11, face2 _ _ num35 numD a0 a1 b0 b1 a0 a1 d0 d1]
  simp
theorem faces_bad3 {a b o d : Int} (h : a ≠ o) (a0 : 0 ≤ a) (a1 : a ≤ 19) (b0 : 0 ≤ b) (b1 : b ≤ 3) (c0 : 0 ≤ o) (c1 : o ≤ 19) (d0 : 0 ≤ d) (d1 : d ≤ 3) : fnF 6 (b_faces TF TF1) [.tup [.tup [.tup [.tup [.int a, .int b], .tup [.int o, .int d], .tup [.int a, .int b]], .int 0, numD]]] [] = .ex 1 badX [] := by
  refine faces_bad _ _ _ rfl ?_
  rw [TF12]
  refine need_bad _ _ _ rfl ?_
  rw [TN11]
  exact face3 (e := 0) _ _ num35 numD a0 a1 b0 b1 c0 c1 d0 d1 h
/-! ## _law_names -/
theorem TB13 : TB 13 = fnF 6 (b_faces TF TF1) := by kernel_rfl
theorem kind_ex {w : M D} {s : S} (h : w s = .ex 1 badX s) : noX (w__law_kind w s) = .ok (.tup [.int 0, .int (-1), .str "face"]) s := by
  unfold w__law_kind kindF runB tryS
  rw [show (fun η st => (w st).bs η fun d s => SR.rt d s) (([] : List D).map some ++ List.replicate (2 - ([] : List D).length) none) s = .ex 1 badX [none, none] s by simp [R.bs, h]]
  kernel_rfl
theorem kind_ok' {w : M D} {s s' : S} {d : D} (h : w s = .ok d s') : noX (w__law_kind w s) = .ok d s' := by
  unfold w__law_kind kindF runB tryS
  rw [show (fun η st => (w st).bs η fun d s => SR.rt d s) (([] : List D).map some ++ List.replicate (2 - ([] : List D).length) none) s = .rt d s' by simp [R.bs, h]]
  rfl
theorem lam_ex {F : List D → M D} {f : Ev → M D} {P : D} {η : Ev} {s : S} (hf : f η s = .ok P s) (hP : P.refs = []) (hF : F [P] [] = .ex 1 badX []) : lamE w__law_kind (callE (appF F) (argsE [f])) η s = .ok (.tup [.int 0, .int (-1), .str "face"]) s := by
  have e : callE (appF F) (argsE [f]) η s = .ex 1 badX s := by
    simp [fnF, runB, seqS, ifS, ifE, tstE, binE, vE, cE, toB, R.bind, R.bs, SR.seq, setS, retS, exprS, nilS, unpS, tgT, tgN, setMany, slE, noO, yesO, toI, callE, argsE, consA, nilA, andB, orB, notB, andV, orV, notV, chE, forS, forR, loop, gc, okOld, below, O.refs, D.refs, refsL, gtD, ltD, leD, geD, isiE, tyD, isT, lenD, itemsOf, itemsI, chkOf, rng1, rngL, small62, lstE, tupE, lcE, lcL, srcV, yesB, wipeE, raiseS, negE, neD, eqD, eqS, idxD, L2.atI, L2.ixN, lenSetE, lstInts, intsOf, dedupI, PyProof.Rows.step_dedup, subD, addD, mulD, modD, hf, appF, hP, hF, refsFs]
  exact kind_ex e
theorem lam_ok {F : List D → M D} {f : Ev → M D} {P : D} {η : Ev} {s : S} {d : D} (hf : f η s = .ok P s) (hP : P.refs = []) (hF : F [P] [] = .ok (.ref 0) [.lst [d]]) (hd : d.refs = []) : lamE w__law_kind (callE (appF F) (argsE [f])) η s = .ok (.ref s.length) (s ++ [.lst [d.mp fun i => s.length + i]]) := by
  have e : callE (appF F) (argsE [f]) η s = .ok (.ref s.length) (s ++ [.lst [d.mp fun i => s.length + i]]) := by
    simp [fnF, runB, seqS, ifS, ifE, tstE, binE, vE, cE, toB, R.bind, R.bs, SR.seq, setS, retS, exprS, nilS, unpS, tgT, tgN, setMany, slE, noO, yesO, toI, callE, argsE, consA, nilA, andB, orB, notB, andV, orV, notV, chE, forS, forR, loop, gc, okOld, below, O.refs, D.refs, refsL, gtD, ltD, leD, geD, isiE, tyD, isT, lenD, itemsOf, itemsI, chkOf, rng1, rngL, small62, lstE, tupE, lcE, lcL, srcV, yesB, wipeE, raiseS, negE, neD, eqD, eqS, idxD, L2.atI, L2.ixN, lenSetE, lstInts, intsOf, dedupI, PyProof.Rows.step_dedup, subD, addD, mulD, modD, hf, appF, hP, hF, D.mp, O.mp, mpL]
  exact kind_ok' e
end K22
set_option Elab.async false
set_option linter.all false
set_option maxRecDepth 100000
set_option maxHeartbeats 4000000
namespace K22
open PySem L2 Mi
theorem app_ref (F : List D → M D) (l : List D) (s : S) : appF F (.ref 0 :: l) s = F (.ref 0 :: l) s := rfl
theorem names_body {x1 x2 x3 : Option D} {P : D} {ns : List Int} {a b c : Int} (hP : P.refs = []) (hF : TB 13 [.tup [.tup [P, .int 0, numD]]] [] = .ex 1 badX []) :
    s_law_names_2_0 TA TB [some (.ref 0), x1, x2, x3, some P] (stt ns a b c) = .nx [some (.ref 0), x1, x2, x3, some P] (stt ns a b c) := by
  unfold s_law_names_2_0
  simp only [ifS, tstE, binE]
  rw [lam_ex (P := .tup [.tup [P, .int 0, numD]]) rfl (by simp [D.refs, refsL, hP]) hF]
  kernel_rfl
theorem eq_end (b : Int) (ns : List Int) (a0 b0 c0 : Int) : eqD (.ref 1) (.ref 2) [.lst [.scr ns, .int a0, .int b0, .int c0], .lst [.tup [.tup [.int b, .int b], .int 0]], .lst [.tup [.tup [.int b, .int b], .int 0]]] = .ok (.bl true) [.lst [.scr ns, .int a0, .int b0, .int c0], .lst [.tup [.tup [.int b, .int b], .int 0]], .lst [.tup [.tup [.int b, .int b], .int 0]]] := by
  have h : SeqAt.shaped (PyData.list [PyData.tuple [PyData.tuple [PyData.int b, PyData.int b], PyData.int 0]]) = true := by kernel_rfl
  simp [eqD, eqS, toPy, PyData.eqv, PyData.eqvAll, h]
theorem names_end {ns : List Int} {a b c : Int} {x y o : Int} {P4 : Option D} (s0 : S) (hs : s0.length = 1) (hF : TB 13 [.tup [fnD x y o y]] [] = .ok (.ref 0) [.lst [.tup [.tup [.int y, .int y], .int 0]]]) :
    s_law_names_3 TA TB [some (.ref 0), some (.int x), some (.int y), some (.int o), P4] (stt ns a b c) = .rt (.bl true) [.lst [.scr ns, .int a, .int b, .int c], .lst [.tup [.tup [.int y, .int y], .int 0]], .lst [.tup [.tup [.int y, .int y], .int 0]]] := by
  unfold s_law_names_3
  simp only [retS, binE]
  rw [lam_ok (P := .tup [fnD x y o y]) (d := .tup [.tup [.int y, .int y], .int 0]) rfl rfl hF rfl]
  have e : (stt ns a b c ++ [O.lst [D.mp (fun i => (stt ns a b c).length + i) (.tup [.tup [.int y, .int y], .int 0])]]) = [.lst [.scr ns, .int a, .int b, .int c], .lst [.tup [.tup [.int y, .int y], .int 0]]] := rfl
  rw [e]
  have h : SeqAt.shaped (PyData.list [PyData.tuple [PyData.tuple [PyData.int y, PyData.int y], PyData.int 0]]) = true := by kernel_rfl
  simp [fnF, runB, seqS, ifS, ifE, tstE, binE, vE, cE, toB, R.bind, R.bs, SR.seq, setS, retS, exprS, nilS, unpS, tgT, tgN, setMany, slE, noO, yesO, toI, callE, argsE, consA, nilA, andB, orB, notB, andV, orV, notV, chE, forS, forR, loop, gc, okOld, below, O.refs, D.refs, refsL, gtD, ltD, leD, geD, isiE, tyD, isT, lenD, itemsOf, itemsI, chkOf, rng1, rngL, small62, lstE, tupE, lcE, lcL, srcV, yesB, wipeE, raiseS, negE, neD, eqD, eqS, idxD, L2.atI, L2.ixN, lenSetE, lstInts, intsOf, dedupI, PyProof.Rows.step_dedup, subD, addD, mulD, modD, sizeLine, toPy, PyData.eqv, PyData.eqvAll, h]
theorem names_ok {ns : List Int} {a b c : Int} (ha : 0 ≤ a) : ∃ a' b' c', fnF 5 (b_law_names TA TB) [.ref 0] (stt ns a b c) = .ok (.bl true) (stt ns a' b' c') ∧ 0 ≤ a' := by
  obtain ⟨x, a1, b1, c1, h1, x0, x1, ha1⟩ := taken (tabs 38).1 (tabs 38).2 (ns := ns) (a := a) (b := b) (c := c) (m := 20) ha (by omega) (by omega)
  obtain ⟨y, a2, b2, c2, h2, y0, y1, ha2⟩ := taken (tabs 38).1 (tabs 38).2 (ns := ns) (a := a1) (b := b1) (c := c1) (m := 4) ha1 (by omega) (by omega)
  obtain ⟨z, a3, b3, c3, h3, z0, z1, ha3⟩ := taken (tabs 38).1 (tabs 38).2 (ns := ns) (a := a2) (b := b2) (c := c2) (m := 19) ha2 (by omega) (by omega)
  rw [← TA22] at h1 h2 h3
  refine ⟨a3, b3, c3, ?_, ha3⟩
  have e0 : s_law_names_0 TA TB [some (.ref 0), none, none, none, none] (stt ns a b c) = .nx [some (.ref 0), some (.int x), some (.int y), none, none] (stt ns a1 b1 c1 |> fun _ => stt ns a2 b2 c2) := by
    simp [fnF, runB, seqS, ifS, ifE, tstE, binE, vE, cE, toB, R.bind, R.bs, SR.seq, setS, retS, exprS, nilS, unpS, tgT, tgN, setMany, slE, noO, yesO, toI, callE, argsE, consA, nilA, andB, orB, notB, andV, orV, notV, chE, forS, forR, loop, gc, okOld, below, O.refs, D.refs, refsL, gtD, ltD, leD, geD, isiE, tyD, isT, lenD, itemsOf, itemsI, chkOf, rng1, rngL, small62, lstE, tupE, lcE, lcL, srcV, yesB, wipeE, raiseS, negE, neD, eqD, eqS, idxD, L2.atI, L2.ixN, lenSetE, lstInts, intsOf, dedupI, PyProof.Rows.step_dedup, subD, addD, mulD, modD, s_law_names_0, app_ref, h1, h2, sizeLine]
  have e1 : s_law_names_1 TA TB [some (.ref 0), some (.int x), some (.int y), none, none] (stt ns a2 b2 c2) = .nx [some (.ref 0), some (.int x), some (.int y), some (.int ((x + 1 + z) % 20)), none] (stt ns a3 b3 c3) := by
    simp [fnF, runB, seqS, ifS, ifE, tstE, binE, vE, cE, toB, R.bind, R.bs, SR.seq, setS, retS, exprS, nilS, unpS, tgT, tgN, setMany, slE, noO, yesO, toI, callE, argsE, consA, nilA, andB, orB, notB, andV, orV, notV, chE, forS, forR, loop, gc, okOld, below, O.refs, D.refs, refsL, gtD, ltD, leD, geD, isiE, tyD, isT, lenD, itemsOf, itemsI, chkOf, rng1, rngL, small62, lstE, tupE, lcE, lcL, srcV, yesB, wipeE, raiseS, negE, neD, eqD, eqS, idxD, L2.atI, L2.ixN, lenSetE, lstInts, intsOf, dedupI, PyProof.Rows.step_dedup, subD, addD, mulD, modD, s_law_names_1, app_ref, h3]
  generalize ho : (x + 1 + z) % 20 = o at e1
  have o0 : 0 ≤ o := by omega
  have o1 : o ≤ 19 := by omega
  have ox : x ≠ o := by omega
  generalize hd : (y + 1) % 4 = d
  have d0 : 0 ≤ d := by omega
  have d1 : d ≤ 3 := by omega
  have f1 : TB 13 [.tup [.tup [.tup [.tup [.int x, .int y], .tup [.int x, .int d]], .int 0, numD]]] [] = .ex 1 badX [] := by rw [TB13]; exact faces_bad2 x0 (by omega) y0 (by omega) d0 d1
  have f2 : TB 13 [.tup [.tup [.tup [.tup [.int x, .int y], .tup [.int o, .int 0], .tup [.int x, .int y]], .int 0, numD]]] [] = .ex 1 badX [] := by rw [TB13]; exact faces_bad3 ox x0 (by omega) y0 (by omega) o0 o1 (by omega) (by omega)
  have f3 : TB 13 [.tup [.tup [.tup [.tup [.int x, .int y], .tup [.int x, .int y]], .int 0, numD]]] [] = .ex 1 badX [] := by rw [TB13]; exact faces_bad2 x0 (by omega) y0 (by omega) y0 (by omega)
  have f4 : TB 13 [.tup [fnD x y o y]] [] = .ok (.ref 0) [.lst [.tup [.tup [.int y, .int y], .int 0]]] := by rw [TB13]; exact faces_good ox x0 (by omega) y0 (by omega) o0 o1 y0 (by omega)
  have e2 : s_law_names_2 TA TB [some (.ref 0), some (.int x), some (.int y), some (.int o), none] (stt ns a3 b3 c3) = .nx [some (.ref 0), some (.int x), some (.int y), some (.int o), some (.tup [.tup [.int x, .int y], .tup [.int x, .int y]])] (stt ns a3 b3 c3) := by
    have n1 := names_body (x1 := some (.int x)) (x2 := some (.int y)) (x3 := some (.int o)) (ns := ns) (a := a3) (b := b3) (c := c3) (by simp [D.refs, refsL]) f1
    have n2 := names_body (x1 := some (.int x)) (x2 := some (.int y)) (x3 := some (.int o)) (ns := ns) (a := a3) (b := b3) (c := c3) (by simp [D.refs, refsL]) f2
    have n3 := names_body (x1 := some (.int x)) (x2 := some (.int y)) (x3 := some (.int o)) (ns := ns) (a := a3) (b := b3) (c := c3) (by simp [D.refs, refsL]) f3
    simp [fnF, runB, seqS, ifS, ifE, tstE, binE, vE, cE, toB, R.bind, R.bs, SR.seq, setS, retS, exprS, nilS, unpS, tgT, tgN, setMany, slE, noO, yesO, toI, callE, argsE, consA, nilA, andB, orB, notB, andV, orV, notV, chE, forS, forR, loop, gc, okOld, below, O.refs, D.refs, refsL, gtD, ltD, leD, geD, isiE, tyD, isT, lenD, itemsOf, itemsI, chkOf, rng1, rngL, small62, lstE, tupE, lcE, lcL, srcV, yesB, wipeE, raiseS, negE, neD, eqD, eqS, idxD, L2.atI, L2.ixN, lenSetE, lstInts, intsOf, dedupI, PyProof.Rows.step_dedup, subD, addD, mulD, modD, s_law_names_2, sizeLine, hd, n1, n2, n3]
  have e3 := names_end (ns := ns) (a := a3) (b := b3) (c := c3) (P4 := some (.tup [.tup [.int x, .int y], .tup [.int x, .int y]])) (stt ns a b c) rfl f4
  rw [fnF_out]
  unfold b_law_names
  simp only [List.map_cons, List.map_nil, List.length_cons, List.length_nil, List.cons_append, List.nil_append]
  rw [show (List.replicate (5 - (0 + 1)) (none : Option D)) = [none, none, none, none] from rfl, seq_nx e0]
  dsimp only
  rw [seq_nx e1, seq_nx e2, e3]
  rfl
end K22
set_option Elab.async false
set_option linter.all false
set_option maxRecDepth 100000
set_option maxHeartbeats 4000000
namespace K22
open PySem L2 Mi
/-! ## a word of figures -/
abbrev wd (c : Nat) (cs : List Nat) : Str := ⟨⟨c :: cs⟩⟩
abbrev Dig (c : Nat) : Prop := 48 ≤ c ∧ c ≤ 57
theorem dig_in {c : Nat} (h : Dig c) (s : S) : notInS (.str ⟨#[c]⟩) c_FIGURES s = .ok (.bl false) s := by
  obtain ⟨h1, h2⟩ := h
  have : c = 48 ∨ c = 49 ∨ c = 50 ∨ c = 51 ∨ c = 52 ∨ c = 53 ∨ c = 54 ∨ c = 55 ∨ c = 56 ∨ c = 57 := by omega
  rcases this with rfl | rfl | rfl | rfl | rfl | rfl | rfl | rfl | rfl | rfl <;> kernel_rfl
theorem lc_dig {η : Ev} {s : S} {chk : S → Bool} (hk : chk s = true) (hη : η.length = 4) : ∀ (cs : List Nat), (∀ c ∈ cs, Dig c) → lcL (tgN 3) chk (tstE (binE notInS (vE 3) (cE c_FIGURES))) (vE 3) η (cs.map fun c => D.str ⟨#[c]⟩) [] s = .ok [] s
  | [], _ => by simp [lcL, hk]
  | c :: cs, h => by
    have ih := lc_dig hk hη cs fun d hd => h d (List.mem_cons_of_mem _ hd)
    have e : (η.set 3 (some (D.str ⟨#[c]⟩)))[3]? = some (some (D.str ⟨#[c]⟩)) := List.getElem?_set_self (by omega)
    simp only [List.map_cons, lcL, hk, if_true, tgN, tstE, binE, vE, cE, R.bind, e]
    rw [dig_in (h c List.mem_cons_self)]
    simpa [toB] using ih
def shA (t w : Str) (p : Int) : S := [.lst [.str t], .ins 4 [(3, .int 0), (7, .ref 2), (1, .int p)], .lst [.str "0", .str "0", .str "(", .str "num", .str w, .str ")"], .lst []]
theorem seenA (T T1 : Tab) (t w : Str) : fnF 1 (b_Reader_seen T T1) [.ref 1] (shA t w 4) = .ok (.str w) (shA t w 4) := by kernel_rfl
theorem failA (T T1 : Tab) (t w : Str) (x y : O) (hx : x.refs = []) (hy : y.refs = []) : fnF 1 (b_Reader_fail T T1) [.ref 1] (shA t w 4 ++ [.lst [], .lst []]) = .ex 2 [(1, .int 4), (3, .int 0)] (shA t w 4 ++ [.lst [], .lst []]) := by kernel_rfl
theorem lcA (t : Str) (c : Nat) (cs : List Nat) (h : ∀ d ∈ c :: cs, Dig d) : lcE (srcV (vE 1)) (tgN 3) (tstE (binE notInS (vE 3) (cE c_FIGURES))) (vE 3) [3] [some (.ref 1), some (.str (wd c cs)), none, none] (shA t (wd c cs) 4) = .ok (.ref 4) (shA t (wd c cs) 4 ++ [.lst []]) := by
  show R.bind (lcL (tgN 3) (chkOf ((c :: cs).map fun c => D.str ⟨#[c]⟩) (.str (wd c cs))) (tstE (binE notInS (vE 3) (cE c_FIGURES))) (vE 3) [some (.ref 1), some (.str (wd c cs)), none, none] ((c :: cs).map fun c => D.str ⟨#[c]⟩) [] (shA t (wd c cs) 4)) _ = _
  rw [lc_dig rfl rfl (c :: cs) h]
  rfl
theorem chA (t : Str) (c : Nat) (cs : List Nat) (h : cs.length ≤ 4) : chE leD leD (cE (.int 1)) (callE lenD (argsE [vE 1])) (cE c_MOST_FIGURES) [some (.ref 1), some (.str (wd c cs)), none, none] (shA t (wd c cs) 4) = .ok (.bl true) (shA t (wd c cs) 4) := by
  have e : (wd c cs).length = cs.length + 1 := rfl
  have e2 : cs.length + 1 ≤ sizeLine := by rw [sizeLine_eq]; omega
  have e3 : ((cs.length : Int) + 1 ≤ 5) := by omega
  have e4 : ((1 : Int) ≤ (cs.length : Int) + 1) := by omega
  simp [fnF, runB, seqS, ifS, ifE, tstE, binE, vE, cE, toB, R.bind, R.bs, SR.seq, setS, retS, exprS, nilS, unpS, tgT, tgN, setMany, slE, noO, yesO, toI, callE, argsE, consA, nilA, andB, orB, notB, andV, orV, notV, chE, forS, forR, loop, gc, okOld, below, O.refs, D.refs, refsL, gtD, ltD, leD, geD, isiE, tyD, isT, lenD, itemsOf, itemsI, chkOf, rng1, rngL, small62, lstE, tupE, lcE, lcL, srcV, yesB, wipeE, raiseS, negE, neD, eqD, eqS, idxD, L2.atI, L2.ixN, lenSetE, lstInts, intsOf, dedupI, PyProof.Rows.step_dedup, subD, addD, mulD, modD, c_MOST_FIGURES, e, e2, e3, e4]
def shB (t t2 w : Str) (p : Int) : S := [.lst [.str t, .str t2], .ins 4 [(3, .int 0), (7, .ref 2), (1, .int 6)], .lst [.str "0", .str "0", .str "(", .str "num", .str "1", .str ")"], .ins 4 [(3, .int 1), (7, .ref 4), (1, .int p)], .lst [.str "0", .str "1", .str w, .str "0", .str "(", .str "num", .str "1", .str ")"]]
theorem seenB (T T1 : Tab) (t t2 w : Str) : fnF 1 (b_Reader_seen T T1) [.ref 3] (shB t t2 w 2) = .ok (.str w) (shB t t2 w 2) := by kernel_rfl
theorem failB (T T1 : Tab) (t t2 w : Str) (x y : O) (hx : x.refs = []) (hy : y.refs = []) : fnF 1 (b_Reader_fail T T1) [.ref 3] (shB t t2 w 2 ++ [.lst [], .lst []]) = .ex 2 [(1, .int 2), (3, .int 1)] (shB t t2 w 2 ++ [.lst [], .lst []]) := by kernel_rfl
theorem lcB (t t2 : Str) (c : Nat) (cs : List Nat) (h : ∀ d ∈ c :: cs, Dig d) : lcE (srcV (vE 1)) (tgN 3) (tstE (binE notInS (vE 3) (cE c_FIGURES))) (vE 3) [3] [some (.ref 3), some (.str (wd c cs)), none, none] (shB t t2 (wd c cs) 2) = .ok (.ref 5) (shB t t2 (wd c cs) 2 ++ [.lst []]) := by
  show R.bind (lcL (tgN 3) (chkOf ((c :: cs).map fun c => D.str ⟨#[c]⟩) (.str (wd c cs))) (tstE (binE notInS (vE 3) (cE c_FIGURES))) (vE 3) [some (.ref 3), some (.str (wd c cs)), none, none] ((c :: cs).map fun c => D.str ⟨#[c]⟩) [] (shB t t2 (wd c cs) 2)) _ = _
  rw [lc_dig rfl rfl (c :: cs) h]
  rfl
theorem chB (t t2 : Str) (c : Nat) (cs : List Nat) (h : cs.length ≤ 4) : chE leD leD (cE (.int 1)) (callE lenD (argsE [vE 1])) (cE c_MOST_FIGURES) [some (.ref 3), some (.str (wd c cs)), none, none] (shB t t2 (wd c cs) 2) = .ok (.bl true) (shB t t2 (wd c cs) 2) := by
  have e : (wd c cs).length = cs.length + 1 := rfl
  have e2 : cs.length + 1 ≤ sizeLine := by rw [sizeLine_eq]; omega
  have e3 : ((cs.length : Int) + 1 ≤ 5) := by omega
  have e4 : ((1 : Int) ≤ (cs.length : Int) + 1) := by omega
  simp [fnF, runB, seqS, ifS, ifE, tstE, binE, vE, cE, toB, R.bind, R.bs, SR.seq, setS, retS, exprS, nilS, unpS, tgT, tgN, setMany, slE, noO, yesO, toI, callE, argsE, consA, nilA, andB, orB, notB, andV, orV, notV, chE, forS, forR, loop, gc, okOld, below, O.refs, D.refs, refsL, gtD, ltD, leD, geD, isiE, tyD, isT, lenD, itemsOf, itemsI, chkOf, rng1, rngL, small62, lstE, tupE, lcE, lcL, srcV, yesB, wipeE, raiseS, negE, neD, eqD, eqS, idxD, L2.atI, L2.ixN, lenSetE, lstInts, intsOf, dedupI, PyProof.Rows.step_dedup, subD, addD, mulD, modD, c_MOST_FIGURES, e, e2, e3, e4]
theorem app_any (F : List D → M D) (i : Nat) (l : List D) (s : S) : appF F (.ref i :: l) s = F (.ref i :: l) s := rfl
theorem eq00 (c : Nat) : eqS (.str ⟨#[c]⟩) (.str "0") = some (decide (c = 48)) := by
  show some (decide ((⟨#[c]⟩ : Str) = "0")) = _
  congr 1
  by_cases h : c = 48
  · subst h; rfl
  · rw [decide_eq_false h]
    refine decide_eq_false fun z => h ?_
    have z : (⟨#[c]⟩ : Str) = ⟨#[48]⟩ := z
    injection z with z
    simpa using z
theorem eqw0 (c : Nat) (cs : List Nat) : eqS (.str (wd c cs)) (.str "0") = some (decide (c = 48 ∧ cs = [])) := by
  show some (decide ((wd c cs : Str) = "0")) = _
  congr 1
  by_cases h : c = 48 ∧ cs = []
  · obtain ⟨rfl, rfl⟩ := h; rfl
  · rw [decide_eq_false h]
    refine decide_eq_false fun z => h ?_
    have z : (wd c cs : Str) = ⟨⟨[48]⟩⟩ := z
    injection z with z
    injection z with z
    injection z with z1 z2
    exact ⟨z1, z2⟩
theorem cnt1A (T T1 : Tab) (t : Str) (c : Nat) (cs : List Nat) (hs : T 16 [.ref 1] (shA t (wd c cs) 4) = .ok (.str (wd c cs)) (shA t (wd c cs) 4)) (hd : ∀ d ∈ c :: cs, Dig d) (hl : cs.length ≤ 4) :
    seqS (s_Reader_count_0 T T1) (s_Reader_count_1 T T1) [some (.ref 1), none, none, none] (shA t (wd c cs) 4) = .nx [some (.ref 1), some (.str (wd c cs)), some (.bl true), none] (shA t (wd c cs) 4 ++ [.lst [], .lst []]) := by
  have e0 : s_Reader_count_0 T T1 [some (.ref 1), none, none, none] (shA t (wd c cs) 4) = .nx [some (.ref 1), some (.str (wd c cs)), none, none] (shA t (wd c cs) 4) := by
    show R.bs (appF (T 16) [.ref 1] (shA t (wd c cs) 4)) _ _ = _
    rw [app_any, hs]
    rfl
  rw [seq_nx e0]
  show R.bs (R.bind (chE leD leD (cE (.int 1)) (callE lenD (argsE [vE 1])) (cE c_MOST_FIGURES) [some (.ref 1), some (.str (wd c cs)), none, none] (shA t (wd c cs) 4)) _) _ _ = _
  rw [chA t c cs hl]
  show R.bs (R.bind (lcE (srcV (vE 1)) (tgN 3) (tstE (binE notInS (vE 3) (cE c_FIGURES))) (vE 3) [3] [some (.ref 1), some (.str (wd c cs)), none, none] (shA t (wd c cs) 4)) _) _ _ = _
  rw [lcA t c cs hd]
  kernel_rfl
theorem cntbadA (T T1 : Tab) (t : Str) (c : Nat) (cs : List Nat) (hs : T 16 [.ref 1] (shA t (wd c cs) 4) = .ok (.str (wd c cs)) (shA t (wd c cs) 4)) (hd : ∀ d ∈ c :: cs, Dig d) (hl : cs.length ≤ 4) (h0 : c = 48) (h1 : cs ≠ [])
    (hf : T 15 [.ref 1] (shA t (wd c cs) 4 ++ [.lst [], .lst []]) = .ex 2 [(1, .int 4), (3, .int 0)] (shA t (wd c cs) 4 ++ [.lst [], .lst []])) :
    fnF 4 (b_Reader_count T T1) [.ref 1] (shA t (wd c cs) 4) = .ex 2 [(1, .int 4), (3, .int 0)] (shA t (wd c cs) 4) := by
  subst h0
  rw [fnF_out]
  unfold b_Reader_count
  simp only [List.map_cons, List.map_nil, List.length_cons, List.length_nil, List.cons_append, List.nil_append]
  rw [show (List.replicate (4 - (0 + 1)) (none : Option D)) = [none, none, none] from rfl, seq_assoc, seq_nx (cnt1A T T1 t 48 cs hs hd hl)]
  have e2 : s_Reader_count_2 T T1 [some (.ref 1), some (.str (wd 48 cs)), some (.bl true), none] (shA t (wd 48 cs) 4 ++ [.lst [], .lst []]) = .ex 2 [(1, .int 4), (3, .int 0)] [some (.ref 1), some (.str (wd 48 cs)), some (.bl true), none] (shA t (wd 48 cs) 4 ++ [.lst [], .lst []]) := by
    have l1 : (wd 48 cs).length ≤ sizeLine := by show cs.length + 1 ≤ sizeLine; rw [sizeLine_eq]; omega
    have l2 : L2.atI (wd 48 cs).cps.toList 0 = some 48 := by
      unfold L2.atI L2.ixN
      rw [if_pos (by omega), if_pos (by show (0 : Int) < ((cs.length + 1 : Nat) : Int); omega)]
      rfl
    have l3 : (shA t (wd 48 cs) 4 ++ [O.lst [], .lst []])[1]? = some (.ins 4 [(3, .int 0), (7, .ref 2), (1, .int 4)]) := rfl
    simp [s_Reader_count_2, ifS, orB, notB, andB, tstE, binE, vE, cE, R.bind, R.bs, toB, idxD, l1, l2, eqD, neD, eq00, eqw0, h1, exprS, methE, l3, nilA, app_any]
    show R.bs (T 15 [.ref 1] (shA t (wd 48 cs) 4 ++ [.lst [], .lst []])) [some (.ref 1), some (.str (wd 48 cs)), some (.bl true), none] (fun _ s => .nx [some (.ref 1), some (.str (wd 48 cs)), some (.bl true), none] s) = _
    rw [hf]
    rfl
  unfold seqS
  rw [e2]
  kernel_rfl
theorem cnt1B (T T1 : Tab) (t t2 : Str) (c : Nat) (cs : List Nat) (hs : T 16 [.ref 3] (shB t t2 (wd c cs) 2) = .ok (.str (wd c cs)) (shB t t2 (wd c cs) 2)) (hd : ∀ d ∈ c :: cs, Dig d) (hl : cs.length ≤ 4) :
    seqS (s_Reader_count_0 T T1) (s_Reader_count_1 T T1) [some (.ref 3), none, none, none] (shB t t2 (wd c cs) 2) = .nx [some (.ref 3), some (.str (wd c cs)), some (.bl true), none] (shB t t2 (wd c cs) 2 ++ [.lst [], .lst []]) := by
  have e0 : s_Reader_count_0 T T1 [some (.ref 3), none, none, none] (shB t t2 (wd c cs) 2) = .nx [some (.ref 3), some (.str (wd c cs)), none, none] (shB t t2 (wd c cs) 2) := by
    show R.bs (appF (T 16) [.ref 3] (shB t t2 (wd c cs) 2)) _ _ = _
    rw [app_any, hs]
    rfl
  rw [seq_nx e0]
  show R.bs (R.bind (chE leD leD (cE (.int 1)) (callE lenD (argsE [vE 1])) (cE c_MOST_FIGURES) [some (.ref 3), some (.str (wd c cs)), none, none] (shB t t2 (wd c cs) 2)) _) _ _ = _
  rw [chB t t2 c cs hl]
  show R.bs (R.bind (lcE (srcV (vE 1)) (tgN 3) (tstE (binE notInS (vE 3) (cE c_FIGURES))) (vE 3) [3] [some (.ref 3), some (.str (wd c cs)), none, none] (shB t t2 (wd c cs) 2)) _) _ _ = _
  rw [lcB t t2 c cs hd]
  kernel_rfl
theorem cntbadB (T T1 : Tab) (t t2 : Str) (c : Nat) (cs : List Nat) (hs : T 16 [.ref 3] (shB t t2 (wd c cs) 2) = .ok (.str (wd c cs)) (shB t t2 (wd c cs) 2)) (hd : ∀ d ∈ c :: cs, Dig d) (hl : cs.length ≤ 4) (h0 : c = 48) (h1 : cs ≠ [])
    (hf : T 15 [.ref 3] (shB t t2 (wd c cs) 2 ++ [.lst [], .lst []]) = .ex 2 [(1, .int 2), (3, .int 1)] (shB t t2 (wd c cs) 2 ++ [.lst [], .lst []])) :
    fnF 4 (b_Reader_count T T1) [.ref 3] (shB t t2 (wd c cs) 2) = .ex 2 [(1, .int 2), (3, .int 1)] (shB t t2 (wd c cs) 2) := by
  subst h0
  rw [fnF_out]
  unfold b_Reader_count
  simp only [List.map_cons, List.map_nil, List.length_cons, List.length_nil, List.cons_append, List.nil_append]
  rw [show (List.replicate (4 - (0 + 1)) (none : Option D)) = [none, none, none] from rfl, seq_assoc, seq_nx (cnt1B T T1 t t2 48 cs hs hd hl)]
  have e2 : s_Reader_count_2 T T1 [some (.ref 3), some (.str (wd 48 cs)), some (.bl true), none] (shB t t2 (wd 48 cs) 2 ++ [.lst [], .lst []]) = .ex 2 [(1, .int 2), (3, .int 1)] [some (.ref 3), some (.str (wd 48 cs)), some (.bl true), none] (shB t t2 (wd 48 cs) 2 ++ [.lst [], .lst []]) := by
    have l1 : (wd 48 cs).length ≤ sizeLine := by show cs.length + 1 ≤ sizeLine; rw [sizeLine_eq]; omega
    have l2 : L2.atI (wd 48 cs).cps.toList 0 = some 48 := by
      unfold L2.atI L2.ixN
      rw [if_pos (by omega), if_pos (by show (0 : Int) < ((cs.length + 1 : Nat) : Int); omega)]
      rfl
    have l3 : (shB t t2 (wd 48 cs) 2 ++ [O.lst [], .lst []])[3]? = some (.ins 4 [(3, .int 1), (7, .ref 4), (1, .int 2)]) := rfl
    simp [s_Reader_count_2, ifS, orB, notB, andB, tstE, binE, vE, cE, R.bind, R.bs, toB, idxD, l1, l2, eqD, neD, eq00, eqw0, h1, exprS, methE, l3, nilA, app_any]
    show R.bs (T 15 [.ref 3] (shB t t2 (wd 48 cs) 2 ++ [.lst [], .lst []])) [some (.ref 3), some (.str (wd 48 cs)), some (.bl true), none] (fun _ s => .nx [some (.ref 3), some (.str (wd 48 cs)), some (.bl true), none] s) = _
    rw [hf]
    rfl
  unfold seqS
  rw [e2]
  kernel_rfl
end K22
set_option Elab.async false
set_option linter.all false
set_option maxRecDepth 100000
set_option maxHeartbeats 4000000
namespace K22
open PySem L2 Mi
theorem atI0 (c : Nat) (cs : List Nat) : L2.atI (wd c cs).cps.toList 0 = some c := by
  unfold L2.atI L2.ixN
  rw [if_pos (by omega), if_pos (by show (0 : Int) < ((cs.length + 1 : Nat) : Int); omega)]
  rfl
theorem cntgood (T T1 : Tab) (t : Str) (c : Nat) (cs : List Nat) (n : Int) (hs : T 16 [.ref 1] (shA t (wd c cs) 4) = .ok (.str (wd c cs)) (shA t (wd c cs) 4)) (hd : ∀ d ∈ c :: cs, Dig d) (hl : cs.length ≤ 4) (h0 : c ≠ 48 ∨ cs = []) (hi : PySem.intText? (wd c cs) = some n) :
    fnF 4 (b_Reader_count T T1) [.ref 1] (shA t (wd c cs) 4) = .ok (.int n) (shA t (wd c cs) 5) := by
  rw [fnF_out]
  unfold b_Reader_count
  simp only [List.map_cons, List.map_nil, List.length_cons, List.length_nil, List.cons_append, List.nil_append]
  rw [show (List.replicate (4 - (0 + 1)) (none : Option D)) = [none, none, none] from rfl, seq_assoc, seq_nx (cnt1A T T1 t c cs hs hd hl)]
  have l1 : (wd c cs).length ≤ sizeLine := by show cs.length + 1 ≤ sizeLine; rw [sizeLine_eq]; omega
  have l2 := atI0 c cs
  have l6 : (wd c cs).length ≤ 640 := by show cs.length + 1 ≤ 640; omega
  have e2 : s_Reader_count_2 T T1 [some (.ref 1), some (.str (wd c cs)), some (.bl true), none] (shA t (wd c cs) 4 ++ [.lst [], .lst []]) = .nx [some (.ref 1), some (.str (wd c cs)), some (.bl true), none] (shA t (wd c cs) 4 ++ [.lst [], .lst []]) := by
    by_cases h48 : c = 48
    · have hc := h0.resolve_left fun z => z h48
      simp [s_Reader_count_2, ifS, orB, notB, andB, tstE, binE, vE, cE, R.bind, R.bs, toB, idxD, l1, l2, eqD, neD, eq00, eqw0, h48, hc, nilS]
      subst h48 hc
      rfl
    · simp [s_Reader_count_2, ifS, orB, notB, andB, tstE, binE, vE, cE, R.bind, R.bs, toB, idxD, l1, l2, eqD, neD, eq00, eqw0, h48, nilS]
  have e3 : s_Reader_count_3 T T1 [some (.ref 1), some (.str (wd c cs)), some (.bl true), none] (shA t (wd c cs) 4 ++ [.lst [], .lst []]) = .nx [some (.ref 1), some (.str (wd c cs)), some (.bl true), none] (shA t (wd c cs) 5 ++ [.lst [], .lst []]) := by kernel_rfl
  have e4 : s_Reader_count_4 T T1 [some (.ref 1), some (.str (wd c cs)), some (.bl true), none] (shA t (wd c cs) 5 ++ [.lst [], .lst []]) = .rt (.int n) (shA t (wd c cs) 5 ++ [.lst [], .lst []]) := by
    simp [s_Reader_count_4, retS, callE, argsE, consA, nilA, vE, R.bind, R.bs, intD, hi, l6]
  rw [seq_nx e2, seq_nx e3, e4]
  kernel_rfl
/-! ## one row: ( num w ) -/
abbrev TW := (tabs 36).1
theorem TW17 : TW 17 = fnF 4 (b_Reader_count (tabs 35).1 (tabs 35).2) := by kernel_rfl
theorem seen35 (t w : Str) : (tabs 35).1 16 [.ref 1] (shA t w 4) = .ok (.str w) (shA t w 4) := seenA (tabs 34).1 (tabs 34).2 t w
theorem fail35 (t w : Str) : (tabs 35).1 15 [.ref 1] (shA t w 4 ++ [.lst [], .lst []]) = .ex 2 [(1, .int 4), (3, .int 0)] (shA t w 4 ++ [.lst [], .lst []]) := failA (tabs 34).1 (tabs 34).2 t w (.lst []) (.lst []) rfl rfl
theorem tree_a (t w : Str) : seqS (s_Reader_tree_0 TW (tabs 36).2) (seqS (s_Reader_tree_1 TW (tabs 36).2) (seqS (s_Reader_tree_2 TW (tabs 36).2) (seqS (s_Reader_tree_3 TW (tabs 36).2) (s_Reader_tree_4 TW (tabs 36).2)))) [some (.ref 1), none, none, none] (shA t w 2) = .nx [some (.ref 1), some (.str "num"), some (.tup [.str "num"]), none] (shA t w 4) := by kernel_rfl
def t5 : Ev → M Bool := tstE (binE inD (vE 1) (binE addD (tupE (argsE [(cE (.str "num")), (cE (.str "name")), (cE (.str "let")), (cE (.str "call"))])) (cE c_GOES)))
def e5 : Ev := [some (.ref 1), some (.str "num"), some (.tup [.str "num"]), none]
theorem t5_ok (t w : Str) : t5 e5 (shA t w 4) = .ok true (shA t w 4) := by kernel_rfl
theorem tree_5g (t w : Str) (n : Int) (h : TW 17 [.ref 1] (shA t w 4) = .ok (.int n) (shA t w 5)) : s_Reader_tree_5 TW (tabs 36).2 e5 (shA t w 4) = .nx [some (.ref 1), some (.str "num"), some (.tup [.str "num", .int n]), none] (shA t w 5) := by
  show R.bs (t5 e5 (shA t w 4)) e5 (fun k s => if k = true then setS 2 (binE addD (vE 2) (tupE (argsE [(methE 4 (TW 17) (vE 0) nilA)]))) e5 s else nilS e5 s) = _
  rw [t5_ok]
  simp only [R.bs, if_true, setS, binE, vE, e5, R.bind, tupE, argsE, consA]
  have m : methE 4 (TW 17) (vE 0) nilA [some (.ref 1), some (.str "num"), some (.tup [.str "num"]), none] (shA t w 4) = .ok (.int n) (shA t w 5) := by
    show appF (TW 17) [.ref 1] (shA t w 4) = _
    rw [app_any, h]
  simp [vE] at m ⊢
  rw [m]
  kernel_rfl
theorem tree_5b (t w : Str) (fs : List (Nat × D)) (h : TW 17 [.ref 1] (shA t w 4) = .ex 2 fs (shA t w 4)) : s_Reader_tree_5 TW (tabs 36).2 e5 (shA t w 4) = .ex 2 fs e5 (shA t w 4) := by
  show R.bs (t5 e5 (shA t w 4)) e5 (fun k s => if k = true then setS 2 (binE addD (vE 2) (tupE (argsE [(methE 4 (TW 17) (vE 0) nilA)]))) e5 s else nilS e5 s) = _
  rw [t5_ok]
  simp only [R.bs, if_true, setS, binE, vE, e5, R.bind, tupE, argsE, consA]
  have m : methE 4 (TW 17) (vE 0) nilA [some (.ref 1), some (.str "num"), some (.tup [.str "num"]), none] (shA t w 4) = .ex 2 fs (shA t w 4) := by
    show appF (TW 17) [.ref 1] (shA t w 4) = _
    rw [app_any, h]
  simp [vE] at m ⊢
  rw [m]
theorem tree_b (t w : Str) (n : Int) : gc (shA t w 2) (SR.out (seqS (s_Reader_tree_6 TW (tabs 36).2) (seqS (s_Reader_tree_7 TW (tabs 36).2) (seqS (s_Reader_tree_8 TW (tabs 36).2) (seqS (s_Reader_tree_9 TW (tabs 36).2) (s_Reader_tree_10 TW (tabs 36).2)))) [some (.ref 1), some (.str "num"), some (.tup [.str "num", .int n]), none] (shA t w 5))) = .ok (.tup [.str "num", .int n]) (shA t w 6) := by kernel_rfl
end K22
set_option Elab.async false
set_option linter.all false
set_option maxRecDepth 100000
set_option maxHeartbeats 4000000
namespace K22
open PySem L2 Mi
theorem seq5 (a b c d e r : SF) (η : Ev) (s : S) : seqS a (seqS b (seqS c (seqS d (seqS e r)))) η s = seqS (seqS a (seqS b (seqS c (seqS d e)))) r η s := by
  unfold seqS
  cases a η s <;> try rfl
  rename_i η1 s1
  simp only [SR.seq]
  cases b η1 s1 <;> try rfl
  rename_i η2 s2
  simp only [SR.seq]
  cases c η2 s2 <;> try rfl
  rename_i η3 s3
  simp only [SR.seq]
  cases d η3 s3 <;> rfl
abbrev TX := (tabs 37).1
theorem TX19 : TX 19 = fnF 4 (b_Reader_tree TW (tabs 36).2) := by kernel_rfl
theorem tree_good (t w : Str) (n : Int) (h : TW 17 [.ref 1] (shA t w 4) = .ok (.int n) (shA t w 5)) : TX 19 [.ref 1] (shA t w 2) = .ok (.tup [.str "num", .int n]) (shA t w 6) := by
  rw [TX19, fnF_out]
  unfold b_Reader_tree
  simp only [List.map_cons, List.map_nil, List.length_cons, List.length_nil, List.cons_append, List.nil_append]
  rw [show (List.replicate (4 - (0 + 1)) (none : Option D)) = [none, none, none] from rfl, seq5, seq_nx (tree_a t w)]
  have e := tree_5g t w n h
  unfold e5 at e
  rw [seq_nx e]
  exact tree_b t w n
theorem tree_bad (t w : Str) (h : TW 17 [.ref 1] (shA t w 4) = .ex 2 [(1, .int 4), (3, .int 0)] (shA t w 4)) : TX 19 [.ref 1] (shA t w 2) = .ex 2 [(1, .int 4), (3, .int 0)] (shA t w 4) := by
  rw [TX19, fnF_out]
  unfold b_Reader_tree
  simp only [List.map_cons, List.map_nil, List.length_cons, List.length_nil, List.cons_append, List.nil_append]
  rw [show (List.replicate (4 - (0 + 1)) (none : Option D)) = [none, none, none] from rfl, seq5, seq_nx (tree_a t w)]
  have e := tree_5b t w _ h
  unfold e5 at e
  unfold seqS
  rw [e]
  kernel_rfl
/-! ## whole -/
abbrev TY := (tabs 38).1
theorem TY20 : TY 20 = fnF 5 (b_Reader_whole TX (tabs 37).2) := by kernel_rfl
def sh0 (t w : Str) : S := [.lst [.str t], .ins 4 [(3, .int 0), (7, .ref 2), (1, .int 0)], .lst [.str "0", .str "0", .str "(", .str "num", .str w, .str ")"]]
def sh6 (t w : Str) : S := [.lst [.str t], .ins 4 [(3, .int 0), (7, .ref 2), (1, .int 6)], .lst [.str "0", .str "0", .str "(", .str "num", .str w, .str ")"]]
theorem whole_a (t w : Str) : seqS (s_Reader_whole_0 TX (tabs 37).2) (s_Reader_whole_1 TX (tabs 37).2) [some (.ref 1), none, none, none, none] (sh0 t w) = .nx [some (.ref 1), some (.int 0), some (.tup []), none, none] (shA t w 2) := by kernel_rfl
def eW : Ev := [some (.ref 1), some (.int 0), some (.tup []), none, none]
theorem whole_2 (t w : Str) (r : R D) (h : TX 19 [.ref 1] (shA t w 2) = r) : s_Reader_whole_2 TX (tabs 37).2 eW (shA t w 2) = r.bs eW fun d s => .nx (eW.set 3 (some d)) s := by
  show R.bs (appF (TX 19) [.ref 1] (shA t w 2)) eW _ = _
  rw [app_any, h]
theorem whole_b (t w : Str) (n : Int) : gc (sh0 t w) (SR.out (seqS (s_Reader_whole_3 TX (tabs 37).2) (s_Reader_whole_4 TX (tabs 37).2) [some (.ref 1), some (.int 0), some (.tup []), some (.tup [.str "num", .int n]), none] (shA t w 6))) = .ok (.tup [.tup [], .int 0, .tup [.str "num", .int n]]) (sh6 t w) := by kernel_rfl
theorem whole_good (t w : Str) (n : Int) (h : TW 17 [.ref 1] (shA t w 4) = .ok (.int n) (shA t w 5)) : TY 20 [.ref 1] (sh0 t w) = .ok (.tup [.tup [], .int 0, .tup [.str "num", .int n]]) (sh6 t w) := by
  rw [TY20, fnF_out]
  unfold b_Reader_whole
  simp only [List.map_cons, List.map_nil, List.length_cons, List.length_nil, List.cons_append, List.nil_append]
  rw [show (List.replicate (5 - (0 + 1)) (none : Option D)) = [none, none, none, none] from rfl, seq_assoc, seq_nx (whole_a t w)]
  have e := whole_2 t w _ (tree_good t w n h)
  unfold eW at e
  rw [seq_nx (η' := [some (.ref 1), some (.int 0), some (.tup []), some (.tup [.str "num", .int n]), none]) (s' := shA t w 6) (by rw [e]; rfl)]
  exact whole_b t w n
theorem whole_bad (t w : Str) (h : TW 17 [.ref 1] (shA t w 4) = .ex 2 [(1, .int 4), (3, .int 0)] (shA t w 4)) : ∃ s, TY 20 [.ref 1] (sh0 t w) = .ex 2 [(1, .int 4), (3, .int 0)] s := by
  rw [TY20, fnF_out]
  unfold b_Reader_whole
  simp only [List.map_cons, List.map_nil, List.length_cons, List.length_nil, List.cons_append, List.nil_append]
  rw [show (List.replicate (5 - (0 + 1)) (none : Option D)) = [none, none, none, none] from rfl, seq_assoc, seq_nx (whole_a t w)]
  have e := whole_2 t w _ (tree_bad t w h)
  unfold eW at e
  unfold seqS
  rw [e]
  exact ⟨(shA t w 4).take 3, by kernel_rfl⟩
end K22
set_option Elab.async false
set_option linter.all false
set_option maxRecDepth 100000
set_option maxHeartbeats 4000000
namespace K22
open PySem L2 Mi
abbrev wsA (w : Str) : List Str := ["0", "0", "(", "num", w, ")"]
theorem TY14 : TY 14 = fnF 3 (b_Reader_init TX (tabs 37).2) := by kernel_rfl
theorem init_ok' (t w : Str) (ht : t.length ≤ 1000) (hs : Txt.split t " " = wsA w) : TY 14 [.ref 1, .int 0, .str t] [.lst [.str t], .ins 4 []] = .ok .non (sh0 t w) := by
  have l1 : t.length + 2 ≤ sizeLine := by rw [sizeLine_eq]; omega
  have l2 : ((" " : Str).length == 0) = false := rfl
  rw [TY14, fnF_out]
  unfold b_Reader_init
  simp only [List.map_cons, List.map_nil, List.length_cons, List.length_nil, List.cons_append, List.nil_append]
  have e0 : s_Reader_init_0 TX (tabs 37).2 [some (.ref 1), some (.int 0), some (.str t)] [.lst [.str t], .ins 4 []] = .nx [some (.ref 1), some (.int 0), some (.str t)] [.lst [.str t], .ins 4 [(3, .int 0)]] := by kernel_rfl
  have e1 : s_Reader_init_1 TX (tabs 37).2 [some (.ref 1), some (.int 0), some (.str t)] [.lst [.str t], .ins 4 [(3, .int 0)]] = .nx [some (.ref 1), some (.int 0), some (.str t)] [.lst [.str t], .ins 4 [(3, .int 0), (7, .ref 2)], .lst ((wsA w).map D.str)] := by
    simp [s_Reader_init_1, setA, splitE, vE, cE, R.bind, R.bs, l1, l2, hs, putA]
  have e2 : s_Reader_init_2 TX (tabs 37).2 [some (.ref 1), some (.int 0), some (.str t)] [.lst [.str t], .ins 4 [(3, .int 0), (7, .ref 2)], .lst ((wsA w).map D.str)] = .nx [some (.ref 1), some (.int 0), some (.str t)] (sh0 t w) := by kernel_rfl
  rw [show (List.replicate (3 - (0 + 1 + 1 + 1)) (none : Option D)) = [] from rfl, seq_nx e0, seq_nx e1, e2]
  kernel_rfl
theorem TA21 : TA 21 = fnF 4 (b_read TY (tabs 38).2) := by kernel_rfl
def eltR : Ev → M D := methE 4 (TY 20) (mkE 4 (TY 14) (argsE [(vE 3), (binE idxD (vE 1) (vE 3))])) nilA
theorem elt_eval (t w : Str) (r : R D) (ht : t.length ≤ 1000) (hs : Txt.split t " " = wsA w) (h : TY 20 [.ref 1] (sh0 t w) = r) : eltR [some (.str t), some (.ref 0), none, some (.int 0)] [.lst [.str t]] = r := by
  have m : mkE 4 (TY 14) (argsE [(vE 3), (binE idxD (vE 1) (vE 3))]) [some (.str t), some (.ref 0), none, some (.int 0)] [.lst [.str t]] = .ok (.ref 1) (sh0 t w) := by
    show (match TY 14 [.ref 1, .int 0, .str t] [.lst [.str t], .ins 4 []] with
      | .ok .non s2 => R.ok (D.ref 1) s2
      | _ => .bad) = _
    rw [init_ok' t w ht hs]
  unfold eltR methE
  rw [m]
  show appF (TY 20) [.ref 1] (sh0 t w) = r
  rw [app_any, h]
def lcR : Ev → M D := lcE (srcR rng1 (argsE [(callE lenD (argsE [(vE 1)]))])) (tgN 3) yesB eltR [3]
theorem read_1_eq : s_read_1 TY (tabs 38).2 = setS 2 (callE tupleD (argsE [lcR])) := rfl
theorem read_0 (t : Str) (ht : t.length ≤ 1000) (hn : Txt.split t "\n" = [t]) : s_read_0 TY (tabs 38).2 [some (.str t), none, none, none] [] = .nx [some (.str t), some (.ref 0), none, none] [.lst [.str t]] := by
  have l1 : t.length + 2 ≤ sizeLine := by rw [sizeLine_eq]; omega
  have l2 : (("\n" : Str).length == 0) = false := rfl
  simp [s_read_0, setS, splitE, vE, cE, R.bind, R.bs, l1, l2, hn]
theorem lc_one (f : Ev → M D) (t : Str) (r : R D) (h : f [some (.str t), some (.ref 0), none, some (.int 0)] [.lst [.str t]] = r) : lcE (srcR rng1 (argsE [(callE lenD (argsE [(vE 1)]))])) (tgN 3) yesB f [3] [some (.str t), some (.ref 0), none, none] [.lst [.str t]] = (r.bind fun y s2 => .ok [y] s2).bind fun acc s2 => .ok (.ref s2.length) (s2 ++ [.lst acc]) := by
  simp [fnF, runB, seqS, ifS, ifE, tstE, binE, vE, cE, toB, R.bind, R.bs, SR.seq, setS, retS, exprS, nilS, unpS, tgT, tgN, setMany, slE, noO, yesO, toI, callE, argsE, consA, nilA, andB, orB, notB, andV, orV, notV, chE, forS, forR, loop, gc, okOld, below, O.refs, D.refs, refsL, gtD, ltD, leD, geD, isiE, tyD, isT, lenD, itemsOf, itemsI, chkOf, rng1, rngL, small62, lstE, tupE, lcE, lcL, srcV, yesB, wipeE, raiseS, negE, neD, eqD, eqS, idxD, L2.atI, L2.ixN, lenSetE, lstInts, intsOf, dedupI, PyProof.Rows.step_dedup, subD, addD, mulD, modD, srcR, h]
theorem lcR_eval (t : Str) (r : R D) (h : eltR [some (.str t), some (.ref 0), none, some (.int 0)] [.lst [.str t]] = r) : lcR [some (.str t), some (.ref 0), none, none] [.lst [.str t]] = (r.bind fun y s2 => .ok [y] s2).bind fun acc s2 => .ok (.ref s2.length) (s2 ++ [.lst acc]) := lc_one eltR t r h
theorem set_tuple (f : Ev → M D) (η : Ev) (s : S) : setS 2 (callE tupleD (argsE [f])) η s = ((f η s).bind fun d s => tupleD [d] s).bs η fun d s => .nx (η.set 2 (some d)) s := by
  simp only [setS, callE, argsE, consA, nilA]
  cases f η s <;> rfl
theorem expr_call (F : List D → M D) (x0 x1 x3 : Option D) (d : D) (s : S) : exprS (callE (appF F) (argsE [vE 2])) [x0, x1, some d, x3] s = (appF F [d] s).bs [x0, x1, some d, x3] fun _ s => .nx [x0, x1, some d, x3] s := by
  simp [exprS, callE, argsE, consA, nilA, vE, R.bind]
theorem read_good (t w : Str) (n : Int) (ht : t.length ≤ 1000) (hn : Txt.split t "\n" = [t]) (hs : Txt.split t " " = wsA w) (h : TW 17 [.ref 1] (shA t w 4) = .ok (.int n) (shA t w 5)) (hp : TY 12 [.tup [.tup [.tup [], .int 0, .tup [.str "num", .int n]]]] [] = .ok .non []) :
    TA 21 [.str t] [] = .ok (.tup [.tup [.tup [], .int 0, .tup [.str "num", .int n]]]) [] := by
  rw [TA21, fnF_out]
  unfold b_read
  simp only [List.map_cons, List.map_nil, List.length_cons, List.length_nil, List.cons_append, List.nil_append]
  rw [show (List.replicate (4 - (0 + 1)) (none : Option D)) = [none, none, none] from rfl, seq_nx (read_0 t ht hn)]
  have e1 : s_read_1 TY (tabs 38).2 [some (.str t), some (.ref 0), none, none] [.lst [.str t]] = .nx [some (.str t), some (.ref 0), some (.tup [.tup [.tup [], .int 0, .tup [.str "num", .int n]]]), none] (sh6 t w ++ [.lst [.tup [.tup [], .int 0, .tup [.str "num", .int n]]]]) := by
    rw [read_1_eq, set_tuple, lcR_eval t _ (elt_eval t w _ ht hs (whole_good t w n h))]
    kernel_rfl
  have ap : ∀ s : S, appF (TY 12) [.tup [.tup [.tup [], .int 0, .tup [.str "num", .int n]]]] s = .ok .non s := fun s => by
    unfold appF
    simp [D.refs, refsL, hp]
  have e2 : s_read_2 TY (tabs 38).2 [some (.str t), some (.ref 0), some (.tup [.tup [.tup [], .int 0, .tup [.str "num", .int n]]]), none] (sh6 t w ++ [.lst [.tup [.tup [], .int 0, .tup [.str "num", .int n]]]]) = .nx [some (.str t), some (.ref 0), some (.tup [.tup [.tup [], .int 0, .tup [.str "num", .int n]]]), none] (sh6 t w ++ [.lst [.tup [.tup [], .int 0, .tup [.str "num", .int n]]]]) := by
    have := expr_call (TY 12) (some (.str t)) (some (.ref 0)) none (.tup [.tup [.tup [], .int 0, .tup [.str "num", .int n]]]) (sh6 t w ++ [.lst [.tup [.tup [], .int 0, .tup [.str "num", .int n]]]])
    rw [ap] at this
    exact this
  rw [seq_nx e1, seq_nx e2]
  kernel_rfl
theorem read_bad (t w : Str) (ht : t.length ≤ 1000) (hn : Txt.split t "\n" = [t]) (hs : Txt.split t " " = wsA w) (h : TW 17 [.ref 1] (shA t w 4) = .ex 2 [(1, .int 4), (3, .int 0)] (shA t w 4)) :
    TA 21 [.str t] [] = .ex 2 [(1, .int 4), (3, .int 0)] [] := by
  obtain ⟨s, hw⟩ := whole_bad t w h
  rw [TA21, fnF_out]
  unfold b_read
  simp only [List.map_cons, List.map_nil, List.length_cons, List.length_nil, List.cons_append, List.nil_append]
  rw [show (List.replicate (4 - (0 + 1)) (none : Option D)) = [none, none, none] from rfl, seq_nx (read_0 t ht hn)]
  have e1 : s_read_1 TY (tabs 38).2 [some (.str t), some (.ref 0), none, none] [.lst [.str t]] = .ex 2 [(1, .int 4), (3, .int 0)] [some (.str t), some (.ref 0), none, none] s := by
    rw [read_1_eq, set_tuple, lcR_eval t _ (elt_eval t w _ ht hs hw)]
    rfl
  unfold seqS
  rw [e1]
  kernel_rfl
end K22
set_option Elab.async false
set_option linter.all false
set_option maxRecDepth 100000
set_option maxHeartbeats 4000000
namespace K22
open PySem L2 Mi
abbrev wsB (w : Str) : List Str := ["0", "1", w, "0", "(", "num", "1", ")"]
abbrev fsB : List (Nat × D) := [(1, .int 2), (3, .int 1)]
theorem TX17 : TX 17 = fnF 4 (b_Reader_count TW (tabs 36).2) := by kernel_rfl
theorem seen36 (t t2 w : Str) : TW 16 [.ref 3] (shB t t2 w 2) = .ok (.str w) (shB t t2 w 2) := seenB (tabs 35).1 (tabs 35).2 t t2 w
theorem fail36 (t t2 w : Str) : TW 15 [.ref 3] (shB t t2 w 2 ++ [.lst [], .lst []]) = .ex 2 fsB (shB t t2 w 2 ++ [.lst [], .lst []]) := failB (tabs 35).1 (tabs 35).2 t t2 w (.lst []) (.lst []) rfl rfl
theorem cntB_bad (t t2 : Str) (cs : List Nat) (hd : ∀ d ∈ 48 :: cs, Dig d) (hl : cs.length ≤ 4) (h1 : cs ≠ []) : TX 17 [.ref 3] (shB t t2 (wd 48 cs) 2) = .ex 2 fsB (shB t t2 (wd 48 cs) 2) := by
  rw [TX17]
  exact cntbadB TW (tabs 36).2 t t2 48 cs (seen36 t t2 _) hd hl rfl h1 (fail36 t t2 _)
theorem cntB_1 (t t2 w : Str) : TX 17 [.ref 3] (shB t t2 w 1) = .ok (.int 1) (shB t t2 w 2) := by kernel_rfl
theorem whole1_ex (F : List D → M D) {s1 s2 s3 : S} {f1 f2 : List (Nat × D)} {c : Nat} {fs : List (Nat × D)} {x1 : Option D} (h1 : F [.ref 3] s1 = .ok (.int 1) s2) (h2 : F [.ref 3] s2 = .ex c fs s3) (i1 : s1[3]? = some (.ins 4 f1)) (i2 : s2[3]? = some (.ins 4 f2)) :
    setS 2 (callE tupleD (argsE [lcE (srcR rng1 (argsE [methE 4 F (vE 0) nilA])) (tgN 4) yesB (tupE (argsE [methE 4 F (vE 0) nilA, methE 4 F (vE 0) nilA])) [4]])) [some (.ref 3), x1, none, none, none] s1 = .ex c fs [some (.ref 3), x1, none, none, none] s3 := by
  have m1 : ∀ x4, methE 4 F (vE 0) nilA [some (.ref 3), x1, none, none, x4] s1 = .ok (.int 1) s2 := fun x4 => by
    simp only [methE, vE, R.bind, List.getElem?_cons_zero, i1, if_true, nilA, app_any, h1]
  have m2 : ∀ x4, methE 4 F (vE 0) nilA [some (.ref 3), x1, none, none, x4] s2 = .ex c fs s3 := fun x4 => by
    simp only [methE, vE, R.bind, List.getElem?_cons_zero, i2, if_true, nilA, app_any, h2]
  simp [setS, callE, argsE, consA, nilA, lcE, srcR, rng1, rngL, small62, lcL, yesB, tgN, wipeE, tupE, R.bind, R.bs, m1, m2]
theorem whole_badB (t t2 w : Str) (h : TX 17 [.ref 3] (shB t t2 w 2) = .ex 2 fsB (shB t t2 w 2)) : ∃ s, TY 20 [.ref 3] (shB t t2 w 0) = .ex 2 fsB s := by
  rw [TY20, fnF_out]
  unfold b_Reader_whole
  simp only [List.map_cons, List.map_nil, List.length_cons, List.length_nil, List.cons_append, List.nil_append]
  have e0 : s_Reader_whole_0 TX (tabs 37).2 [some (.ref 3), none, none, none, none] (shB t t2 w 0) = .nx [some (.ref 3), some (.int 0), none, none, none] (shB t t2 w 1) := by kernel_rfl
  have e1 : s_Reader_whole_1 TX (tabs 37).2 [some (.ref 3), some (.int 0), none, none, none] (shB t t2 w 1) = .ex 2 fsB [some (.ref 3), some (.int 0), none, none, none] (shB t t2 w 2) := whole1_ex (TX 17) (cntB_1 t t2 w) h rfl rfl
  rw [show (List.replicate (5 - (0 + 1)) (none : Option D)) = [none, none, none, none] from rfl, seq_nx e0]
  unfold seqS
  rw [e1]
  exact ⟨shB t t2 w 2, by kernel_rfl⟩
abbrev t1c : Str := "0 0 ( num 1 )"
def s1B (t2 : Str) : S := [.lst [.str t1c, .str t2], .ins 4 [(3, .int 0), (7, .ref 2), (1, .int 6)], .lst [.str "0", .str "0", .str "(", .str "num", .str "1", .str ")"]]
theorem eltB_0 (t t2 : Str) : eltR [some (.str t), some (.ref 0), none, some (.int 0)] [.lst [.str t1c, .str t2]] = .ok (.tup [.tup [], .int 0, .tup [.str "num", .int 1]]) (s1B t2) := by kernel_rfl
theorem initB (t2 w : Str) (ht : t2.length ≤ 1000) (hs : Txt.split t2 " " = wsB w) : TY 14 [.ref 3, .int 1, .str t2] (s1B t2 ++ [.ins 4 []]) = .ok .non (shB t1c t2 w 0) := by
  have l1 : t2.length + 2 ≤ sizeLine := by rw [sizeLine_eq]; omega
  have l2 : ((" " : Str).length == 0) = false := rfl
  rw [TY14, fnF_out]
  unfold b_Reader_init
  simp only [List.map_cons, List.map_nil, List.length_cons, List.length_nil, List.cons_append, List.nil_append]
  have e0 : s_Reader_init_0 TX (tabs 37).2 [some (.ref 3), some (.int 1), some (.str t2)] (s1B t2 ++ [.ins 4 []]) = .nx [some (.ref 3), some (.int 1), some (.str t2)] (s1B t2 ++ [.ins 4 [(3, .int 1)]]) := by kernel_rfl
  have e1 : s_Reader_init_1 TX (tabs 37).2 [some (.ref 3), some (.int 1), some (.str t2)] (s1B t2 ++ [.ins 4 [(3, .int 1)]]) = .nx [some (.ref 3), some (.int 1), some (.str t2)] (s1B t2 ++ [.ins 4 [(3, .int 1), (7, .ref 4)], .lst ((wsB w).map D.str)]) := by
    simp [s_Reader_init_1, setA, splitE, vE, cE, R.bind, R.bs, l1, l2, hs, putA, s1B]
  have e2 : s_Reader_init_2 TX (tabs 37).2 [some (.ref 3), some (.int 1), some (.str t2)] (s1B t2 ++ [.ins 4 [(3, .int 1), (7, .ref 4)], .lst ((wsB w).map D.str)]) = .nx [some (.ref 3), some (.int 1), some (.str t2)] (shB t1c t2 w 0) := by kernel_rfl
  rw [show (List.replicate (3 - (0 + 1 + 1 + 1)) (none : Option D)) = [] from rfl, seq_nx e0, seq_nx e1, e2]
  kernel_rfl
theorem eltB_1 (t t2 w : Str) (r : R D) (ht : t2.length ≤ 1000) (hs : Txt.split t2 " " = wsB w) (h : TY 20 [.ref 3] (shB t1c t2 w 0) = r) : eltR [some (.str t), some (.ref 0), none, some (.int 1)] (s1B t2) = r := by
  have m : mkE 4 (TY 14) (argsE [(vE 3), (binE idxD (vE 1) (vE 3))]) [some (.str t), some (.ref 0), none, some (.int 1)] (s1B t2) = .ok (.ref 3) (shB t1c t2 w 0) := by
    show (match TY 14 [.ref 3, .int 1, .str t2] (s1B t2 ++ [.ins 4 []]) with
      | .ok .non s2 => R.ok (D.ref 3) s2
      | _ => .bad) = _
    rw [initB t2 w ht hs]
  unfold eltR methE
  rw [m]
  show appF (TY 20) [.ref 3] (shB t1c t2 w 0) = r
  rw [app_any, h]
theorem lc_two (f : Ev → M D) (t t1 t2 : Str) {d : D} {s1 s2 : S} {c : Nat} {fs : List (Nat × D)} (h1 : f [some (.str t), some (.ref 0), none, some (.int 0)] [.lst [.str t1, .str t2]] = .ok d s1) (h2 : f [some (.str t), some (.ref 0), none, some (.int 1)] s1 = .ex c fs s2) :
    lcE (srcR rng1 (argsE [(callE lenD (argsE [(vE 1)]))])) (tgN 3) yesB f [3] [some (.str t), some (.ref 0), none, none] [.lst [.str t1, .str t2]] = .ex c fs s2 := by
  simp [fnF, runB, seqS, ifS, ifE, tstE, binE, vE, cE, toB, R.bind, R.bs, SR.seq, setS, retS, exprS, nilS, unpS, tgT, tgN, setMany, slE, noO, yesO, toI, callE, argsE, consA, nilA, andB, orB, notB, andV, orV, notV, chE, forS, forR, loop, gc, okOld, below, O.refs, D.refs, refsL, gtD, ltD, leD, geD, isiE, tyD, isT, lenD, itemsOf, itemsI, chkOf, rng1, rngL, small62, lstE, tupE, lcE, lcL, srcV, yesB, wipeE, raiseS, negE, neD, eqD, eqS, idxD, L2.atI, L2.ixN, lenSetE, lstInts, intsOf, dedupI, PyProof.Rows.step_dedup, subD, addD, mulD, modD, srcR, h1, h2]
theorem readB_0 (t t2 : Str) (ht : t.length ≤ 1000) (hn : Txt.split t "\n" = [t1c, t2]) : s_read_0 TY (tabs 38).2 [some (.str t), none, none, none] [] = .nx [some (.str t), some (.ref 0), none, none] [.lst [.str t1c, .str t2]] := by
  have l1 : t.length + 2 ≤ sizeLine := by rw [sizeLine_eq]; omega
  have l2 : (("\n" : Str).length == 0) = false := rfl
  simp [s_read_0, setS, splitE, vE, cE, R.bind, R.bs, l1, l2, hn]
theorem readB_bad (t t2 w : Str) (ht : t.length ≤ 1000) (ht2 : t2.length ≤ 1000) (hn : Txt.split t "\n" = [t1c, t2]) (hs : Txt.split t2 " " = wsB w) (h : TX 17 [.ref 3] (shB t1c t2 w 2) = .ex 2 fsB (shB t1c t2 w 2)) :
    TA 21 [.str t] [] = .ex 2 fsB [] := by
  obtain ⟨s, hw⟩ := whole_badB t1c t2 w h
  rw [TA21, fnF_out]
  unfold b_read
  simp only [List.map_cons, List.map_nil, List.length_cons, List.length_nil, List.cons_append, List.nil_append]
  rw [show (List.replicate (4 - (0 + 1)) (none : Option D)) = [none, none, none] from rfl, seq_nx (readB_0 t t2 ht hn)]
  have e1 : s_read_1 TY (tabs 38).2 [some (.str t), some (.ref 0), none, none] [.lst [.str t1c, .str t2]] = .ex 2 fsB [some (.str t), some (.ref 0), none, none] s := by
    rw [read_1_eq, set_tuple]
    have := lc_two eltR t t1c t2 (eltB_0 t t2) (eltB_1 t t2 w _ ht2 hs hw)
    unfold lcR
    rw [this]
    rfl
  unfold seqS
  rw [e1]
  kernel_rfl
end K22
set_option Elab.async false
set_option linter.all false
set_option maxRecDepth 100000
set_option maxHeartbeats 4000000
namespace K22
open PySem L2 Mi
abbrev nmD (n : Int) : D := .tup [.str "num", .int n]
abbrev pgD (n : Int) : D := .tup [.tup [], .int 0, nmD n]
abbrev insY (n k : Int) : O := .ins 3 [(4, .tup [pgD n]), (5, .int 0), (1, .int k), (6, .int 0)]
theorem form0 (n : Int) : seqS (s_is_form_0 (tabs 35).1 (tabs 35).2) (s_is_form_1 (tabs 35).1 (tabs 35).2) [some (nmD n), none] [] = .nx [some (nmD n), some (.str "num")] [] := by kernel_rfl
theorem form_num {n : Int} (n0 : 0 ≤ n) (n1 : n ≤ 10006) : fnF 2 (b_is_form (tabs 35).1 (tabs 35).2) [nmD n] [] = .ok (.bl true) [] := by
  have e2 : ∀ f : SF, seqS (s_is_form_2 (tabs 35).1 (tabs 35).2) f [some (nmD n), some (.str "num")] [] = .rt (.bl true) [] := by
    intro f
    have := num_ap num35 n 10006
    generalize (tabs 35).1 = T at *
    simp [fnF, runB, seqS, ifS, ifE, tstE, binE, vE, cE, toB, R.bind, R.bs, SR.seq, setS, retS, exprS, nilS, unpS, tgT, tgN, setMany, slE, noO, yesO, toI, callE, argsE, consA, nilA, andB, orB, notB, andV, orV, notV, chE, forS, forR, loop, gc, okOld, below, O.refs, D.refs, refsL, gtD, ltD, leD, geD, isiE, tyD, isT, lenD, itemsOf, itemsI, chkOf, rng1, rngL, small62, lstE, tupE, lcE, lcL, srcV, yesB, wipeE, raiseS, negE, neD, eqD, eqS, idxD, L2.atI, L2.ixN, lenSetE, lstInts, intsOf, dedupI, PyProof.Rows.step_dedup, subD, addD, mulD, modD, s_is_form_2, c_PRIME, this, n0, n1]
  rw [fnF_out]
  unfold b_is_form
  simp only [List.map_cons, List.map_nil, List.length_cons, List.length_nil, List.cons_append, List.nil_append]
  rw [show (List.replicate (2 - (0 + 1)) (none : Option D)) = [none] from rfl, seq_assoc, seq_nx (form0 n), e2]
  rfl
theorem TW2 : TN 2 = fnF 2 (b_is_form (tabs 35).1 (tabs 35).2) := by kernel_rfl
theorem TX7 : TX 7 = fnF 8 (b_Looker_depth TN TN1) := by kernel_rfl
theorem TX11 : TX 11 = fnF 6 (b_is_face TN TN1) := by kernel_rfl
theorem TY12 : TY 12 = fnF 5 (b_need_program TX (tabs 37).2) := by kernel_rfl
theorem dep0 (n : Int) : seqS (seqS (s_Looker_depth_0 TN TN1) (s_Looker_depth_1 TN TN1)) (s_Looker_depth_2 TN TN1) [some (.ref 0), some (nmD n), some (.ref 1), some (.int 0), none, none, none, none] [insY n 0, .dct []] = .nx [some (.ref 0), some (nmD n), some (.ref 1), some (.int 0), some (.int 0), none, none, none] [insY n 1, .dct []] := by kernel_rfl
theorem dep4 (n : Int) (f : SF) : seqS (s_Looker_depth_4 TN TN1) (seqS (s_Looker_depth_5 TN TN1) f) [some (.ref 0), some (nmD n), some (.ref 1), some (.int 0), some (.int 0), none, none, none] [insY n 1, .dct []] = .rt (.int 0) [insY n 1, .dct []] := by kernel_rfl
theorem depth_num {n : Int} (n0 : 0 ≤ n) (n1 : n ≤ 10006) : TX 7 [.ref 0, nmD n, .ref 1, .int 0] [insY n 0, .dct []] = .ok (.int 0) [insY n 1, .dct []] := by
  have e3 : s_Looker_depth_3 TN TN1 [some (.ref 0), some (nmD n), some (.ref 1), some (.int 0), some (.int 0), none, none, none] [insY n 1, .dct []] = .nx [some (.ref 0), some (nmD n), some (.ref 1), some (.int 0), some (.int 0), none, none, none] [insY n 1, .dct []] := by
    have ap : appF (TN 2) [nmD n] [insY n 1, .dct []] = .ok (.bl true) [insY n 1, .dct []] := by
      have h : TN 2 [nmD n] [] = .ok (.bl true) [] := by rw [TW2]; exact form_num n0 n1
      unfold appF
      simp [fnF, runB, seqS, ifS, ifE, tstE, binE, vE, cE, toB, R.bind, R.bs, SR.seq, setS, retS, exprS, nilS, unpS, tgT, tgN, setMany, slE, noO, yesO, toI, callE, argsE, consA, nilA, andB, orB, notB, andV, orV, notV, chE, forS, forR, loop, gc, okOld, below, O.refs, D.refs, refsL, gtD, ltD, leD, geD, isiE, tyD, isT, lenD, itemsOf, itemsI, chkOf, rng1, rngL, small62, lstE, tupE, lcE, lcL, srcV, yesB, wipeE, raiseS, negE, neD, eqD, eqS, idxD, L2.atI, L2.ixN, lenSetE, lstInts, intsOf, dedupI, PyProof.Rows.step_dedup, subD, addD, mulD, modD, h, D.mp]
    generalize TN = T at *
    simp [fnF, runB, seqS, ifS, ifE, tstE, binE, vE, cE, toB, R.bind, R.bs, SR.seq, setS, retS, exprS, nilS, unpS, tgT, tgN, setMany, slE, noO, yesO, toI, callE, argsE, consA, nilA, andB, orB, notB, andV, orV, notV, chE, forS, forR, loop, gc, okOld, below, O.refs, D.refs, refsL, gtD, ltD, leD, geD, isiE, tyD, isT, lenD, itemsOf, itemsI, chkOf, rng1, rngL, small62, lstE, tupE, lcE, lcL, srcV, yesB, wipeE, raiseS, negE, neD, eqD, eqS, idxD, L2.atI, L2.ixN, lenSetE, lstInts, intsOf, dedupI, PyProof.Rows.step_dedup, subD, addD, mulD, modD, s_Looker_depth_3, ap]
  rw [TX7, fnF_out]
  unfold b_Looker_depth
  simp only [List.map_cons, List.map_nil, List.length_cons, List.length_nil, List.cons_append, List.nil_append]
  rw [show (List.replicate (8 - (0 + 1 + 1 + 1 + 1)) (none : Option D)) = [none, none, none, none] from rfl, seq_assoc, seq_assoc, seq_nx (dep0 n), seq_nx e3, dep4]
  kernel_rfl
theorem ini5 (n : Int) : TX 5 [.ref 0, .tup [pgD n], .int 0] [.ins 3 []] = .ok .non [insY n 0] := by kernel_rfl
theorem nd0 (n : Int) : seqS (s_need_program_0 TX (tabs 37).2) (s_need_program_1 TX (tabs 37).2) [some (.tup [pgD n]), none, none, none, none] [] = .nx [some (.tup [pgD n]), some (.int 0), none, none, none] [] := by kernel_rfl
theorem need_num {n : Int} (n0 : 0 ≤ n) (n1 : n ≤ 10006) : TY 12 [.tup [pgD n]] [] = .ok .non [] := by
  have e2 : s_need_program_2 TX (tabs 37).2 [some (.tup [pgD n]), some (.int 0), none, none, none] [] = .nx [some (.tup [pgD n]), some (.int 0), some (.tup []), some (.int 0), some (nmD n)] [insY n 1, .dct []] := by
    have a5 := ini5 n
    have a7 := depth_num n0 n1
    generalize TX = T at *
    have hs : ∀ s : S, appF (T 7) [.ref 0, nmD n, .ref 1, .int 0] s = T 7 [.ref 0, nmD n, .ref 1, .int 0] s := fun s => rfl
    simp [fnF, runB, seqS, ifS, ifE, tstE, binE, vE, cE, toB, R.bind, R.bs, SR.seq, setS, retS, exprS, nilS, unpS, tgT, tgN, setMany, slE, noO, yesO, toI, callE, argsE, consA, nilA, andB, orB, notB, andV, orV, notV, chE, forS, forR, loop, gc, okOld, below, O.refs, D.refs, refsL, gtD, ltD, leD, geD, isiE, tyD, isT, lenD, itemsOf, itemsI, chkOf, rng1, rngL, small62, lstE, tupE, lcE, lcL, srcV, yesB, wipeE, raiseS, negE, neD, eqD, eqS, idxD, L2.atI, L2.ixN, lenSetE, lstInts, intsOf, dedupI, PyProof.Rows.step_dedup, subD, addD, mulD, modD, s_need_program_2, s_need_program_2_0, s_need_program_2_1, methE, mkE, a5, a7, hs, dictD, pairsOf, isKey, mergeD, putD, kEq]
  rw [TY12, fnF_out]
  unfold b_need_program
  simp only [List.map_cons, List.map_nil, List.length_cons, List.length_nil, List.cons_append, List.nil_append]
  rw [seq_assoc, show (List.replicate (5 - (0 + 1)) (none : Option D)) = [none, none, none, none] from rfl, seq_nx (nd0 n), e2]
  rfl
end K22
set_option Elab.async false
set_option linter.all false
set_option maxRecDepth 100000
set_option maxHeartbeats 4000000
namespace K22
open PySem L2 Mi
/-! ## the text of a number below 1000 -/
abbrev numT (n : Int) : Str := Str.ofString (toString n)
def okN (n : Nat) : Bool := match (numT (n : Int)).cps.toList with
  | [] => false
  | c :: cs => (c :: cs).all (fun d => decide (48 ≤ d) && decide (d ≤ 57)) && decide (cs.length ≤ 2) && (decide (c ≠ 48) || decide (cs = [])) && decide (PySem.intText? (wd c cs) = some (n : Int))
theorem okN_all : ∀ n, n < 1000 → okN n = true := by decide +kernel
theorem numT_wd {n : Int} (h0 : 0 ≤ n) (h1 : n < 1000) : ∃ c cs, numT n = wd c cs ∧ (∀ d ∈ c :: cs, Dig d) ∧ cs.length ≤ 2 ∧ (c ≠ 48 ∨ cs = []) ∧ PySem.intText? (wd c cs) = some n := by
  have hn : ((n.toNat : Nat) : Int) = n := by omega
  have h := okN_all n.toNat (by omega)
  unfold okN at h
  rw [hn] at h
  generalize e : (numT n).cps.toList = l at h
  match l, h with
  | c :: cs, h =>
    have en : numT n = wd c cs := by
      show _ = (⟨⟨c :: cs⟩⟩ : Str)
      rw [← e]
    simp only [Bool.and_eq_true, List.all_eq_true, Bool.or_eq_true, decide_eq_true_eq] at h
    exact ⟨c, cs, en, fun d hd => h.1.1.1 d hd, h.1.1.2, h.1.2, h.2⟩
end K22
set_option Elab.async false
set_option linter.all false
set_option maxRecDepth 100000
set_option maxHeartbeats 4000000
namespace K22
open PySem L2 Mi
abbrev tA (w : Str) : Str := ("0 0 ( num " : Str) ++ w ++ " )"
abbrev t2B (w : Str) : Str := ("0 1 " : Str) ++ w ++ " 0 ( num 1 )"
abbrev tB (w : Str) : Str := ("0 0 ( num 1 )\n0 1 " : Str) ++ w ++ " 0 ( num 1 )"
theorem str_tl {x y : Str} (h : TL.tl x = TL.tl y) : x = y := by
  have := TL.map_tl_inj (l := [x]) (m := [y]) (by simp [h])
  simpa using this
theorem wd_tl (c : Nat) (cs : List Nat) : TL.tl (wd c cs) = c :: cs := rfl
theorem no_in {c : Nat} {cs : List Nat} (h : ∀ d ∈ c :: cs, Dig d) {k : Nat} (hk : k < 48) : k ∉ TL.tl (wd c cs) := fun z => by
  have := (h k z).1
  omega
theorem splitA {c : Nat} {cs : List Nat} (h : ∀ d ∈ c :: cs, Dig d) : Txt.split (tA (wd c cs)) " " = wsA (wd c cs) := by
  have e : tA (wd c cs) = Txt.join " " (wsA (wd c cs)) := by
    refine str_tl ?_
    rw [TL.join_eq, TL.tl_join, TL.tl_append, TL.tl_append]
    rfl
  rw [e]
  refine TL.split_join (s := 32) (S := []) rfl (by decide +kernel) (by simp) fun p hp => ?_
  simp only [List.mem_cons, List.not_mem_nil, or_false] at hp
  rcases hp with rfl | rfl | rfl | rfl | rfl | rfl <;> first | exact no_in h (by decide) | decide
theorem splitAn {c : Nat} {cs : List Nat} (h : ∀ d ∈ c :: cs, Dig d) : Txt.split (tA (wd c cs)) "\n" = [tA (wd c cs)] := by
  refine TL.split_join (y := "\n") (s := 10) (S := []) rfl (by decide +kernel) (parts := [tA (wd c cs)]) (by simp) fun p hp => ?_
  simp only [List.mem_cons, List.not_mem_nil, or_false] at hp
  subst hp
  rw [TL.tl_append, TL.tl_append]
  simp only [List.mem_append, not_or]
  exact ⟨⟨by decide, no_in h (by decide)⟩, by decide⟩
theorem splitB2 {c : Nat} {cs : List Nat} (h : ∀ d ∈ c :: cs, Dig d) : Txt.split (t2B (wd c cs)) " " = wsB (wd c cs) := by
  have e : t2B (wd c cs) = Txt.join " " (wsB (wd c cs)) := by
    refine str_tl ?_
    rw [TL.join_eq, TL.tl_join, TL.tl_append, TL.tl_append]
    rfl
  rw [e]
  refine TL.split_join (s := 32) (S := []) rfl (by decide +kernel) (by simp) fun p hp => ?_
  simp only [List.mem_cons, List.not_mem_nil, or_false] at hp
  rcases hp with rfl | rfl | rfl | rfl | rfl | rfl | rfl | rfl <;> first | exact no_in h (by decide) | decide
theorem splitBn {c : Nat} {cs : List Nat} (h : ∀ d ∈ c :: cs, Dig d) : Txt.split (tB (wd c cs)) "\n" = [t1c, t2B (wd c cs)] := by
  have e : tB (wd c cs) = Txt.join "\n" [t1c, t2B (wd c cs)] := by
    refine str_tl ?_
    rw [TL.join_eq, TL.tl_join]
    show TL.tl (("0 0 ( num 1 )\n0 1 " : Str) ++ wd c cs ++ " 0 ( num 1 )") = TL.tl t1c ++ (TL.tl "\n" ++ TL.tl (("0 1 " : Str) ++ wd c cs ++ " 0 ( num 1 )"))
    rw [TL.tl_append, TL.tl_append, TL.tl_append, TL.tl_append]
    rfl
  rw [e]
  refine TL.split_join (s := 10) (S := []) rfl (by decide +kernel) (by simp) fun p hp => ?_
  simp only [List.mem_cons, List.not_mem_nil, or_false] at hp
  rcases hp with rfl | rfl
  · decide
  · rw [TL.tl_append, TL.tl_append]
    simp only [List.mem_append, not_or]
    exact ⟨⟨by decide, no_in h (by decide)⟩, by decide⟩
theorem str_len (x y : Str) : (x ++ y).length = x.length + y.length := by
  show (TL.tl (x ++ y)).length = (TL.tl x).length + (TL.tl y).length
  rw [TL.tl_append, List.length_append]
theorem lenA {c : Nat} {cs : List Nat} (h : cs.length ≤ 4) : (tA (wd c cs)).length ≤ 1000 := by
  rw [str_len, str_len]
  show 10 + (cs.length + 1) + 2 ≤ 1000
  omega
theorem len2B {c : Nat} {cs : List Nat} (h : cs.length ≤ 4) : (t2B (wd c cs)).length ≤ 1000 := by
  rw [str_len, str_len]
  show 4 + (cs.length + 1) + 12 ≤ 1000
  omega
theorem lenB {c : Nat} {cs : List Nat} (h : cs.length ≤ 4) : (tB (wd c cs)).length ≤ 1000 := by
  rw [str_len, str_len]
  show 18 + (cs.length + 1) + 12 ≤ 1000
  omega
theorem readA_good {c : Nat} {cs : List Nat} {n : Int} (hd : ∀ d ∈ c :: cs, Dig d) (hl : cs.length ≤ 2) (h0 : c ≠ 48 ∨ cs = []) (hi : PySem.intText? (wd c cs) = some n) (n0 : 0 ≤ n) (n1 : n < 1000) : TA 21 [.str (tA (wd c cs))] [] = .ok (.tup [pgD n]) [] := by
  refine read_good _ _ n (lenA (by omega)) (splitAn hd) (splitA hd) ?_ (need_num n0 (by omega))
  rw [TW17]
  exact cntgood _ _ _ c cs n (seen35 _ _) hd (by omega) h0 hi
theorem readA_bad {cs : List Nat} (hd : ∀ d ∈ 48 :: cs, Dig d) (hl : cs.length ≤ 4) (h1 : cs ≠ []) : TA 21 [.str (tA (wd 48 cs))] [] = .ex 2 [(1, .int 4), (3, .int 0)] [] := by
  refine read_bad _ _ (lenA hl) (splitAn hd) (splitA hd) ?_
  rw [TW17]
  exact cntbadA _ _ _ 48 cs (seen35 _ _) hd hl rfl h1 (fail35 _ _)
theorem readBb {cs : List Nat} (hd : ∀ d ∈ 48 :: cs, Dig d) (hl : cs.length ≤ 4) (h1 : cs ≠ []) : TA 21 [.str (tB (wd 48 cs))] [] = .ex 2 fsB [] :=
  readB_bad _ _ _ (lenB hl) (len2B hl) (splitBn hd) (splitB2 hd) (cntB_bad _ _ cs hd hl h1)
end K22
set_option Elab.async false
set_option linter.all false
set_option maxRecDepth 100000
set_option maxHeartbeats 4000000
namespace K22
open PySem L2 Mi
theorem kind_txt {w : M D} {s : S} {p r : Int} (h : w s = .ex 2 [(1, .int p), (3, .int r)] s) : noX (w__law_kind w s) = .ok (.tup [.str "text", .int r, .int p]) s := by
  unfold w__law_kind kindF runB tryS
  rw [show (fun η st => (w st).bs η fun d s => SR.rt d s) (([] : List D).map some ++ List.replicate (2 - ([] : List D).length) none) s = .ex 2 [(1, .int p), (3, .int r)] [none, none] s by simp [R.bs, h]]
  kernel_rfl
theorem lam_txt {F : List D → M D} {f : Ev → M D} {P : D} {η : Ev} {s : S} {p r : Int} (hf : f η s = .ok P s) (hP : P.refs = []) (hF : F [P] [] = .ex 2 [(1, .int p), (3, .int r)] []) : lamE w__law_kind (callE (appF F) (argsE [f])) η s = .ok (.tup [.str "text", .int r, .int p]) s := by
  have e : callE (appF F) (argsE [f]) η s = .ex 2 [(1, .int p), (3, .int r)] s := by
    simp [fnF, runB, seqS, ifS, ifE, tstE, binE, vE, cE, toB, R.bind, R.bs, SR.seq, setS, retS, exprS, nilS, unpS, tgT, tgN, setMany, slE, noO, yesO, toI, callE, argsE, consA, nilA, andB, orB, notB, andV, orV, notV, chE, forS, forR, loop, gc, okOld, below, O.refs, D.refs, refsL, gtD, ltD, leD, geD, isiE, tyD, isT, lenD, itemsOf, itemsI, chkOf, rng1, rngL, small62, lstE, tupE, lcE, lcL, srcV, yesB, wipeE, raiseS, negE, neD, eqD, eqS, idxD, L2.atI, L2.ixN, lenSetE, lstInts, intsOf, dedupI, PyProof.Rows.step_dedup, subD, addD, mulD, modD, hf, appF, hP, hF, refsFs]
  exact kind_txt e
theorem lam_val {F : List D → M D} {f : Ev → M D} {P d : D} {η : Ev} {s : S} (hf : f η s = .ok P s) (hP : P.refs = []) (hF : F [P] [] = .ok d []) (hd : d.refs = []) : lamE w__law_kind (callE (appF F) (argsE [f])) η s = .ok d s := by
  have e : callE (appF F) (argsE [f]) η s = .ok d s := by
    simp [fnF, runB, seqS, ifS, ifE, tstE, binE, vE, cE, toB, R.bind, R.bs, SR.seq, setS, retS, exprS, nilS, unpS, tgT, tgN, setMany, slE, noO, yesO, toI, callE, argsE, consA, nilA, andB, orB, notB, andV, orV, notV, chE, forS, forR, loop, gc, okOld, below, O.refs, D.refs, refsL, gtD, ltD, leD, geD, isiE, tyD, isT, lenD, itemsOf, itemsI, chkOf, rng1, rngL, small62, lstE, tupE, lcE, lcL, srcV, yesB, wipeE, raiseS, negE, neD, eqD, eqS, idxD, L2.atI, L2.ixN, lenSetE, lstInts, intsOf, dedupI, PyProof.Rows.step_dedup, subD, addD, mulD, modD, hf, appF, hP, hF, hd]
  exact kind_ok' e
theorem ne_pg (n : Int) (s : S) : neD (.tup [pgD n]) (.tup [pgD n]) s = .ok (.bl false) s := by
  have h : SeqAt.shaped (PyData.tuple [PyData.tuple [PyData.tuple [], PyData.int 0, PyData.tuple [PyData.str "num", PyData.int n]]]) = true := by kernel_rfl
  simp [neD, eqS, toPy, PyData.eqv, PyData.eqvAll, h]
theorem ne_txt (r p : Int) (s : S) : neD (.tup [.str "text", .int r, .int p]) (.tup [.str "text", .int r, .int p]) s = .ok (.bl false) s := by
  have h : SeqAt.shaped (PyData.tuple [PyData.str "text", PyData.int r, PyData.int p]) = true := by kernel_rfl
  simp [neD, eqS, toPy, PyData.eqv, PyData.eqvAll, h]
theorem cat2 {f : Ev → M D} {η : Ev} {s : S} {w x y : Str} (h : f η s = .ok (.str w) s) (hl : (x ++ w ++ y).length ≤ 1000) : binE addD (binE addD (cE (.str x)) f) (cE (.str y)) η s = .ok (.str (x ++ w ++ y)) s := by
  have h1 : (x ++ w).length + y.length ≤ sizeLine := by
    rw [str_len] at hl
    rw [sizeLine_eq]
    omega
  have h2 : x.length + w.length ≤ sizeLine := by
    rw [str_len] at h1
    omega
  simp [binE, cE, R.bind, addD, h, h1, h2]
theorem cat1 {f g : Ev → M D} {η : Ev} {s : S} {w x : Str} (hg : g η s = .ok (.str x) s) (h : f η s = .ok (.str w) s) (hl : x.length + w.length ≤ sizeLine) : binE addD g f η s = .ok (.str (x ++ w)) s := by
  simp [binE, R.bind, addD, hg, h, hl]
theorem ife {g h : Ev → M D} {η : Ev} {s : S} {d : D} (hg : g η s = .ok d s) (hh : h η s = .ok d s) (hn : neD d d s = .ok (.bl false) s) : ifS (tstE (binE neD g h)) (retS (cE (.bl false))) nilS η s = .nx η s := by
  simp [ifS, tstE, binE, hg, hh, R.bind, R.bs, hn, toB, nilS]
abbrev T40 := (tabs 40).1
abbrev T40b := (tabs 40).2
theorem T40b21 : T40b 21 = TA 21 := by kernel_rfl
theorem str_num {η : Ev} {s : S} {n : Int} (h0 : 0 ≤ n) (h1 : n < 1000) (hv : vE 3 η s = .ok (.int n) s) : callE strD (argsE [vE 3]) η s = .ok (.str (numT n)) s := by
  have h : -1000000000000 < n ∧ n < 1000000000000 := by omega
  simp [callE, argsE, consA, nilA, hv, R.bind, strD, h]
  first | done | rfl
theorem law2 {x0 x2 x4 x5 : Option D} {n : Int} {ns : List Int} {a b c : Int} (h0 : 0 ≤ n) (h1 : n < 1000) : s_law_1_2 T40 T40b [x0, some (.ref 0), x2, some (.int n), x4, x5] (stt ns a b c) = .nx [x0, some (.ref 0), x2, some (.int n), x4, x5] (stt ns a b c) := by
  obtain ⟨c0, cs, e, hd, hl, hz, hi⟩ := numT_wd h0 h1
  unfold s_law_1_2
  refine ife (d := .tup [pgD n]) (lam_val (P := .str (tA (numT n))) (cat2 (str_num h0 h1 rfl) (by rw [e]; exact lenA (by omega))) rfl ?_ rfl) ?_ (ne_pg n _)
  · rw [T40b21, e]
    exact readA_good hd hl hz hi h0 h1
  · rfl
theorem nt_add {x : Str} {cs : List Nat} {c : Nat} (k : List Nat) (hx : TL.tl x = 48 :: k) : x ++ wd c cs = wd 48 (k ++ c :: cs) := by
  refine str_tl ?_
  rw [TL.tl_append, hx]
  rfl
theorem law3 {x0 x2 x5 : Option D} {n : Int} {ns : List Int} {a b c : Int} {x : Str} (k : List Nat) (hx : TL.tl x = 48 :: k) (hk : ∀ d ∈ 48 :: k, Dig d) (kl : k.length ≤ 1) (h0 : 0 ≤ n) (h1 : n < 1000) : seqS (s_law_1_3_0 T40 T40b) (seqS (s_law_1_3_1 T40 T40b) (s_law_1_3_2 T40 T40b)) [x0, some (.ref 0), x2, some (.int n), some (.str x), x5] (stt ns a b c) = .nx [x0, some (.ref 0), x2, some (.int n), some (.str x), some (.str (x ++ numT n))] (stt ns a b c) := by
  obtain ⟨c0, cs, e, hd, hl, hz, hi⟩ := numT_wd h0 h1
  have e0 : s_law_1_3_0 T40 T40b [x0, some (.ref 0), x2, some (.int n), some (.str x), x5] (stt ns a b c) = .nx [x0, some (.ref 0), x2, some (.int n), some (.str x), some (.str (x ++ numT n))] (stt ns a b c) := by
    have := str_num (η := [x0, some (.ref 0), x2, some (.int n), some (.str x), x5]) (s := stt ns a b c) h0 h1 rfl
    have hz2 : x.length + (numT n).length ≤ sizeLine := by
      rw [e, ← str_len, nt_add k hx, sizeLine_eq]
      show (k ++ c0 :: cs).length + 1 ≤ _
      simp only [List.length_append, List.length_cons]
      omega
    unfold s_law_1_3_0 setS
    rw [cat1 (x := x) rfl this hz2]
    rfl
  have hd' : ∀ d ∈ 48 :: (k ++ c0 :: cs), Dig d := fun d z => by
    rcases List.mem_append.mp (show d ∈ (48 :: k) ++ (c0 :: cs) from z) with z | z
    · exact hk d z
    · exact hd d z
  have hl' : (k ++ c0 :: cs).length ≤ 4 := by
    simp only [List.length_append, List.length_cons]
    omega
  rw [seq_nx e0]
  have e1 : s_law_1_3_1 T40 T40b [x0, some (.ref 0), x2, some (.int n), some (.str x), some (.str (x ++ numT n))] (stt ns a b c) = .nx [x0, some (.ref 0), x2, some (.int n), some (.str x), some (.str (x ++ numT n))] (stt ns a b c) := by
    unfold s_law_1_3_1
    refine ife (lam_txt (P := .str (tA (x ++ numT n))) (r := 0) (p := 4) (cat2 rfl (by rw [e, nt_add k hx]; exact lenA hl')) rfl ?_) rfl (ne_txt 0 4 _)
    rw [T40b21, e, nt_add k hx]
    exact readA_bad hd' hl' (by simp)
  rw [seq_nx e1]
  unfold s_law_1_3_2
  refine ife (lam_txt (P := .str (tB (x ++ numT n))) (r := 1) (p := 2) (cat2 rfl (by rw [e, nt_add k hx]; exact lenB hl')) rfl ?_) rfl (ne_txt 1 2 _)
  rw [T40b21, e, nt_add k hx]
  exact readBb hd' hl' (by simp)
theorem law3_loop {x0 x2 x4 x5 : Option D} {n : Int} {ns : List Int} {a b c : Int} (h0 : 0 ≤ n) (h1 : n < 1000) : s_law_1_3 T40 T40b [x0, some (.ref 0), x2, some (.int n), x4, x5] (stt ns a b c) = .nx [x0, some (.ref 0), x2, some (.int n), some (.str "00"), some (.str ("00" ++ numT n))] (stt ns a b c) := by
  have g1 := law3 (x0 := x0) (x2 := x2) (x5 := x5) (n := n) (ns := ns) (a := a) (b := b) (c := c) (x := "0") [] rfl (by decide) (by simp) h0 h1
  have g2 := law3 (x0 := x0) (x2 := x2) (x5 := some (.str ("0" ++ numT n))) (n := n) (ns := ns) (a := a) (b := b) (c := c) (x := "00") [48] rfl (by decide) (by simp) h0 h1
  unfold s_law_1_3
  generalize seqS (s_law_1_3_0 T40 T40b) (seqS (s_law_1_3_1 T40 T40b) (s_law_1_3_2 T40 T40b)) = B at *
  simp [forS, tupE, argsE, consA, nilA, cE, R.bind, R.bs, itemsI, itemsOf, loop, chkOf, tgN, g1, g2, sizeLine_eq]
end K22
set_option Elab.async false
set_option linter.all false
set_option maxRecDepth 100000
set_option maxHeartbeats 4000000
namespace K22
open PySem L2 Mi
theorem T4022 : T40 22 = fnF 4 (b_law_taken TA TB) := by kernel_rfl
theorem T4023 : T40 23 = fnF 15 (b_law_calls TA TB) := by kernel_rfl
theorem T4024 : T40 24 = fnF 5 (b_law_names TA TB) := by kernel_rfl
theorem app1 (F : List D → M D) (η : Ev) (x0 : Option D) (s : S) : callE (appF F) (argsE [vE 1]) (x0 :: some (.ref 0) :: η) s = F [.ref 0] s := rfl
theorem app2 (F : List D → M D) (η : Ev) (x0 : Option D) (m : Int) (s : S) : callE (appF F) (argsE [vE 1, cE (.int m)]) (x0 :: some (.ref 0) :: η) s = F [.ref 0, .int m] s := rfl
theorem turn {x0 x2 x3 x4 x5 : Option D} {ns : List Int} {a b c : Int} (ha : 0 ≤ a) : ∃ y3 y4 y5 a' b' c', 0 ≤ a' ∧
    seqS (s_law_1_0 T40 T40b) (seqS (s_law_1_1 T40 T40b) (seqS (s_law_1_2 T40 T40b) (s_law_1_3 T40 T40b))) [x0, some (.ref 0), x2, x3, x4, x5] (stt ns a b c) = .nx [x0, some (.ref 0), x2, y3, y4, y5] (stt ns a' b' c') := by
  obtain ⟨a1, b1, c1, h1, ha1⟩ := calls_ok (ns := ns) (a := a) (b := b) (c := c) ha
  obtain ⟨a2, b2, c2, h2, ha2⟩ := names_ok (ns := ns) (a := a1) (b := b1) (c := c1) ha1
  obtain ⟨v, a3, b3, c3, h3, v0, v1, ha3⟩ := taken TA TB (ns := ns) (a := a2) (b := b2) (c := c2) (m := 1000) ha2 (by omega) (by omega)
  rw [← T4023] at h1
  rw [← T4024] at h2
  rw [← T4022] at h3
  refine ⟨some (.int v), some (.str "00"), some (.str ("00" ++ numT v)), a3, b3, c3, ha3, ?_⟩
  have e0 : s_law_1_0 T40 T40b [x0, some (.ref 0), x2, x3, x4, x5] (stt ns a b c) = .nx [x0, some (.ref 0), x2, x3, x4, x5] (stt ns a2 b2 c2) := by
    unfold s_law_1_0
    simp only [ifS, orB, notB, tstE, app1, h1, h2, R.bind, R.bs, toB]
    rfl
  have e1 : s_law_1_1 T40 T40b [x0, some (.ref 0), x2, x3, x4, x5] (stt ns a2 b2 c2) = .nx [x0, some (.ref 0), x2, some (.int v), x4, x5] (stt ns a3 b3 c3) := by
    unfold s_law_1_1
    simp only [setS, app2, h3, R.bs]
    rfl
  rw [seq_nx e0, seq_nx e1, seq_nx (law2 v0 v1)]
  exact law3_loop v0 v1
theorem pure_ : ∀ ns : List Int, ns.length ≤ 63 → ∃ s, lawF [.scr ns] [] = .ok (.bl true) s := by
  intro ns _
  obtain ⟨y3, y4, y5, a1, b1, c1, ha1, h1⟩ := turn (x0 := some (.scr ns)) (x2 := some (.int 0)) (x3 := none) (x4 := none) (x5 := none) (ns := ns) (a := 0) (b := 1) (c := 0) (by omega)
  obtain ⟨z3, z4, z5, a2, b2, c2, ha2, h2⟩ := turn (x0 := some (.scr ns)) (x2 := some (.int 1)) (x3 := y3) (x4 := y4) (x5 := y5) (ns := ns) (a := a1) (b := b1) (c := c1) ha1
  have e0 : s_law_0 T40 T40b [some (.scr ns), none, none, none, none, none] [] = .nx [some (.scr ns), some (.ref 0), none, none, none, none] (stt ns 0 1 0) := rfl
  have e1 : s_law_1 T40 T40b [some (.scr ns), some (.ref 0), none, none, none, none] (stt ns 0 1 0) = .nx [some (.scr ns), some (.ref 0), some (.int 1), z3, z4, z5] (stt ns a2 b2 c2) := by
    unfold s_law_1
    generalize seqS (s_law_1_0 T40 T40b) (seqS (s_law_1_1 T40 T40b) (seqS (s_law_1_2 T40 T40b) (s_law_1_3 T40 T40b))) = B at *
    have r : rng1 [.int 2] (stt ns 0 1 0) = .ok [.int 0, .int 1] (stt ns 0 1 0) := by simp [rng1, small62, rngL]; first | done | rfl
    simp [forR, argsE, consA, nilA, cE, R.bind, R.bs, r, loop, tgN, h1, h2]
  unfold lawF
  rw [fnF_out]
  unfold b_law
  simp only [List.map_cons, List.map_nil, List.length_cons, List.length_nil, List.cons_append, List.nil_append]
  rw [show (List.replicate (6 - (0 + 1)) (none : Option D)) = [none, none, none, none, none] from rfl, seq_nx e0, seq_nx e1]
  exact ⟨_, rfl⟩
end K22
set_option Elab.async false
set_option linter.all false
set_option maxRecDepth 100000
set_option maxHeartbeats 0
namespace K22
open PySem PySem.Spec PyProof.Rows L2 Mi
abbrev Rw : PySem.W.OpenRow := PySem.W.OpenLaw.row PySem.Challenge.rw_nestrows_k22_corners_told_by_hand
def lo0 : List PySem.Str := ["__name__", "NestError", "BadProgram", "BadText", "PRIME", "MOST_NAME", "MOST_DEPTH", "MOST_FUNCTIONS", "MOST_PARAMS", "MOST_PLACES", "MOST_WITHIN", "SUMS", "ONES", "TWOS", "GOES", "COUNTS", "is_number", "count_of", "is_form", "parts_of", "size_of", "Looker", "depth_of", "is_face", "need_program", "faces", "FIGURES", "MOST_FIGURES", "OPEN", "CLOSE", "Reader"]
def lo1 : List PySem.Str := ["read", "_law_taken", "_law_kind", "_law_calls", "_law_names"]
def looseL : List PySem.Str := lo0 ++ lo1
def ob (s : PySem.W.SharedT) : AlM := hsp.obsG (HandSHeadRun.getT s)
theorem ob_eq (s : PySem.W.SharedT) : ob s = hsp.hook.obs s.abs := HSpec.obs_eq (HandSHeadRun.getT_eq s)
theorem run (w : World) : HandSHeadRun.RunEq Rw (PySem.W.view Rw.prog [39]) hsp.hook ob 6000 looseL w :=
  PySem.W.byRow2 "special-get-raises" (P := fun w => HandSHeadRun.RunEq Rw (PySem.W.view Rw.prog [39]) hsp.hook ob 6000 looseL w) (fun w => by intro os; kernel_rfl) (fun w => by intro os; kernel_rfl) w
end K22
open PySem PySem.W PySem.Calls PyProof.Rows
theorem K22.holds_of (pure_ : ∀ ns : List Int, ns.length ≤ 63 → ∃ s, K22.lawF [.scr ns] [] = .ok (.bl true) s) : PySem.Challenge.rw_nestrows_k22_corners_told_by_hand.Holds := by
  w_on; o_law
  refine HandSHeadRun.head_any (r := OpenLaw.row PySem.Challenge.rw_nestrows_k22_corners_told_by_hand) (q := view (OpenLaw.row PySem.Challenge.rw_nestrows_k22_corners_told_by_hand).prog [39]) (H := K22.hsp.hook) (ob := K22.ob) (M := 6000) (loose := K22.looseL) (d := HandSHeadRun.topDef (OpenLaw.row PySem.Challenge.rw_nestrows_k22_corners_told_by_hand).prog 39) (kwd := []) K22.ob_eq
    (by kernel_rfl) (fun s => by kernel_rfl) K22.run (by kernel_rfl) (by kernel_rfl) (by kernel_rfl) (by rfl) (by first | assumption | decide +kernel) (by decide +kernel) ⟨rfl, rfl, rfl, rfl, rfl, by decide +kernel⟩ ?hw ?hc
  case hw => w_witness2
  case hc =>
    refine LamX.walk_ofTsE (l := PySem.Challenge.rw_nestrows_k22_corners_told_by_hand) (n := 63) (k := 84) (x := "_law_script") (CX := fun w => L2.CX (PySem.Challenge.rw_nestrows_k22_corners_told_by_hand).prog w) rfl (by decide) (by kernel_rfl) ⟨rfl, by decide, by decide⟩ ?F (fun w H s e s' z => ?_)
    case F =>
      intro w mg fa h Y G hmg0
      have hmg : mg ("law" : PySem.Str) = some (.ref fa) := by
        have e : (HandSHeadRun.topDef (OpenLaw.row PySem.Challenge.rw_nestrows_k22_corners_told_by_hand).prog 39).name = ("law" : PySem.Str) := by kernel_rfl
        rw [← e]
        exact hmg0
      exact K22.law_at Y G hmg pure_
    · obtain ⟨_, _, _, _, _, _, _, _, _, _, _, _, z⟩ := z
      exact z
theorem PySem.Challenge.cw_nestrows_k22_corners_told_by_hand_holds : PySem.Challenge.rw_nestrows_k22_corners_told_by_hand.Holds := by
  exact K22.holds_of K22.pure_
