import PyProof.Rows.All
import HandS.CallSlots
import HandS.ForExc
import HandS.ForMost
import HandS.IsInst
import HandS.More
import HandS.SortInts
import HandS.Style
import HandS.TupAny
import HandS.Wide
import HandS.Zip
import KE.KRevSl
import OpenK.AllK
import Wide.All
import Wide.FinOn
import PySem.Challenge.RW_quaybest_k33_rows_and_packings
set_option Elab.async false
set_option linter.all false
set_option maxRecDepth 100000
set_option maxHeartbeats 4000000
namespace Lz
open PySem PySem.Spec PyProof.Rows L2

/-! values as trees: a tuple is its items; a list, an instance is a place in the heap -/
inductive U where
  | non | bl (b : Bool) | int (i : Int) | str (x : Str) | tup (xs : List U) | ref (i : Nat)

inductive O where
  | lst (xs : List U)
  | fro (xs : List U)
  | ins (c : Nat) (fs : List (Str × U))

abbrev Hb := List O

structure Wd where
  K : PySem.W.Frag
  ca : Nat → Addr

/-- a tuple that stands: tracked, or an object of the module -/
def TupAt (K : PySem.W.Frag) (H : Hp) (a : Addr) (xs : List V) : Prop :=
  H a = some (.tup xs) ∨
    ∃ (o : Obj) (its : Array Value) (n : Nat), K.lookup a = some o ∧ o.cls = .type "tuple" ∧ o.data = .seq its n ∧ its.size ≤ sizeLine ∧ Vals xs its.toList
theorem TupAt.sq {K : PySem.W.Frag} {H : Hp} {a : Addr} {xs : List V} (h : TupAt K H a xs) : SqT K H a xs := by
  rcases h with h | h
  · exact .inl (.inl h)
  · exact .inr h

mutual
def RV (K : PySem.W.Frag) (m : List Addr) (H : Hp) : U → V → Prop
  | .non, v => v = .non
  | .bl b, v => v = .bl b
  | .int i, v => v = .int i
  | .str x, v => v = .str x
  | .tup us, v => ∃ a vs, v = .ref a ∧ TupAt K H a vs ∧ RVs K m H us vs
  | .ref i, v => ∃ a, v = .ref a ∧ m[i]? = some a
def RVs (K : PySem.W.Frag) (m : List Addr) (H : Hp) : List U → List V → Prop
  | [], vs => vs = []
  | u :: us, vs => ∃ v r, vs = v :: r ∧ RV K m H u v ∧ RVs K m H us r
end

structure Ext (m : List Addr) (H : Hp) (m' : List Addr) (H' : Hp) : Prop where
  pre : ∃ r, m' = m ++ r
  tups : ∀ a xs, H a = some (.tup xs) → H' a = some (.tup xs)
theorem Ext.refl (m : List Addr) (H : Hp) : Ext m H m H := ⟨⟨[], by simp⟩, fun _ _ h => h⟩
theorem Ext.trans {m m1 m2 : List Addr} {H H1 H2 : Hp} (a : Ext m H m1 H1) (b : Ext m1 H1 m2 H2) : Ext m H m2 H2 := by
  obtain ⟨r, rfl⟩ := a.pre
  obtain ⟨q, rfl⟩ := b.pre
  exact ⟨⟨r ++ q, by simp⟩, fun c xs h => b.tups c xs (a.tups c xs h)⟩
theorem Ext.at {m m1 : List Addr} {H H1 : Hp} (e : Ext m H m1 H1) {i : Nat} {a : Addr} (h : m[i]? = some a) : m1[i]? = some a := by
  obtain ⟨r, rfl⟩ := e.pre
  have hi : i < m.length := (List.getElem?_eq_some_iff.mp h).1
  rw [List.getElem?_append_left hi]
  exact h
theorem TupAt.mono {K : PySem.W.Frag} {m m1 : List Addr} {H H1 : Hp} (e : Ext m H m1 H1) {a : Addr} {xs : List V} (h : TupAt K H a xs) : TupAt K H1 a xs := by
  rcases h with h | h
  · exact .inl (e.tups _ _ h)
  · exact .inr h
mutual
theorem RV.mono {K : PySem.W.Frag} {m m1 : List Addr} {H H1 : Hp} (e : Ext m H m1 H1) : ∀ (u : U) {v : V}, RV K m H u v → RV K m1 H1 u v
  | .non, _, h => by simpa [RV] using h
  | .bl _, _, h => by simpa [RV] using h
  | .int _, _, h => by simpa [RV] using h
  | .str _, _, h => by simpa [RV] using h
  | .tup us, _, h => by
    unfold RV at h ⊢
    obtain ⟨a, vs, rfl, t, r⟩ := h
    exact ⟨a, vs, rfl, t.mono e, RVs.mono e us r⟩
  | .ref i, _, h => by
    unfold RV at h ⊢
    obtain ⟨a, rfl, r⟩ := h
    exact ⟨a, rfl, e.at r⟩
theorem RVs.mono {K : PySem.W.Frag} {m m1 : List Addr} {H H1 : Hp} (e : Ext m H m1 H1) : ∀ (us : List U) {vs : List V}, RVs K m H us vs → RVs K m1 H1 us vs
  | [], _, h => by simpa [RVs] using h
  | u :: us, _, h => by
    unfold RVs at h ⊢
    obtain ⟨v, r, rfl, a, b⟩ := h
    exact ⟨v, r, rfl, RV.mono e u a, RVs.mono e us b⟩
end

theorem RVs.nil {K : PySem.W.Frag} {m : List Addr} {H : Hp} : RVs K m H [] [] := by simp [RVs]
theorem RVs.cons {K : PySem.W.Frag} {m : List Addr} {H : Hp} {u : U} {v : V} {us : List U} {vs : List V} (h : RV K m H u v) (r : RVs K m H us vs) : RVs K m H (u :: us) (v :: vs) := by
  unfold RVs
  exact ⟨v, vs, rfl, h, r⟩
theorem RVs.inv_cons {K : PySem.W.Frag} {m : List Addr} {H : Hp} {u : U} {us : List U} {vs : List V} (h : RVs K m H (u :: us) vs) : ∃ v r, vs = v :: r ∧ RV K m H u v ∧ RVs K m H us r := by
  unfold RVs at h; exact h
theorem RVs.inv_nil {K : PySem.W.Frag} {m : List Addr} {H : Hp} {vs : List V} (h : RVs K m H [] vs) : vs = [] := by
  unfold RVs at h; exact h
theorem RVs.length {K : PySem.W.Frag} {m : List Addr} {H : Hp} : ∀ {us : List U} {vs : List V}, RVs K m H us vs → us.length = vs.length
  | [], vs, h => by rw [h.inv_nil]; rfl
  | u :: us, vs, h => by
    obtain ⟨v, r, rfl, _, b⟩ := h.inv_cons
    simp [b.length]
theorem RVs.get {K : PySem.W.Frag} {m : List Addr} {H : Hp} : ∀ {us : List U} {vs : List V} {i : Nat} {u : U}, RVs K m H us vs → us[i]? = some u → ∃ v, vs[i]? = some v ∧ RV K m H u v
  | [], _, _, _, _, e => by simp at e
  | u :: us, vs, 0, x, h, e => by
    obtain ⟨v, r, rfl, a, b⟩ := h.inv_cons
    simp at e; subst e
    exact ⟨v, rfl, a⟩
  | u :: us, vs, i + 1, x, h, e => by
    obtain ⟨v, r, rfl, a, b⟩ := h.inv_cons
    obtain ⟨v', h1, h2⟩ := RVs.get (i := i) b (by simpa using e)
    exact ⟨v', by simpa using h1, h2⟩
theorem RVs.get' {K : PySem.W.Frag} {m : List Addr} {H : Hp} {us : List U} {vs : List V} {i : Nat} {v : V} (h : RVs K m H us vs) (e : vs[i]? = some v) : ∃ u, us[i]? = some u ∧ RV K m H u v := by
  have hi : i < us.length := by rw [h.length]; exact (List.getElem?_eq_some_iff.mp e).1
  obtain ⟨v', h1, h2⟩ := h.get (List.getElem?_eq_getElem hi)
  rw [e] at h1; cases h1
  exact ⟨_, List.getElem?_eq_getElem hi, h2⟩
theorem RVs.append {K : PySem.W.Frag} {m : List Addr} {H : Hp} : ∀ {us ws : List U} {vs xs : List V}, RVs K m H us vs → RVs K m H ws xs → RVs K m H (us ++ ws) (vs ++ xs)
  | [], _, _, _, h, k => by rw [h.inv_nil]; exact k
  | u :: us, _, _, _, h, k => by
    obtain ⟨v, r, rfl, a, b⟩ := h.inv_cons
    exact .cons a (RVs.append b k)
theorem RVs.set {K : PySem.W.Frag} {m : List Addr} {H : Hp} {u : U} {v : V} (q : RV K m H u v) : ∀ {us : List U} {vs : List V} (i : Nat), RVs K m H us vs → RVs K m H (us.set i u) (vs.set i v)
  | [], vs, i, h => by rw [h.inv_nil]; exact .nil
  | w :: us, vs, 0, h => by
    obtain ⟨v', r, rfl, a, b⟩ := h.inv_cons
    exact .cons q b
  | w :: us, vs, i + 1, h => by
    obtain ⟨v', r, rfl, a, b⟩ := h.inv_cons
    exact .cons a (RVs.set q i b)
theorem RVs.take {K : PySem.W.Frag} {m : List Addr} {H : Hp} : ∀ {us : List U} {vs : List V} (n : Nat), RVs K m H us vs → RVs K m H (us.take n) (vs.take n)
  | us, vs, 0, h => by simp; exact .nil
  | [], vs, n + 1, h => by rw [h.inv_nil]; exact .nil
  | w :: us, vs, n + 1, h => by
    obtain ⟨v', r, rfl, a, b⟩ := h.inv_cons
    exact .cons a (RVs.take n b)
theorem RVs.drop {K : PySem.W.Frag} {m : List Addr} {H : Hp} : ∀ {us : List U} {vs : List V} (n : Nat), RVs K m H us vs → RVs K m H (us.drop n) (vs.drop n)
  | us, vs, 0, h => by simpa using h
  | [], vs, n + 1, h => by rw [h.inv_nil]; exact .nil
  | w :: us, vs, n + 1, h => by
    obtain ⟨v', r, rfl, a, b⟩ := h.inv_cons
    exact RVs.drop n b
theorem RVs.reverse {K : PySem.W.Frag} {m : List Addr} {H : Hp} : ∀ {us : List U} {vs : List V}, RVs K m H us vs → RVs K m H us.reverse vs.reverse
  | [], vs, h => by rw [h.inv_nil]; exact .nil
  | w :: us, vs, h => by
    obtain ⟨v', r, rfl, a, b⟩ := h.inv_cons
    rw [List.reverse_cons, List.reverse_cons]
    exact (RVs.reverse b).append (.cons a .nil)
theorem RVs.eraseIdx {K : PySem.W.Frag} {m : List Addr} {H : Hp} : ∀ {us : List U} {vs : List V} (n : Nat), RVs K m H us vs → RVs K m H (us.eraseIdx n) (vs.eraseIdx n)
  | [], vs, n, h => by rw [h.inv_nil]; exact .nil
  | w :: us, vs, 0, h => by
    obtain ⟨v', r, rfl, a, b⟩ := h.inv_cons
    exact b
  | w :: us, vs, n + 1, h => by
    obtain ⟨v', r, rfl, a, b⟩ := h.inv_cons
    exact .cons a (RVs.eraseIdx n b)
theorem RVs.dropLast {K : PySem.W.Frag} {m : List Addr} {H : Hp} {us : List U} {vs : List V} (h : RVs K m H us vs) : RVs K m H us.dropLast vs.dropLast := by
  rw [List.dropLast_eq_take, List.dropLast_eq_take, ← h.length]
  exact h.take _

/-- attributes -/
def RF (K : PySem.W.Frag) (m : List Addr) (H : Hp) : List (Str × U) → List (Str × V) → Prop
  | [], vs => vs = []
  | p :: us, vs => ∃ v r, vs = (p.1, v) :: r ∧ RV K m H p.2 v ∧ RF K m H us r
theorem RF.mono {K : PySem.W.Frag} {m m1 : List Addr} {H H1 : Hp} (e : Ext m H m1 H1) : ∀ {us : List (Str × U)} {vs : List (Str × V)}, RF K m H us vs → RF K m1 H1 us vs
  | [], _, h => h
  | p :: us, _, ⟨v, r, e1, a, b⟩ => ⟨v, r, e1, a.mono e, RF.mono e b⟩

def RO (W : Wd) (m : List Addr) (H : Hp) (a : Addr) : O → Prop
  | .lst us => ∃ vs, H a = some (.lst vs) ∧ RVs W.K m H us vs
  | .fro us => ∃ vs, ((∃ o, H a = some (.frz o (.lst vs))) ∨ ∃ (o : Obj) (its : Array Value) (n : Nat), W.K.lookup a = some o ∧ o.cls = .type "list" ∧ o.dict = none ∧ o.data = .seq its n ∧ its.size ≤ sizeLine ∧ Vals vs its.toList) ∧ RVs W.K m H us vs
  | .ins c fs => ∃ dx vs, H a = some (.ins (W.ca c) dx vs) ∧ RF W.K m H fs vs

structure Rel (W : Wd) (m : List Addr) (h : Hb) (H : Hp) : Prop where
  len : m.length = h.length
  nd : ∀ (i j : Nat) (a : Addr), m[i]? = some a → m[j]? = some a → (∀ us, h[i]? ≠ some (.fro us)) → (∀ us, h[j]? ≠ some (.fro us)) → i = j
  at_ : ∀ (i : Nat) (o : O) (a : Addr), h[i]? = some o → m[i]? = some a → RO W m H a o

theorem Rel.addr {W : Wd} {m : List Addr} {h : Hb} {H : Hp} (r : Rel W m h H) {i : Nat} {o : O} (e : h[i]? = some o) : ∃ a, m[i]? = some a ∧ RO W m H a o := by
  have hi : i < h.length := (List.getElem?_eq_some_iff.mp e).1
  have hi' : i < m.length := by rw [r.len]; exact hi
  exact ⟨m[i], List.getElem?_eq_getElem hi', r.at_ i o _ e (List.getElem?_eq_getElem hi')⟩

/-- H is another heap, in which all that lay still lies -/
theorem RO.move {W : Wd} {m m1 : List Addr} {H H1 : Hp} {a : Addr} {o : O} (e : Ext m H m1 H1) (k : ∀ q, H a = some q → H1 a = some q) (h : RO W m H a o) : RO W m1 H1 a o := by
  cases o with
  | lst us =>
    obtain ⟨vs, h1, r⟩ := h
    exact ⟨vs, k _ h1, RVs.mono e us r⟩
  | fro us =>
    obtain ⟨vs, h1, r⟩ := h
    refine ⟨vs, ?_, RVs.mono e us r⟩
    rcases h1 with ⟨o, h1⟩ | h1
    · exact .inl ⟨o, k _ h1⟩
    · exact .inr h1
  | ins c fs =>
    obtain ⟨dx, vs, h1, r⟩ := h
    exact ⟨dx, vs, k _ h1, r.mono e⟩
/-- what is no locked list stands in H -/
theorem RO.some {W : Wd} {m : List Addr} {H : Hp} {a : Addr} {o : O} (h : RO W m H a o) (n : ∀ us, o ≠ .fro us) : ∃ q, H a = some q ∧ (∀ xs, q ≠ .tup xs) ∧ ∀ ob u, q ≠ .frz ob u := by
  cases o with
  | lst us => obtain ⟨vs, h1, r⟩ := h; exact ⟨_, h1, (by intro _ z; cases z), (by intro _ _ z; cases z)⟩
  | fro us => exact absurd rfl (n us)
  | ins c fs => obtain ⟨dx, vs, h1, r⟩ := h; exact ⟨_, h1, (by intro _ z; cases z), (by intro _ _ z; cases z)⟩

theorem ext_upd_new {m : List Addr} {H : Hp} {p : Addr} {o : HO} (hp : H p = none) (r : List Addr) : Ext m H (m ++ r) (upd H p o) :=
  ⟨⟨r, rfl⟩, fun a xs h => by rw [upd_ne (ne_of_none h hp)]; exact h⟩
/-- a place changes its object, that is no tuple -/
theorem ext_upd_at {m : List Addr} {H : Hp} {p : Addr} {o q : HO} (hp : H p = some q) (hq : ∀ xs, q ≠ .tup xs) : Ext m H m (upd H p o) :=
  ⟨⟨[], by simp⟩, fun a xs h => by
    have : a ≠ p := fun z => by subst z; rw [hp] at h; cases h; exact hq _ rfl
    rw [upd_ne this]; exact h⟩

/-- an object of no matter is laid: the places stay -/
theorem Rel.junk {W : Wd} {m : List Addr} {h : Hb} {H : Hp} (r : Rel W m h H) {p : Addr} {o : HO} (hp : H p = none) : Rel W m h (upd H p o) ∧ Ext m H m (upd H p o) := by
  have e : Ext m H m (upd H p o) := by simpa using ext_upd_new (m := m) (o := o) hp []
  refine ⟨⟨r.len, r.nd, fun i o a h1 h2 => (r.at_ i o a h1 h2).move e fun q hq => ?_⟩, e⟩
  rw [upd_ne (ne_of_none hq hp)]; exact hq

theorem get_snoc {α : Type} {l : List α} {x y : α} {i : Nat} (h : (l ++ [x])[i]? = some y) : l[i]? = some y ∨ (i = l.length ∧ x = y) := by
  rcases Nat.lt_trichotomy i l.length with c | c | c
  · rw [List.getElem?_append_left c] at h; exact .inl h
  · subst c; simp at h; exact .inr ⟨rfl, h⟩
  · rw [List.getElem?_eq_none (by simp; omega)] at h; cases h

/-- a new place -/
theorem Rel.alloc {W : Wd} {m : List Addr} {h : Hb} {H : Hp} (r : Rel W m h H) {p : Addr} {q : HO} {o : O} (hp : H p = none) (ho : ∀ m1 H1, Ext m H m1 H1 → H1 p = some q → RO W m1 H1 p o) :
    Rel W (m ++ [p]) (h ++ [o]) (upd H p q) ∧ Ext m H (m ++ [p]) (upd H p q) ∧ (m ++ [p])[h.length]? = some p := by
  have e : Ext m H (m ++ [p]) (upd H p q) := ext_upd_new hp [p]
  have hl := r.len
  refine ⟨⟨by simp [hl], fun i j a h1 h2 n1 n2 => ?_, fun i o' a h1 h2 => ?_⟩, e, by rw [← hl]; simp⟩
  · have key : ∀ k : Nat, (m ++ [p])[k]? = some p → (∀ us, (h ++ [o])[k]? ≠ some (.fro us)) → k = m.length := fun k hk n => by
      rcases get_snoc hk with c | ⟨c, _⟩
      · exfalso
        have lk : k < m.length := (List.getElem?_eq_some_iff.mp c).1
        have lk' : k < h.length := by rw [← hl]; exact lk
        have n' : ∀ us, h[k] ≠ .fro us := fun us z => n us (by rw [List.getElem?_append_left lk', List.getElem?_eq_getElem lk', z])
        obtain ⟨q', e', _⟩ := (r.at_ k h[k] p (List.getElem?_eq_getElem lk') c).some n'
        rw [hp] at e'; cases e'
      · exact c
    by_cases ap : a = p
    · subst ap; rw [key i h1 n1, key j h2 n2]
    · have g : ∀ k : Nat, (m ++ [p])[k]? = some a → (∀ us, (h ++ [o])[k]? ≠ some (.fro us)) → m[k]? = some a ∧ ∀ us, h[k]? ≠ some (.fro us) := fun k hk n => by
        rcases get_snoc hk with c | ⟨_, c⟩
        · refine ⟨c, fun us z => n us ?_⟩
          rw [List.getElem?_append_left (List.getElem?_eq_some_iff.mp z).1]; exact z
        · exact absurd c.symm ap
      exact r.nd i j a (g i h1 n1).1 (g j h2 n2).1 (g i h1 n1).2 (g j h2 n2).2
  · rcases get_snoc h1 with c | ⟨c, c2⟩
    · have lk : i < m.length := by rw [hl]; exact (List.getElem?_eq_some_iff.mp c).1
      rw [List.getElem?_append_left lk] at h2
      refine (r.at_ i o' a c h2).move e fun q' hq => ?_
      rw [upd_ne (ne_of_none hq hp)]; exact hq
    · subst c2
      have : a = p := by
        rw [c, ← hl] at h2; simp at h2; exact h2.symm
      subst this
      exact ho _ _ e upd_same

/-- a place is written -/
theorem Rel.write {W : Wd} {m : List Addr} {h : Hb} {H : Hp} (r : Rel W m h H) {k : Nat} {p : Addr} {o o' : O} {q : HO} (hk : h[k]? = some o) (hn : ∀ us, o ≠ .fro us) (hn' : ∀ us, o' ≠ .fro us) (hm : m[k]? = some p)
    (ho : ∀ m1 H1, Ext m H m1 H1 → H1 p = some q → RO W m1 H1 p o') : Rel W m (h.set k o') (upd H p q) ∧ Ext m H m (upd H p q) := by
  obtain ⟨q0, e0, t0, f0⟩ := (r.at_ k o p hk hm).some hn
  have e : Ext m H m (upd H p q) := ext_upd_at e0 t0
  have kl : k < h.length := (List.getElem?_eq_some_iff.mp hk).1
  refine ⟨⟨by simp [r.len], fun i j a h1 h2 n1 n2 => ?_, fun i o2 a h1 h2 => ?_⟩, e⟩
  · have g : ∀ i : Nat, (∀ us, (h.set k o')[i]? ≠ some (.fro us)) → ∀ us, h[i]? ≠ some (.fro us) := fun i n us z => by
      by_cases c : k = i
      · subst c; rw [hk] at z; exact hn us (Option.some.inj z)
      · exact n us (by rw [List.getElem?_set_ne c]; exact z)
    exact r.nd i j a h1 h2 (g i n1) (g j n2)
  · by_cases c : k = i
    · subst c
      rw [List.getElem?_set_self kl] at h1
      cases h1
      rw [hm] at h2; cases h2
      exact ho _ _ e upd_same
    · rw [List.getElem?_set_ne c] at h1
      have R := r.at_ i o2 a h1 h2
      by_cases ap : a = p
      · subst ap
        by_cases fr : ∃ us, o2 = .fro us
        · obtain ⟨us, rfl⟩ := fr
          obtain ⟨vs, h3, rr⟩ := R
          refine ⟨vs, ?_, RVs.mono e us rr⟩
          rcases h3 with ⟨ob, h3⟩ | h3
          · rw [e0] at h3; cases h3; exact absurd rfl (f0 _ _)
          · exact .inr h3
        · exact absurd (r.nd k i a hm h2 (fun us z => hn us (by rw [hk] at z; exact Option.some.inj z)) (fun us z => fr ⟨us, by rw [h1] at z; exact Option.some.inj z⟩)) c
      · exact R.move e fun q' hq => by rw [upd_ne ap]; exact hq

/-! ### slots -/
abbrev Sg := List (Option U)
def RS (K : PySem.W.Frag) (m : List Addr) (H : Hp) : Sg → L2.St → Prop
  | [], t => t = []
  | o :: s, t => ∃ v r, t = v :: r ∧ (∀ u, o = some u → ∃ x, v = some x ∧ RV K m H u x) ∧ RS K m H s r
theorem RS.mono {K : PySem.W.Frag} {m m1 : List Addr} {H H1 : Hp} (e : Ext m H m1 H1) : ∀ {s : Sg} {t : L2.St}, RS K m H s t → RS K m1 H1 s t
  | [], _, h => h
  | o :: s, _, ⟨v, r, e1, a, b⟩ => ⟨v, r, e1, fun u hu => let ⟨x, h1, h2⟩ := a u hu; ⟨x, h1, h2.mono e⟩, RS.mono e b⟩
theorem RS.get {K : PySem.W.Frag} {m : List Addr} {H : Hp} : ∀ {s : Sg} {t : L2.St} {i : Nat} {u : U}, RS K m H s t → s[i]? = some (some u) → ∃ x, t[i]? = some (some x) ∧ RV K m H u x
  | [], _, _, _, _, e => by simp at e
  | o :: s, _, 0, u, ⟨v, r, e1, a, b⟩, e => by
    simp at e; subst e; subst e1
    obtain ⟨x, rfl, h2⟩ := a u rfl
    exact ⟨x, rfl, h2⟩
  | o :: s, _, i + 1, u, ⟨v, r, e1, a, b⟩, e => by
    subst e1
    obtain ⟨x, h1, h2⟩ := RS.get (i := i) b (by simpa using e)
    exact ⟨x, by simpa using h1, h2⟩
theorem RS.set {K : PySem.W.Frag} {m : List Addr} {H : Hp} {u : U} {x : V} (q : RV K m H u x) : ∀ {s : Sg} {t : L2.St} (i : Nat), RS K m H s t → RS K m H (s.set i (some u)) (t.set i (some x))
  | [], _, i, h => by cases h; exact rfl
  | o :: s, _, 0, ⟨v, r, e1, a, b⟩ => by subst e1; exact ⟨_, _, rfl, fun u' hu => by cases hu; exact ⟨x, rfl, q⟩, b⟩
  | o :: s, _, i + 1, ⟨v, r, e1, a, b⟩ => by subst e1; exact ⟨_, _, rfl, a, RS.set q i b⟩
theorem RS.setN {K : PySem.W.Frag} {m : List Addr} {H : Hp} : ∀ {s : Sg} {t : L2.St} (i : Nat), RS K m H s t → RS K m H (s.set i none) (t.set i none)
  | [], _, i, h => by cases h; exact rfl
  | o :: s, _, 0, ⟨v, r, e1, a, b⟩ => by subst e1; exact ⟨_, _, rfl, (fun u' hu => nomatch hu), b⟩
  | o :: s, _, i + 1, ⟨v, r, e1, a, b⟩ => by subst e1; exact ⟨_, _, rfl, a, RS.setN i b⟩
def wipeG (s : Sg) : List Nat → Sg
  | [] => s
  | v :: vs => (wipeG s vs).set v none
theorem RS.wipe {K : PySem.W.Frag} {m : List Addr} {H : Hp} {s : Sg} {t : L2.St} (h : RS K m H s t) : ∀ vs : List Nat, RS K m H (wipeG s vs) (L2.wipe t vs)
  | [] => h
  | v :: vs => RS.setN v (RS.wipe h vs)
end Lz
namespace Lz
open PySem PySem.Spec PyProof.Rows L2

/-! results -/
structure Ex where
  c : Nat
  fs : List (Str × U)
inductive Res (α : Type) where
  | ok (a : α) (h : Hb)
  | ex (x : Ex) (h : Hb)
  | bad
def Res.bind {α β : Type} (r : Res α) (k : α → Hb → Res β) : Res β := match r with
  | .ok a h => k a h
  | .ex x h => .ex x h
  | .bad => .bad
/-- nothing may be raised -/
def Res.calm {α : Type} (r : Res α) : Res α := match r with
  | .ok a h => .ok a h
  | .ex _ _ => .bad
  | .bad => .bad
@[simp] theorem bind_ok {α β : Type} (a : α) (h : Hb) (k : α → Hb → Res β) : (Res.ok a h).bind k = k a h := rfl
@[simp] theorem bind_ex {α β : Type} (x : Ex) (h : Hb) (k : α → Hb → Res β) : (Res.ex x h).bind k = .ex x h := rfl
@[simp] theorem bind_bad {α β : Type} (k : α → Hb → Res β) : (Res.bad : Res α).bind k = .bad := rfl
@[simp] theorem calm_ok {α : Type} (a : α) (h : Hb) : (Res.ok a h).calm = .ok a h := rfl
@[simp] theorem calm_bad {α : Type} : (Res.bad : Res α).calm = .bad := rfl
def RX (W : Wd) (m : List Addr) (H : Hp) (x : Ex) (cls : Value) (d : Option Addr) : Prop :=
  cls = .ref (W.ca x.c) ∧ ((x.fs = [] ∧ d = none) ∨ ∃ dx vs, d = some dx ∧ H dx = some (.xd vs) ∧ RF W.K m H x.fs vs)

def Post {α β : Type} (W : Wd) (R : List Addr → Hp → α → β → Prop) (r : Res α) (m : List Addr) (H : Hp) (Q : β → Hp → Prop) (E : Value → Option Addr → Hp → Prop) : Prop := match r with
  | .ok u h' => ∀ m' H' v, Ext m H m' H' → Rel W m' h' H' → R m' H' u v → Q v H'
  | .ex x h' => ∀ m' H' c d, Ext m H m' H' → Rel W m' h' H' → RX W m' H' x c d → E c d H'
  | .bad => False
theorem Post.later {α β : Type} {W : Wd} {R : List Addr → Hp → α → β → Prop} {r : Res α} {m m1 : List Addr} {H H1 : Hp} {Q : β → Hp → Prop} {E : Value → Option Addr → Hp → Prop} (p : Post W R r m H Q E) (e : Ext m H m1 H1) : Post W R r m1 H1 Q E := by
  cases r with
  | ok u h' => exact fun m' H' v e' => p m' H' v (e.trans e')
  | ex x h' => exact fun m' H' c d e' => p m' H' c d (e.trans e')
  | bad => exact p
theorem Post.bind {α β γ δ : Type} {W : Wd} {R : List Addr → Hp → α → β → Prop} {R' : List Addr → Hp → γ → δ → Prop} {r : Res γ} {k : γ → Hb → Res α} {m : List Addr} {H : Hp} {Q : β → Hp → Prop} {E : Value → Option Addr → Hp → Prop}
    (p : Post W R (r.bind k) m H Q E) {Q' : δ → Hp → Prop} (f : ∀ u h1 m1 H1 v, r = .ok u h1 → Ext m H m1 H1 → Rel W m1 h1 H1 → R' m1 H1 u v → Post W R (k u h1) m1 H1 Q E → Q' v H1) : Post W R' r m H Q' E := by
  cases r with
  | ok u h' => exact fun m' H' v e rl rv => f u h' m' H' v rfl e rl rv (Post.later p e)
  | ex x h' => exact p
  | bad => exact p
/-- a plain answer -/
theorem Post.ok {α β : Type} {W : Wd} {R : List Addr → Hp → α → β → Prop} {u : α} {h : Hb} {m : List Addr} {H : Hp} {Q : β → Hp → Prop} {E : Value → Option Addr → Hp → Prop} (p : Post W R (.ok u h) m H Q E) (rl : Rel W m h H) {v : β} (rv : R m H u v) : Q v H :=
  p m H v (.refl m H) rl rv

def EvT (X : Cx) (e : Expr) : TE := fun t H Q => ∃ te, PE X e te ∧ te t H Q
theorem EvT.pe (X : Cx) (e : Expr) : PE X e (EvT X e) := ⟨fun pins s σ H Q I h => by obtain ⟨te, p, q⟩ := h; exact p.run pins s σ H Q I q⟩
def EvB (X : Cx) (e : Expr) : TT := fun t H Q => ∃ te, PT X e te ∧ te t H Q
theorem EvB.pt (X : Cx) (e : Expr) : PT X e (EvB X e) := ⟨fun pins s σ H Q I h => by obtain ⟨te, p, q⟩ := h; exact p.run pins s σ H Q I q⟩
def EvW (X : Cx) (e : Expr) : TT := fun t H Q => ∃ te, PW X e te ∧ te t H Q
theorem EvW.pw (X : Cx) (e : Expr) : PW X e (EvW X e) := ⟨fun wh pins s σ H Q I h => by obtain ⟨te, p, q⟩ := h; exact p.run wh pins s σ H Q I q⟩
def EvA (X : Cx) (e : List Expr) : TA := fun t H Q => ∃ te, PA X e te ∧ te t H Q
theorem EvA.pa (X : Cx) (e : List Expr) : PA X e (EvA X e) := ⟨fun pos pins s σ H Q I h => by obtain ⟨te, p, q⟩ := h; exact p.run pos pins s σ H Q I q⟩
def EvS (X : Cx) (e : Stmt) : TS := fun D t H => ∃ te, PS X e te ∧ te D t H
theorem EvS.ps (X : Cx) (e : Stmt) : PS X e (EvS X e) := ⟨fun pins s σ H D I h => by obtain ⟨te, p, q⟩ := h; exact p.run pins s σ H D I q⟩
def EvL (X : Cx) (e : List Stmt) : TS := fun D t H => ∃ te, PSs X e te ∧ te D t H
theorem EvL.pss (X : Cx) (e : List Stmt) : PSs X e (EvL X e) := ⟨fun pins s σ H D I h => by obtain ⟨te, p, q⟩ := h; exact p.run pins s σ H D I q⟩
def EvG (X : Cx) (e : Expr) : TG := fun v t H Q => ∃ te, PG X e te ∧ te v t H Q
theorem EvG.pg (X : Cx) (e : Expr) : PG X e (EvG X e) := ⟨fun pins s σ H v u Q I r h => by obtain ⟨te, p, q⟩ := h; exact p.run pins s σ H v u Q I r q⟩
def EvGs (X : Cx) (e : List Expr) : TGs := fun v t H Q => ∃ te, PGs X e te ∧ te v t H Q
theorem EvGs.pgs (X : Cx) (e : List Expr) : PGs X e (EvGs X e) := ⟨fun pins s σ H v u Q I r h => by obtain ⟨te, p, q⟩ := h; exact p.run pins s σ H v u Q I r q⟩
def EvI (X : Cx) (tg e : Expr) : TI := fun t H R => ∃ te, PI X tg e te ∧ te t H R
theorem EvI.pi (X : Cx) (tg e : Expr) : PI X tg e (EvI X tg e) := ⟨fun pins s σ H R I h => by obtain ⟨te, p, q⟩ := h; exact p.run pins s σ H R I q⟩

abbrev Ev := Sg → Hb → Res U
abbrev Eb := Sg → Hb → Res Bool
abbrev Ea := Sg → Hb → Res (List U)
abbrev REq (m : List Addr) (H : Hp) (a b : Bool) : Prop := b = a

structure SE (W : Wd) (X : Cx) (e : Expr) (f : Ev) : Prop where
  run : ∀ (w : WX), Takes X w → ∀ (σ : Sg) (h : Hb) (m : List Addr) (τ : L2.St) (H : Hp) (Q : VK), Rel W m h H → RS W.K m H σ τ → Post W (RV W.K) (f σ h) m H Q (fun c d H' => w c d τ H') → EvT X e τ H Q
structure SB (W : Wd) (X : Cx) (e : Expr) (f : Eb) : Prop where
  run : ∀ (w : WX), Takes X w → ∀ (σ : Sg) (h : Hb) (m : List Addr) (τ : L2.St) (H : Hp) (Q : Bool → Hp → Prop), Rel W m h H → RS W.K m H σ τ → Post W REq (f σ h) m H Q (fun c d H' => w c d τ H') → EvB X e τ H Q
structure SW (W : Wd) (X : Cx) (e : Expr) (f : Eb) : Prop where
  run : ∀ (w : WX), Takes X w → ∀ (σ : Sg) (h : Hb) (m : List Addr) (τ : L2.St) (H : Hp) (Q : Bool → Hp → Prop), Rel W m h H → RS W.K m H σ τ → Post W REq (f σ h) m H Q (fun c d H' => w c d τ H') → EvW X e τ H Q
structure SA (W : Wd) (X : Cx) (e : List Expr) (f : Ea) : Prop where
  run : ∀ (w : WX), Takes X w → ∀ (σ : Sg) (h : Hb) (m : List Addr) (τ : L2.St) (H : Hp) (Q : List V → Hp → Prop), Rel W m h H → RS W.K m H σ τ → Post W (RVs W.K) (f σ h) m H Q (fun c d H' => w c d τ H') → EvA X e τ H Q

/-! statements -/
inductive SR where
  | nx (s : Sg) (h : Hb) | rt (u : U) (h : Hb) | bk (s : Sg) (h : Hb) | ct (s : Sg) (h : Hb)
  | ex (x : Ex) (s : Sg) (h : Hb) | bad
abbrev Sv := Sg → Hb → SR
def Res.thn {α : Type} (r : Res α) (s : Sg) (k : α → Hb → SR) : SR := match r with
  | .ok a h => k a h
  | .ex x h => .ex x s h
  | .bad => .bad
def SR.thn (r : SR) (k : Sg → Hb → SR) : SR := match r with
  | .nx s h => k s h
  | .rt u h => .rt u h
  | .bk s h => .bk s h
  | .ct s h => .ct s h
  | .ex x s h => .ex x s h
  | .bad => .bad
@[simp] theorem thn_ok {α : Type} (a : α) (h : Hb) (s : Sg) (k : α → Hb → SR) : (Res.ok a h).thn s k = k a h := rfl
@[simp] theorem thn_ex {α : Type} (x : Ex) (h : Hb) (s : Sg) (k : α → Hb → SR) : (Res.ex x h).thn s k = .ex x s h := rfl
@[simp] theorem thn_bad {α : Type} (s : Sg) (k : α → Hb → SR) : (Res.bad : Res α).thn s k = .bad := rfl
@[simp] theorem sthn_nx (s : Sg) (h : Hb) (k : Sg → Hb → SR) : (SR.nx s h).thn k = k s h := rfl
@[simp] theorem sthn_rt (u : U) (h : Hb) (k : Sg → Hb → SR) : (SR.rt u h).thn k = .rt u h := rfl
@[simp] theorem sthn_bk (s : Sg) (h : Hb) (k : Sg → Hb → SR) : (SR.bk s h).thn k = .bk s h := rfl
@[simp] theorem sthn_ct (s : Sg) (h : Hb) (k : Sg → Hb → SR) : (SR.ct s h).thn k = .ct s h := rfl
@[simp] theorem sthn_ex (x : Ex) (s : Sg) (h : Hb) (k : Sg → Hb → SR) : (SR.ex x s h).thn k = .ex x s h := rfl
@[simp] theorem sthn_bad (k : Sg → Hb → SR) : (SR.bad).thn k = .bad := rfl
def PostS (W : Wd) (r : SR) (m : List Addr) (H : Hp) (D : Ends) (w : WX) : Prop := match r with
  | .nx s h => ∀ m' H' t, Ext m H m' H' → Rel W m' h H' → RS W.K m' H' s t → D.nx t H'
  | .rt u h => ∀ m' H' v, Ext m H m' H' → Rel W m' h H' → RV W.K m' H' u v → D.rt v H'
  | .bk s h => ∀ m' H' t, Ext m H m' H' → Rel W m' h H' → RS W.K m' H' s t → D.bk t H'
  | .ct s h => ∀ m' H' t, Ext m H m' H' → Rel W m' h H' → RS W.K m' H' s t → D.ct t H'
  | .ex x s h => ∀ m' H' c d t, Ext m H m' H' → Rel W m' h H' → RX W m' H' x c d → RS W.K m' H' s t → w c d t H'
  | .bad => False
theorem PostS.later {W : Wd} {r : SR} {m m1 : List Addr} {H H1 : Hp} {D : Ends} {w : WX} (p : PostS W r m H D w) (e : Ext m H m1 H1) : PostS W r m1 H1 D w := by
  cases r with
  | nx s h => exact fun m' H' v e' => p m' H' v (e.trans e')
  | rt u h => exact fun m' H' v e' => p m' H' v (e.trans e')
  | bk u h => exact fun m' H' v e' => p m' H' v (e.trans e')
  | ct u h => exact fun m' H' v e' => p m' H' v (e.trans e')
  | ex x s h => exact fun m' H' c d t e' => p m' H' c d t (e.trans e')
  | bad => exact p
structure SS (W : Wd) (X : Cx) (st : Stmt) (f : Sv) : Prop where
  run : ∀ (w : WX), Takes X w → ∀ (σ : Sg) (h : Hb) (m : List Addr) (τ : L2.St) (H : Hp) (D : Ends), Rel W m h H → RS W.K m H σ τ → PostS W (f σ h) m H D w → EvS X st D τ H
structure SL (W : Wd) (X : Cx) (st : List Stmt) (f : Sv) : Prop where
  run : ∀ (w : WX), Takes X w → ∀ (σ : Sg) (h : Hb) (m : List Addr) (τ : L2.St) (H : Hp) (D : Ends), Rel W m h H → RS W.K m H σ τ → PostS W (f σ h) m H D w → EvL X st D τ H
/-- an expression ahead in a statement -/
theorem PostS.ahead {α β : Type} {W : Wd} {R : List Addr → Hp → α → β → Prop} {r : Res α} {s : Sg} {k : α → Hb → SR} {m : List Addr} {H : Hp} {D : Ends} {w : WX} {t : L2.St} (rs : RS W.K m H s t)
    (p : PostS W (r.thn s k) m H D w) {Q' : β → Hp → Prop} (f : ∀ u h1 m1 H1 v, r = .ok u h1 → Ext m H m1 H1 → Rel W m1 h1 H1 → R m1 H1 u v → PostS W (k u h1) m1 H1 D w → Q' v H1) : Post W R r m H Q' (fun c d H' => w c d t H') := by
  cases r with
  | ok u h' => exact fun m' H' v e rl rv => f u h' m' H' v rfl e rl rv (PostS.later p e)
  | ex x h' => exact fun m' H' c d e rl rx => p m' H' c d t e rl rx (rs.mono e)
  | bad => exact p
/-- a statement ahead -/
theorem PostS.seq {W : Wd} {r : SR} {k : Sg → Hb → SR} {m : List Addr} {H : Hp} {D : Ends} {w : WX} (p : PostS W (r.thn k) m H D w) {N : L2.St → Hp → Prop}
    (f : ∀ s h1 m1 H1 t, r = .nx s h1 → Ext m H m1 H1 → Rel W m1 h1 H1 → RS W.K m1 H1 s t → PostS W (k s h1) m1 H1 D w → N t H1) : PostS W r m H { D with nx := N } w := by
  cases r with
  | nx s h => exact fun m' H' t e rl rs => f s h m' H' t rfl e rl rs (PostS.later p e)
  | rt u h => exact p
  | bk u h => exact p
  | ct u h => exact p
  | ex x s h => exact p
  | bad => exact p

/-! ### expressions -/
section
variable {W : Wd} {X : Cx} {a b c : Expr} {fa fb fc : Ev} {pos : Pos}

def eVar (i : Nat) : Ev := fun s h => match s[i]? with
  | some (some u) => .ok u h
  | _ => .bad
theorem se_var {i : Nat} {x : Str} (hN : X.N[i]? = some x) (hv : Vis X.env.scope x) (hd : (x == ("__debug__" : Str)) = false) (hcd : (x == ("__classdict__" : Str)) = false) : SE W X (.Name x pos) (eVar i) := by
  refine ⟨fun w tk σ h m τ H Q rl rs p => ⟨_, pe_var hN hv hd hcd, ?_⟩⟩
  unfold eVar at p
  cases e : σ[i]? with
  | none => rw [e] at p; exact p.elim
  | some o =>
    cases o with
    | none => rw [e] at p; exact p.elim
    | some u =>
      rw [e] at p
      obtain ⟨x, h1, h2⟩ := rs.get e
      exact ⟨x, h1, p.ok rl h2⟩
def eCon (u : U) : Ev := fun _ h => .ok u h
theorem se_int {i j} : SE W X (.Constant (.int i) j pos) (eCon (.int i)) := ⟨fun w tk σ h m τ H Q rl rs p => ⟨_, pe_int, p.ok rl (v := V.int i) (by simp [RV])⟩⟩
theorem se_bl {i j} : SE W X (.Constant (.bool i) j pos) (eCon (.bl i)) := ⟨fun w tk σ h m τ H Q rl rs p => ⟨_, pe_bl, p.ok rl (v := V.bl i) (by simp [RV])⟩⟩
theorem se_non {j} : SE W X (.Constant .none j pos) (eCon .non) := ⟨fun w tk σ h m τ H Q rl rs p => ⟨_, pe_non, p.ok rl (v := V.non) (by simp [RV])⟩⟩
theorem se_str {i j} : SE W X (.Constant (.str i) j pos) (eCon (.str i)) := ⟨fun w tk σ h m τ H Q rl rs p => ⟨_, pe_str, p.ok rl (v := V.str i) (by simp [RV])⟩⟩

/-! two values -/
abbrev G2 := U → U → Hb → Res U
/-- what an operation on values does, as HandS reads it -/
def Op2 (W : Wd) (r : R2) (g : G2) : Prop := ∀ (x y : U) (h : Hb) (m : List Addr) (H : Hp) (v u : V) (Q : VK) (E : Value → Option Addr → Hp → Prop), Rel W m h H → RV W.K m H x v → RV W.K m H y u → Post W (RV W.K) (g x y h) m H Q E → r v u H Q
def e2k (g : G2) (fb : Ev) (s : Sg) (x : U) (h : Hb) : Res U := (fb s h).bind (g x)
def e2 (g : G2) (fa fb : Ev) : Ev := fun s h => (fa s h).bind (e2k g fb s)
theorem two {r : R2} {g : G2} (o : Op2 W r g) (ha : SE W X a fa) (hb : SE W X b fb) {w : WX} (tk : Takes X w) {σ : Sg} {h : Hb} {m : List Addr} {τ : L2.St} {H : Hp} {Q : VK} (rl : Rel W m h H) (rs : RS W.K m H σ τ)
    (p : Post W (RV W.K) (e2 g fa fb σ h) m H Q (fun c d H' => w c d τ H')) : tOp r (EvT X a) (EvT X b) τ H Q := by
  refine ha.run w tk σ h m τ H _ rl rs (Post.bind p fun x h1 m1 H1 v _ e1 rl1 rv p1 => ?_)
  refine hb.run w tk σ h1 m1 τ H1 _ rl1 (rs.mono e1) (Post.bind p1 fun y h2 m2 H2 u _ e2 rl2 ru p2 => ?_)
  exact o x y h2 m2 H2 v u Q _ rl2 (RV.mono e2 x rv) ru p2
theorem se_bin {op : Operator} {r : R2} {g : G2} (ho : OpR X (binaryOp op) r) (o : Op2 W r g) (ha : SE W X a fa) (hb : SE W X b fb) : SE W X (.BinOp a op b pos) (e2 g fa fb) :=
  ⟨fun w tk σ h m τ H Q rl rs p => ⟨_, pe_op ho (EvT.pe X a) (EvT.pe X b), two o ha hb tk rl rs p⟩⟩
theorem se_cmp {op : CmpOp} {r : R2} {g : G2} (ho : OpR X (compareOp op) r) (o : Op2 W r g) (ha : SE W X a fa) (hb : SE W X b fb) (hm : behindInMarks op b = false) : SE W X (.Compare a [op] [b] pos) (e2 g fa fb) :=
  ⟨fun w tk σ h m τ H Q rl rs p => ⟨_, pe_cmpR ho (EvT.pe X a) (EvT.pe X b) hm, two o ha hb tk rl rs p⟩⟩
theorem se_ix {r : R2} {g : G2} (ho : IxR X r) (o : Op2 W r g) (ha : SE W X a fa) (hb : SE W X b fb) (hs : PlainIx b) : SE W X (.Subscript a b pos) (e2 g fa fb) :=
  ⟨fun w tk σ h m τ H Q rl rs p => ⟨_, pe_ix ho (EvT.pe X a) (EvT.pe X b) hs, two o ha hb tk rl rs p⟩⟩
/-- a bool that comes, as a test -/
def asBk (x : U) (h : Hb) : Res Bool := match x with
  | .bl k => .ok k h
  | _ => .bad
def asB (f : Ev) : Eb := fun s h => (f s h).bind asBk
theorem Post.asB {r : Res U} {m : List Addr} {H : Hp} {Q : Bool → Hp → Prop} {E : Value → Option Addr → Hp → Prop} (p : Post W REq (r.bind asBk) m H Q E) :
    Post W (RV W.K) r m H (fun x H' => ∃ k, x = .bl k ∧ Q k H') E := by
  refine Post.bind p fun x h1 m1 H1 v _ e rl rv p1 => ?_
  cases x with
  | bl k =>
    unfold RV at rv
    exact ⟨k, rv, p1.ok rl rfl⟩
  | _ => exact p1.elim
theorem sb_cmp {op : CmpOp} {r : R2} {g : G2} (ho : OpR X (compareOp op) r) (o : Op2 W r g) (ha : SE W X a fa) (hb : SE W X b fb) (hm : behindInMarks op b = false) : SB W X (.Compare a [op] [b] pos) (asB (e2 g fa fb)) :=
  ⟨fun w tk σ h m τ H Q rl rs p => ⟨_, pt_cmpR ho (EvT.pe X a) (EvT.pe X b) hm, two o ha hb tk rl rs (Post.asB p)⟩⟩
def ch3 (g' : G2) (fc : Ev) (s : Sg) (y z : U) (h : Hb) : Res U := match z with
  | .bl true => (fc s h).bind (g' y)
  | .bl false => .ok (.bl false) h
  | _ => .bad
def ch2 (g g' : G2) (fc : Ev) (s : Sg) (x y : U) (h : Hb) : Res U := (g x y h).bind (ch3 g' fc s y)
def ch1 (g g' : G2) (fb fc : Ev) (s : Sg) (x : U) (h : Hb) : Res U := (fb s h).bind (ch2 g g' fc s x)
def eChain (g g' : G2) (fa fb fc : Ev) : Ev := fun s h => (fa s h).bind (ch1 g g' fb fc s)
theorem chain {r r' : R2} {g g' : G2} (o : Op2 W r g) (o' : Op2 W r' g') (ha : SE W X a fa) (hb : SE W X b fb) (hc : SE W X c fc) {w : WX} (tk : Takes X w) {σ : Sg} {h : Hb} {m : List Addr} {τ : L2.St} {H : Hp} {Q : VK} (rl : Rel W m h H) (rs : RS W.K m H σ τ)
    (p : Post W (RV W.K) (eChain g g' fa fb fc σ h) m H Q (fun c d H' => w c d τ H')) : tChain r r' (EvT X a) (EvT X b) (EvT X c) τ H Q := by
  refine ha.run w tk σ h m τ H _ rl rs (Post.bind p fun x h1 m1 H1 v _ e1 rl1 rv p1 => ?_)
  refine hb.run w tk σ h1 m1 τ H1 _ rl1 (rs.mono e1) (Post.bind p1 fun y h2 m2 H2 u _ e2 rl2 ru p2 => ?_)
  refine o x y h2 m2 H2 v u _ _ rl2 (RV.mono e2 x rv) ru (Post.bind p2 fun z h3 m3 H3 zv _ e3 rl3 rz p3 => ?_)
  cases z with
  | bl k =>
    unfold RV at rz
    refine ⟨k, rz, ?_⟩
    cases k with
    | true =>
      rw [if_pos rfl]
      refine hc.run w tk σ h3 m3 τ H3 _ rl3 (rs.mono (e1.trans (e2.trans e3))) (Post.bind p3 fun q h4 m4 H4 qv _ e4 rl4 rq p4 => ?_)
      exact o' y q h4 m4 H4 u qv Q _ rl4 (RV.mono (e3.trans e4) y ru) rq p4
    | false =>
      rw [if_neg Bool.false_ne_true]
      exact p3.ok rl3 (v := V.bl false) (by simp [RV])
  | _ => exact p3.elim
theorem se_chain {op op' : CmpOp} {r r' : R2} {g g' : G2} (ho : OpR X (compareOp op) r) (ho' : OpR X (compareOp op') r') (o : Op2 W r g) (o' : Op2 W r' g') (ha : SE W X a fa) (hb : SE W X b fb) (hc : SE W X c fc) (hm : lastMarks [op, op'] [b, c] = false) :
    SE W X (.Compare a [op, op'] [b, c] pos) (eChain g g' fa fb fc) :=
  ⟨fun w tk σ h m τ H Q rl rs p => ⟨_, pe_chain ho ho' (EvT.pe X a) (EvT.pe X b) (EvT.pe X c) hm, chain o o' ha hb hc tk rl rs p⟩⟩
theorem sb_chain {op op' : CmpOp} {r r' : R2} {g g' : G2} (ho : OpR X (compareOp op) r) (ho' : OpR X (compareOp op') r') (o : Op2 W r g) (o' : Op2 W r' g') (ha : SE W X a fa) (hb : SE W X b fb) (hc : SE W X c fc) (hm : lastMarks [op, op'] [b, c] = false) :
    SB W X (.Compare a [op, op'] [b, c] pos) (asB (eChain g g' fa fb fc)) :=
  ⟨fun w tk σ h m τ H Q rl rs p => ⟨_, pt_chain ho ho' (EvT.pe X a) (EvT.pe X b) (EvT.pe X c) hm, chain o o' ha hb hc tk rl rs (Post.asB p)⟩⟩

/-! one value -/
abbrev G1 := U → Hb → Res U
def Op1 (W : Wd) (r : V → Hp → VK → Prop) (g : G1) : Prop := ∀ (x : U) (h : Hb) (m : List Addr) (H : Hp) (v : V) (Q : VK) (E : Value → Option Addr → Hp → Prop), Rel W m h H → RV W.K m H x v → Post W (RV W.K) (g x h) m H Q E → r v H Q
def e1 (g : G1) (fa : Ev) : Ev := fun s h => (fa s h).bind g
theorem se_un {op : UnaryOp} {r : V → Hp → VK → Prop} {g : G1} (ho : UnR X (unaryOp op) r) (o : Op1 W r g) (ha : SE W X a fa) : SE W X (.UnaryOp op a pos) (e1 g fa) :=
  ⟨fun w tk σ h m τ H Q rl rs p => ⟨_, pe_un ho (EvT.pe X a), ha.run w tk σ h m τ H _ rl rs (Post.bind p fun x h1 m1 H1 v _ e rl1 rv p1 => o x h1 m1 H1 v Q _ rl1 rv p1)⟩⟩

/-! tests -/
/-- a value's truth -/
def truU (h : Hb) : U → Option Bool
  | .non => some false
  | .bl b => some b
  | .int i => some (i != 0)
  | .str x => if x.length ≤ sizeLine then some (x.length != 0) else none
  | .tup xs => some (!xs.isEmpty)
  | .ref a => match h[a]? with
    | some (.lst xs) => some (!xs.isEmpty)
    | some (.fro xs) => some (!xs.isEmpty)
    | _ => none
def truK (x : U) (h : Hb) : Res Bool := match truU h x with
  | some k => .ok k h
  | none => .bad
def bTru (f : Ev) : Eb := fun s h => (f s h).bind truK
theorem RO.sql {m : List Addr} {H : Hp} {p : Addr} {us : List U} (h : RO W m H p (.lst us)) : ∃ vs, SqL W.K H p vs ∧ RVs W.K m H us vs := by
  obtain ⟨vs, h1, r⟩ := h
  exact ⟨vs, .inl (.inl h1), r⟩
theorem RO.sqf {m : List Addr} {H : Hp} {p : Addr} {us : List U} (h : RO W m H p (.fro us)) : ∃ vs, SqL W.K H p vs ∧ RVs W.K m H us vs := by
  obtain ⟨vs, h1, r⟩ := h
  refine ⟨vs, ?_, r⟩
  rcases h1 with ⟨o, h1⟩ | h1
  · exact .inl (.inr ⟨o, h1⟩)
  · exact .inr h1
theorem isEmpty_rvs {K : PySem.W.Frag} {m : List Addr} {H : Hp} {us : List U} {vs : List V} (r : RVs K m H us vs) : us.isEmpty = vs.isEmpty := by
  have := r.length
  cases us <;> cases vs <;> simp_all
theorem tru_rel {m : List Addr} {h : Hb} {H : Hp} (rl : Rel W m h H) {x : U} {v : V} (rv : RV W.K m H x v) {k : Bool} (e : truU h x = some k) : TruV W.K v H k := by
  cases x with
  | non => unfold RV at rv; subst rv; simp [truU] at e; exact e.symm ▸ rfl
  | bl b => unfold RV at rv; subst rv; simp [truU] at e; exact e.symm
  | int b => unfold RV at rv; subst rv; simp only [truU, Option.some.injEq] at e; exact e.symm
  | str b =>
    unfold RV at rv; subst rv
    simp only [truU] at e
    split at e
    · rename_i hl
      refine ⟨hl, ?_⟩
      have e' := Option.some.inj e
      rw [← e']
      cases b.length <;> simp
      omega
    · cases e
  | tup us =>
    unfold RV at rv
    obtain ⟨a, vs, rfl, t, r⟩ := rv
    simp only [truU, Option.some.injEq] at e
    refine .inr (.inl ⟨vs, t.sq, ?_⟩)
    rw [← e, isEmpty_rvs r]
  | ref i =>
    unfold RV at rv
    obtain ⟨a, rfl, hm⟩ := rv
    simp only [truU] at e
    cases q : h[i]? with
    | none => rw [q] at e; cases e
    | some o =>
      rw [q] at e
      cases o with
      | lst us =>
        obtain ⟨vs, sq, r⟩ := (rl.at_ i _ a q hm).sql
        refine .inl ⟨vs, sq, ?_⟩
        rw [← isEmpty_rvs r]; exact (Option.some.inj e).symm
      | fro us =>
        obtain ⟨vs, sq, r⟩ := (rl.at_ i _ a q hm).sqf
        refine .inl ⟨vs, sq, ?_⟩
        rw [← isEmpty_rvs r]; exact (Option.some.inj e).symm
      | ins c fs => cases e
theorem sb_tru (hK : X.K = W.K) (ha : SE W X a fa) (he : ∀ whole, isTrue a X.env whole = (do let v ← whole; standAt a.pos; holding [v] (truthy v))) : SB W X a (bTru fa) := by
  refine ⟨fun w tk σ h m τ H Q rl rs p => ⟨_, pt_truth (EvT.pe X a) he, ?_⟩⟩
  refine ha.run w tk σ h m τ H _ rl rs (Post.bind p fun x h1 m1 H1 v _ e rl1 rv p1 => ?_)
  unfold truK at p1
  cases q : truU h1 x with
  | none => rw [q] at p1; exact p1.elim
  | some k =>
    rw [q] at p1
    exact ⟨k, by rw [hK]; exact tru_rel rl1 rv q, p1.ok rl1 rfl⟩
def bNotk (k : Bool) (h : Hb) : Res Bool := .ok (!k) h
def bNot (f : Eb) : Eb := fun s h => (f s h).bind bNotk
theorem sb_not {f : Eb} (ha : SB W X a f) : SB W X (.UnaryOp .Not a pos) (bNot f) :=
  ⟨fun w tk σ h m τ H Q rl rs p => ⟨_, pt_not (EvB.pt X a), ha.run w tk σ h m τ H _ rl rs (Post.bind p fun x h1 m1 H1 v _ e rl1 rv p1 => by subst rv; exact p1.ok rl1 rfl)⟩⟩
def bAndk (g : Eb) (s : Sg) (k : Bool) (h : Hb) : Res Bool := match k with | true => g s h | false => .ok false h
def bAnd (f g : Eb) : Eb := fun s h => (f s h).bind (bAndk g s)
def bOrk (g : Eb) (s : Sg) (k : Bool) (h : Hb) : Res Bool := match k with | true => .ok true h | false => g s h
def bOr (f g : Eb) : Eb := fun s h => (f s h).bind (bOrk g s)
variable {rest : List Expr}
theorem sw_and1 {f : Eb} (ha : SB W X a f) : SW W X (.BoolOp .And [a] pos) f := ⟨fun w tk σ h m τ H Q rl rs p => ⟨_, pw_and1 (EvB.pt X a), ha.run w tk σ h m τ H _ rl rs p⟩⟩
theorem sw_or1 {f : Eb} (ha : SB W X a f) : SW W X (.BoolOp .Or [a] pos) f := ⟨fun w tk σ h m τ H Q rl rs p => ⟨_, pw_or1 (EvB.pt X a), ha.run w tk σ h m τ H _ rl rs p⟩⟩
theorem sw_and {f g : Eb} (ha : SB W X a f) (hb : SW W X (.BoolOp .And (b :: rest) pos) g) : SW W X (.BoolOp .And (a :: b :: rest) pos) (bAnd f g) := by
  refine ⟨fun w tk σ h m τ H Q rl rs p => ⟨_, pw_and (EvB.pt X a) (EvW.pw X _), ?_⟩⟩
  refine ha.run w tk σ h m τ H _ rl rs (Post.bind p fun x h1 m1 H1 v _ e rl1 rv p1 => ?_)
  subst rv
  cases v with
  | true => rw [if_pos rfl]; exact hb.run w tk σ h1 m1 τ H1 _ rl1 (rs.mono e) p1
  | false => rw [if_neg Bool.false_ne_true]; exact p1.ok rl1 rfl
theorem sw_or {f g : Eb} (ha : SB W X a f) (hb : SW W X (.BoolOp .Or (b :: rest) pos) g) : SW W X (.BoolOp .Or (a :: b :: rest) pos) (bOr f g) := by
  refine ⟨fun w tk σ h m τ H Q rl rs p => ⟨_, pw_or (EvB.pt X a) (EvW.pw X _), ?_⟩⟩
  refine ha.run w tk σ h m τ H _ rl rs (Post.bind p fun x h1 m1 H1 v _ e rl1 rv p1 => ?_)
  subst rv
  cases v with
  | true => rw [if_pos rfl]; exact p1.ok rl1 rfl
  | false => rw [if_neg Bool.false_ne_true]; exact hb.run w tk σ h1 m1 τ H1 _ rl1 (rs.mono e) p1
theorem SW.sb {f : Eb} (h : SW W X a f) : SB W X a f := ⟨fun w tk σ h' m τ H Q rl rs p => by
  obtain ⟨t, q, r⟩ := h.run w tk σ h' m τ H Q rl rs p
  exact ⟨t, q.pt, r⟩⟩
/-- and, or as values: all but the last are bools -/
def eAndk (g : Ev) (s : Sg) (x : U) (h : Hb) : Res U := match x with | .bl true => g s h | .bl false => .ok (.bl false) h | _ => .bad
def eAnd (f g : Ev) : Ev := fun s h => (f s h).bind (eAndk g s)
def eOrk (g : Ev) (s : Sg) (x : U) (h : Hb) : Res U := match x with | .bl true => .ok (.bl true) h | .bl false => g s h | _ => .bad
def eOr (f g : Ev) : Ev := fun s h => (f s h).bind (eOrk g s)
theorem se_one {op} (ha : SE W X a fa) : SE W X (.BoolOp op [a] pos) fa := ⟨fun w tk σ h m τ H Q rl rs p => ⟨_, pe_one (EvT.pe X a), ha.run w tk σ h m τ H _ rl rs p⟩⟩
theorem se_and (ha : SE W X a fa) (hb : SE W X (.BoolOp .And (b :: rest) pos) fb) : SE W X (.BoolOp .And (a :: b :: rest) pos) (eAnd fa fb) := by
  refine ⟨fun w tk σ h m τ H Q rl rs p => ⟨_, pe_and (EvT.pe X a) (EvT.pe X _), ?_⟩⟩
  refine ha.run w tk σ h m τ H _ rl rs (Post.bind p fun x h1 m1 H1 v _ e rl1 rv p1 => ?_)
  cases x with
  | bl k =>
    unfold RV at rv
    refine ⟨k, rv, ?_⟩
    cases k with
    | true => rw [if_pos rfl]; exact hb.run w tk σ h1 m1 τ H1 _ rl1 (rs.mono e) p1
    | false => rw [if_neg Bool.false_ne_true]; exact p1.ok rl1 (v := V.bl false) (by simp [RV])
  | _ => exact p1.elim
theorem se_or (ha : SE W X a fa) (hb : SE W X (.BoolOp .Or (b :: rest) pos) fb) : SE W X (.BoolOp .Or (a :: b :: rest) pos) (eOr fa fb) := by
  refine ⟨fun w tk σ h m τ H Q rl rs p => ⟨_, pe_or (EvT.pe X a) (EvT.pe X _), ?_⟩⟩
  refine ha.run w tk σ h m τ H _ rl rs (Post.bind p fun x h1 m1 H1 v _ e rl1 rv p1 => ?_)
  cases x with
  | bl k =>
    unfold RV at rv
    refine ⟨k, rv, ?_⟩
    cases k with
    | true => rw [if_pos rfl]; exact p1.ok rl1 (v := V.bl true) (by simp [RV])
    | false => rw [if_neg Bool.false_ne_true]; exact hb.run w tk σ h1 m1 τ H1 _ rl1 (rs.mono e) p1
  | _ => exact p1.elim
def eNotk (x : U) (h : Hb) : Res U := match x with | .bl k => .ok (.bl (!k)) h | _ => .bad
def eNot (f : Ev) : Ev := fun s h => (f s h).bind eNotk
theorem se_not (ha : SE W X a fa) : SE W X (.UnaryOp .Not a pos) (eNot fa) := by
  refine ⟨fun w tk σ h m τ H Q rl rs p => ⟨_, pe_not (EvT.pe X a), ?_⟩⟩
  refine ha.run w tk σ h m τ H _ rl rs (Post.bind p fun x h1 m1 H1 v _ e rl1 rv p1 => ?_)
  cases x with
  | bl k =>
    unfold RV at rv
    exact ⟨k, rv, p1.ok rl1 (v := V.bl (!k)) (by simp [RV])⟩
  | _ => exact p1.elim
def eIfk (f g : Ev) (s : Sg) (k : Bool) (h : Hb) : Res U := match k with | true => f s h | false => g s h
def eIf (c : Eb) (f g : Ev) : Ev := fun s h => (c s h).bind (eIfk f g s)
theorem se_if {f : Eb} (hc : SB W X c f) (ha : SE W X a fa) (hb : SE W X b fb) : SE W X (.IfExp c a b pos) (eIf f fa fb) := by
  refine ⟨fun w tk σ h m τ H Q rl rs p => ⟨_, pe_ifExp (EvB.pt X c) (EvT.pe X a) (EvT.pe X b), ?_⟩⟩
  refine hc.run w tk σ h m τ H _ rl rs (Post.bind p fun x h1 m1 H1 v _ e rl1 rv p1 => ?_)
  subst rv
  cases v with
  | true => rw [if_pos rfl]; exact ha.run w tk σ h1 m1 τ H1 _ rl1 (rs.mono e) p1
  | false => rw [if_neg Bool.false_ne_true]; exact hb.run w tk σ h1 m1 τ H1 _ rl1 (rs.mono e) p1

/-! argument lists, displays -/
variable {es : List Expr} {fs : Ea}
def aNil : Ea := fun _ h => .ok [] h
def aC2 (x : U) (xs : List U) (h : Hb) : Res (List U) := .ok (x :: xs) h
def aC1 (g : Ea) (s : Sg) (x : U) (h : Hb) : Res (List U) := (g s h).bind (aC2 x)
def aCons (f : Ev) (g : Ea) : Ea := fun s h => (f s h).bind (aC1 g s)
theorem sa_nil : SA W X [] aNil := ⟨fun w tk σ h m τ H Q rl rs p => ⟨_, pa_nil, p.ok rl .nil⟩⟩
theorem sa_cons (ha : SE W X a fa) (hr : SA W X es fs) (hs : starEach (a :: es) X.env = (false, eval a X.env) :: starEach es X.env) : SA W X (a :: es) (aCons fa fs) := by
  refine ⟨fun w tk σ h m τ H Q rl rs p => ⟨_, pa_cons (EvT.pe X a) (EvA.pa X es) hs, ?_⟩⟩
  refine ha.run w tk σ h m τ H _ rl rs (Post.bind p fun x h1 m1 H1 v _ e1 rl1 rv p1 => ?_)
  refine hr.run w tk σ h1 m1 τ H1 _ rl1 (rs.mono e1) (Post.bind p1 fun xs h2 m2 H2 vs _ e2 rl2 rvs p2 => ?_)
  exact p2.ok rl2 (.cons (RV.mono e2 x rv) rvs)
def eTupk (xs : List U) (h : Hb) : Res U := if xs.length ≤ sizeLine then .ok (.tup xs) h else .bad
def eTup (g : Ea) : Ev := fun s h => (g s h).bind eTupk
def eLstk (xs : List U) (h : Hb) : Res U := if xs.length ≤ sizeLine then .ok (.ref h.length) (h ++ [.lst xs]) else .bad
def eLst (g : Ea) : Ev := fun s h => (g s h).bind eLstk
theorem se_tup {k} (ha : SA W X es fs) : SE W X (.Tuple es k pos) (eTup fs) := by
  refine ⟨fun w tk σ h m τ H Q rl rs p => ⟨_, pe_tup (EvA.pa X es), ?_⟩⟩
  refine ha.run w tk σ h m τ H _ rl rs (Post.bind p fun xs h1 m1 H1 vs _ e1 rl1 rvs p1 => ?_)
  unfold eTupk at p1
  split at p1
  · rename_i hl
    refine ⟨by rw [← rvs.length]; exact hl, fun q hq => ?_⟩
    obtain ⟨rl2, e2⟩ := rl1.junk (o := .tup vs) hq
    refine p1 m1 _ (.ref q) e2 rl2 ?_
    unfold RV
    exact ⟨q, vs, rfl, .inl upd_same, RVs.mono e2 xs rvs⟩
  · exact p1.elim
/-- a new list -/
theorem new_lst {h : Hb} {m : List Addr} {H : Hp} {us : List U} {vs : List V} {Q : VK} {E : Value → Option Addr → Hp → Prop} (rl : Rel W m h H) (rv : RVs W.K m H us vs)
    (p : Post W (RV W.K) (.ok (.ref h.length) (h ++ [.lst us])) m H Q E) : ∀ q, H q = none → Q (.ref q) (upd H q (.lst vs)) := fun q hq => by
  obtain ⟨rl2, e2, hm⟩ := rl.alloc (o := .lst us) (q := .lst vs) hq (fun m1 H1 e h1 => ⟨vs, h1, RVs.mono e us rv⟩)
  refine p _ _ (.ref q) e2 rl2 ?_
  unfold RV
  exact ⟨q, rfl, hm⟩
theorem se_lst (ha : SA W X es fs) : SE W X (.List es pos) (eLst fs) := by
  refine ⟨fun w tk σ h m τ H Q rl rs p => ⟨_, pe_lst (EvA.pa X es), ?_⟩⟩
  refine ha.run w tk σ h m τ H _ rl rs (Post.bind p fun xs h1 m1 H1 vs _ e1 rl1 rvs p1 => ?_)
  unfold eLstk at p1
  split at p1
  · rename_i hl
    exact ⟨by rw [← rvs.length]; exact hl, new_lst rl1 rvs p1⟩
  · exact p1.elim
end
end Lz
namespace Lz
open PySem PySem.Spec PyProof.Rows L2
open Classical

/-! ### statements -/
section
variable {W : Wd} {X : Cx} {a b c e : Expr} {fa fb fc fe : Ev} {pos : Pos} {st : Stmt} {rest : List Stmt} {f g : Sv}

def sNil : Sv := fun s h => .nx s h
def sSeq (f g : Sv) : Sv := fun s h => (f s h).thn g
theorem sl_nil : SL W X [] sNil := ⟨fun w tk σ h m τ H D rl rs p => ⟨_, pss_nil, p m H τ (.refl m H) rl rs⟩⟩
theorem sl_cons (h1 : SS W X st f) (h2 : SL W X rest g) : SL W X (st :: rest) (sSeq f g) :=
  ⟨fun w tk σ h m τ H D rl rs p => ⟨_, pss_cons (EvS.ps X st) (EvL.pss X rest), h1.run w tk σ h m τ H _ rl rs (PostS.seq p fun s h1 m1 H1 t _ e rl1 rs1 p1 => h2.run w tk s h1 m1 t H1 D rl1 rs1 p1)⟩⟩
theorem sl_one (h1 : SS W X st f) : SL W X [st] f :=
  ⟨fun w tk σ h m τ H D rl rs p => ⟨_, pss_one (EvS.ps X st), h1.run w tk σ h m τ H _ rl rs p⟩⟩
theorem ss_pass : SS W X (.Pass pos) sNil := ⟨fun w tk σ h m τ H D rl rs p => ⟨_, ps_pass, p m H τ (.refl m H) rl rs⟩⟩
def sBrk : Sv := fun s h => .bk s h
def sCnt : Sv := fun s h => .ct s h
theorem ss_break : SS W X (.Break pos) sBrk := ⟨fun w tk σ h m τ H D rl rs p => ⟨_, ps_break, p m H τ (.refl m H) rl rs⟩⟩
theorem ss_continue : SS W X (.Continue pos) sCnt := ⟨fun w tk σ h m τ H D rl rs p => ⟨_, ps_continue, p m H τ (.refl m H) rl rs⟩⟩
theorem ss_doc {x j pos'} : SS W X (.Expr (.Constant (.str x) j pos) pos') sNil := ⟨fun w tk σ h m τ H D rl rs p => ⟨_, ps_doc, p m H τ (.refl m H) rl rs⟩⟩
def sExpk (s : Sg) (_ : U) (h : Hb) : SR := .nx s h
def sExp (f : Ev) : Sv := fun s h => (f s h).thn s (sExpk s)
theorem ss_expr (he : SE W X e fe) (hs : swapsWith e none pos.line X.env = pure false) : SS W X (.Expr e pos) (sExp fe) :=
  ⟨fun w tk σ h m τ H D rl rs p => ⟨_, ps_expr (EvT.pe X e) hs, he.run w tk σ h m τ H _ rl rs (PostS.ahead rs p fun u h1 m1 H1 v _ e rl1 rv p1 => p1 m1 H1 τ (.refl m1 H1) rl1 (rs.mono e))⟩⟩
def sRet (f : Ev) : Sv := fun s h => (f s h).thn s SR.rt
theorem ss_ret (he : SE W X e fe) : SS W X (.Return (some e) pos) (sRet fe) :=
  ⟨fun w tk σ h m τ H D rl rs p => ⟨_, ps_ret (EvT.pe X e), he.run w tk σ h m τ H _ rl rs (PostS.ahead rs p fun u h1 m1 H1 v _ e rl1 rv p1 => p1 m1 H1 v (.refl m1 H1) rl1 rv)⟩⟩
def sRetN : Sv := fun _ h => .rt .non h
theorem ss_retN : SS W X (.Return none pos) sRetN := ⟨fun w tk σ h m τ H D rl rs p => ⟨_, ps_retN, p m H .non (.refl m H) rl (by simp [RV])⟩⟩
def brS (f g : Sv) (s : Sg) (k : Bool) (h : Hb) : SR := match k with | true => f s h | false => g s h
def sIf (c : Eb) (f g : Sv) : Sv := fun s h => (c s h).thn s (brS f g s)
theorem ss_if {A B : List Stmt} {k : Eb} (hc : SB W X c k) (ha : SL W X A f) (hb : SL W X B g) : SS W X (.If c A B pos) (sIf k f g) := by
  refine ⟨fun w tk σ h m τ H D rl rs p => ⟨_, ps_if (EvB.pt X c) (EvL.pss X A) (EvL.pss X B), ?_⟩⟩
  refine hc.run w tk σ h m τ H _ rl rs (PostS.ahead rs p fun k h1 m1 H1 v _ e rl1 rv p1 => ?_)
  subst rv
  cases v with
  | true => rw [if_pos rfl]; exact ha.run w tk σ h1 m1 τ H1 D rl1 (rs.mono e) p1
  | false => rw [if_neg Bool.false_ne_true]; exact hb.run w tk σ h1 m1 τ H1 D rl1 (rs.mono e) p1

/-! targets -/
abbrev Tg := U → Sv
structure SG (W : Wd) (X : Cx) (t : Expr) (g : Tg) : Prop where
  run : ∀ (w : WX), Takes X w → ∀ (u : U) (v : V) (σ : Sg) (h : Hb) (m : List Addr) (τ : L2.St) (H : Hp) (Q : L2.St → Hp → Prop), Rel W m h H → RS W.K m H σ τ → RV W.K m H u v →
    PostS W (g u σ h) m H { nx := Q, rt := fun _ _ => False } w → EvG X t v τ H Q
structure SGs (W : Wd) (X : Cx) (t : List Expr) (g : List U → Sv) : Prop where
  run : ∀ (w : WX), Takes X w → ∀ (u : List U) (v : List V) (σ : Sg) (h : Hb) (m : List Addr) (τ : L2.St) (H : Hp) (Q : L2.St → Hp → Prop), Rel W m h H → RS W.K m H σ τ → RVs W.K m H u v →
    PostS W (g u σ h) m H { nx := Q, rt := fun _ _ => False } w → EvGs X t v τ H Q
def gNm (i : Nat) : Tg := fun u s h => .nx (s.set i (some u)) h
theorem sg_name {i : Nat} {x : Str} (hN : X.N.Nodup) (hi : X.N[i]? = some x) (hx : Loc X.env.scope x) (hf : X.fn x = true ∨ X.env.scope.names.lookup x = some .local) : SG W X (.Name x pos) (gNm i) :=
  ⟨fun w tk u v σ h m τ H Q rl rs rv p => ⟨_, pg_name hN hi hx hf, p m H _ (.refl m H) rl (RS.set rv i rs)⟩⟩
def gsNil : List U → Sv := fun us s h => match us with | [] => .nx s h | _ => .bad
def gsCons (g : Tg) (gs : List U → Sv) : List U → Sv := fun us s h => match us with | u :: r => (g u s h).thn (gs r) | [] => .bad
theorem sgs_nil : SGs W X [] gsNil := ⟨fun w tk u v σ h m τ H Q rl rs rv p => by
  cases u with
  | nil => rw [rv.inv_nil]; exact ⟨_, pgs_nil, rfl, p m H τ (.refl m H) rl rs⟩
  | cons _ _ => exact p.elim⟩
theorem sgs_cons {es : List Expr} {g : Tg} {gs : List U → Sv} (h1 : SG W X e g) (h2 : SGs W X es gs) (hs : (assignEach (e :: es) X.env).map (·.2) = assign e X.env :: (assignEach es X.env).map (·.2)) : SGs W X (e :: es) (gsCons g gs) := ⟨fun w tk u v σ h m τ H Q rl rs rv p => by
  cases u with
  | nil => exact p.elim
  | cons u r =>
    obtain ⟨x, y, rfl, a, b⟩ := rv.inv_cons
    refine ⟨_, pgs_cons (EvG.pg X e) (EvGs.pgs X es) hs, x, y, rfl, h1.run w tk u x σ h m τ H _ rl rs a ?_⟩
    exact PostS.seq p fun s1 h1 m1 H1 t _ e rl1 rs1 p1 => h2.run w tk r y s1 h1 m1 t H1 Q rl1 rs1 (RVs.mono e r b) p1⟩
def gTp (n : Nat) (gs : List U → Sv) : Tg := fun u s h => match u with | .tup us => if us.length = n then gs us s h else .bad | _ => .bad
theorem sg_tup {es : List Expr} {k : Nat} {gs : List U → Sv} {n : Nat} (hK : X.K = W.K) (hc : X.calm = true) (hg : SGs W X es gs) (hn : (assignEach es X.env).length = n) (hst : (assignEach es X.env).findIdx? (·.1) = none) : SG W X (.Tuple es k pos) (gTp n gs) := ⟨fun w tk u v σ h m τ H Q rl rs rv p => by
  cases u with
  | tup us =>
    unfold RV at rv
    obtain ⟨a, vs, rfl, t, r⟩ := rv
    simp only [gTp] at p
    split at p
    · rename_i hl
      exact ⟨_, pg_tup hc (EvGs.pgs X es) hn hst, a, vs, rfl, by rw [hK]; exact t.sq, by rw [← r.length]; exact hl, hg.run w tk us vs σ h m τ H Q rl rs r p⟩
    · exact p.elim
  | _ => exact p.elim⟩
/-- o[i] = v -/
abbrev G3 := U → U → U → Hb → Option Hb
def Op3 (W : Wd) (r : TSet) (g : G3) : Prop := ∀ (o i u : U) (h h' : Hb) (m : List Addr) (H : Hp) (ov iv v : V) (Q : Hp → Prop), g o i u h = some h' → Rel W m h H → RV W.K m H o ov → RV W.K m H i iv → RV W.K m H u v →
  (∀ m' H', Ext m H m' H' → Rel W m' h' H' → Q H') → r ov iv v H Q
def gI2 (g : G3) (u : U) (s : Sg) (o i : U) (h : Hb) : SR := match g o i u h with | some h3 => .nx s h3 | none => .bad
def gI1 (g : G3) (fi : Ev) (u : U) (s : Sg) (o : U) (h : Hb) : SR := (fi s h).thn s (gI2 g u s o)
def gIx (g : G3) (fo fi : Ev) : Tg := fun u s h => (fo s h).thn s (gI1 g fi u s)
theorem sg_sub {g : G3} {r : TSet} (hs : PSet X r) (og : Op3 W r g) (ha : SE W X a fa) (hb : SE W X b fb)
    (hh : ∀ v, assign (.Subscript a b pos) X.env v = (do
      let ov ← holding [v] (eval a X.env)
      let iv ← holding [v, ov] (eval b X.env)
      standAt pos
      holding [v, ov, iv] (setItem ov iv v)
      release [v, ov, iv] [])) : SG W X (.Subscript a b pos) (gIx g fa fb) := ⟨fun w tk u v σ h m τ H Q rl rs rv p => by
  refine ⟨_, pg_sub (EvT.pe X a) (EvT.pe X b) hs hh, ?_⟩
  refine ha.run w tk σ h m τ H _ rl rs (PostS.ahead rs p fun o h1 m1 H1 ov _ e1 rl1 ro p1 => ?_)
  refine hb.run w tk σ h1 m1 τ H1 _ rl1 (rs.mono e1) (PostS.ahead (rs.mono e1) p1 fun i h2 m2 H2 iv _ e2 rl2 ri p2 => ?_)
  unfold gI2 at p2
  cases q : g o i u h2 with
  | none => rw [q] at p2; exact p2.elim
  | some h3 =>
    rw [q] at p2
    exact og o i u h2 h3 m2 H2 ov iv v _ q rl2 (RV.mono e2 o ro) ri (RV.mono (e1.trans e2) u rv) fun m' H' e' rl' => p2 m' H' τ e' rl' (rs.mono (e1.trans (e2.trans e')))⟩
def sAsgk (g : Tg) (s : Sg) (u : U) (h : Hb) : SR := g u s h
def sAsg (f : Ev) (g : Tg) : Sv := fun s h => (f s h).thn s (sAsgk g s)
theorem PostS.tgt {r : SR} {m : List Addr} {H : Hp} {D : Ends} {w : WX} (p : PostS W r m H D w) (hr : ∀ u h, r ≠ .rt u h) (hb : ∀ u h, r ≠ .bk u h) (hc : ∀ u h, r ≠ .ct u h) : PostS W r m H { nx := D.nx, rt := fun _ _ => False } w := by
  cases r with
  | nx s h => exact p
  | rt u h => exact absurd rfl (hr u h)
  | bk u h => exact absurd rfl (hb u h)
  | ct u h => exact absurd rfl (hc u h)
  | ex x s h => exact p
  | bad => exact p
/-- a target only stores -/
def OnlyNx (g : Tg) : Prop := ∀ u s h, (∀ u' h', g u s h ≠ .rt u' h') ∧ (∀ u' h', g u s h ≠ .bk u' h') ∧ ∀ u' h', g u s h ≠ .ct u' h'
def OnlyNxs (g : List U → Sv) : Prop := ∀ u s h, (∀ u' h', g u s h ≠ .rt u' h') ∧ (∀ u' h', g u s h ≠ .bk u' h') ∧ ∀ u' h', g u s h ≠ .ct u' h'
theorem on_name {i : Nat} : OnlyNx (gNm i) := fun u s h => ⟨by simp [gNm], by simp [gNm], by simp [gNm]⟩
theorem on_nil : OnlyNxs gsNil := fun u s h => by cases u <;> simp [gsNil]
theorem on_cons {g : Tg} {gs : List U → Sv} (a : OnlyNx g) (b : OnlyNxs gs) : OnlyNxs (gsCons g gs) := fun u s h => by
  cases u with
  | nil => simp [gsCons]
  | cons u r =>
    have x := a u s h
    simp only [gsCons]
    cases q : g u s h with
    | nx s1 h1 => exact b r s1 h1
    | rt u h => rw [q] at x; exact absurd rfl (x.1 _ _)
    | bk u h => rw [q] at x; exact absurd rfl (x.2.1 _ _)
    | ct u h => rw [q] at x; exact absurd rfl (x.2.2 _ _)
    | ex x s h => simp [SR.thn]
    | bad => simp [SR.thn]
theorem on_tup {n : Nat} {gs : List U → Sv} (b : OnlyNxs gs) : OnlyNx (gTp n gs) := fun u s h => by
  cases u with
  | tup us =>
    simp only [gTp]
    split
    · exact b us s h
    · simp
  | _ => simp [gTp]
theorem on_ix {g : G3} {fo fi : Ev} : OnlyNx (gIx g fo fi) := fun u s h => by
  simp only [gIx]
  cases fo s h with
  | ok o h1 =>
    simp only [thn_ok, gI1]
    cases fi s h1 with
    | ok i h2 =>
      simp only [thn_ok, gI2]
      cases g o i u h2 <;> simp
    | ex x h => simp
    | bad => simp
  | ex x h => simp
  | bad => simp
theorem ss_asg {tg : Expr} {g : Tg} (he : SE W X e fe) (hg : SG W X tg g) (on : OnlyNx g) (hs : swapsWithSole [tg] e pos.line X.env = pure false) (hw : swappedStores [tg] e X.env = pure none)
    (h1 : (assignEach [tg] X.env).map (·.2) = [assign tg X.env]) : SS W X (.Assign [tg] e pos) (sAsg fe g) := by
  refine ⟨fun w tk σ h m τ H D rl rs p => ⟨_, ps_asg (EvT.pe X e) (EvG.pg X tg) hs hw h1, ?_⟩⟩
  refine he.run w tk σ h m τ H _ rl rs (PostS.ahead rs p fun u h1 m1 H1 v _ e rl1 rv p1 => ?_)
  have o := on u σ h1
  exact hg.run w tk u v σ h1 m1 τ H1 D.nx rl1 (rs.mono e) rv (p1.tgt o.1 o.2.1 o.2.2)
def sSetk (i : Nat) (s : Sg) (u : U) (h : Hb) : SR := .nx (s.set i (some u)) h
def sSet (i : Nat) (f : Ev) : Sv := fun s h => (f s h).thn s (sSetk i s)
theorem ss_set {i : Nat} {x : Str} {pos' : Pos} (hN : X.N.Nodup) (hi : X.N[i]? = some x) (hx : Loc X.env.scope x) (he : SE W X e fe) (hs : swapsWith e (some (.Name x pos')) pos.line X.env = pure false) (hf : X.fn x = true ∨ X.env.scope.names.lookup x = some .local) :
    SS W X (.Assign [.Name x pos'] e pos) (sSet i fe) := by
  refine ⟨fun w tk σ h m τ H D rl rs p => ⟨_, ps_set hN hi hx (EvT.pe X e) hs hf, ?_⟩⟩
  exact he.run w tk σ h m τ H _ rl rs (PostS.ahead rs p fun u h1 m1 H1 v _ e rl1 rv p1 => p1 m1 H1 _ (.refl m1 H1) rl1 (RS.set rv i (rs.mono e)))
/-- a, b = x, y -/
def sPark (i j : Nat) (s : Sg) (us : List U) (h : Hb) : SR := match us with | [x, y] => .nx ((s.set i (some x)).set j (some y)) h | _ => .bad
def sPar (i j : Nat) (f : Ea) : Sv := fun s h => (f s h).thn s (sPark i j s)
theorem ss_par {i j : Nat} {x y : Str} {fab : Ea} {px py pt : Pos} {kt k2 pt2} (hc : X.calm = true) (hN : X.N.Nodup) (hi : X.N[i]? = some x) (hj : X.N[j]? = some y) (hij : i ≠ j)
    (hx : X.env.scope.names.lookup x = some .local) (hy : X.env.scope.names.lookup y = some .local) (ha : SA W X [a, b] fab)
    (hw : swappedStores [.Tuple [.Name x px, .Name y py] kt pt] (.Tuple [a, b] k2 pt2) X.env = pure (some [x, y]))
    (hs : swapsWithSole [.Tuple [.Name x px, .Name y py] kt pt] (.Tuple [a, b] k2 pt2) pos.line X.env = pure false) :
    SS W X (.Assign [.Tuple [.Name x px, .Name y py] kt pt] (.Tuple [a, b] k2 pt2) pos) (sPar i j fab) := by
  refine ⟨fun w tk σ h m τ H D rl rs p => ⟨_, ps_par hc hN hi hj hij hx hy (EvA.pa X [a, b]) hw hs, ?_⟩⟩
  refine ha.run w tk σ h m τ H _ rl rs (PostS.ahead rs p fun us h1 m1 H1 v _ e rl1 rv p1 => ?_)
  match us, rv, p1 with
  | [x, y], rv, p1 =>
    obtain ⟨v1, r1, rfl, a1, b1⟩ := rv.inv_cons
    obtain ⟨v2, r2, rfl, a2, b2⟩ := b1.inv_cons
    rw [b2.inv_nil]
    exact ⟨v1, v2, rfl, p1 m1 H1 _ (.refl m1 H1) rl1 (RS.set a2 j (RS.set a1 i (rs.mono e)))⟩
  | [], _, p1 => exact p1.elim
  | [_], _, p1 => exact p1.elim
  | _ :: _ :: _ :: _, _, p1 => exact p1.elim
/-- x op= e -/
def sAugk (i : Nat) (g : G2) (s : Sg) (x y : U) (h : Hb) : SR := (g x y h).thn s (sSetk i s)
def sAug0 (i : Nat) (g : G2) (f : Ev) (s : Sg) (h : Hb) (o : Option (Option U)) : SR := match o with
  | some (some x) => (f s h).thn s (sAugk i g s x)
  | _ => .bad
def sAug (i : Nat) (g : G2) (f : Ev) : Sv := fun s h => sAug0 i g f s h s[i]?
theorem ss_aug {i : Nat} {x : Str} {op : Operator} {r : R2} {g : G2} {pos' : Pos} (hN : X.N.Nodup) (hi : X.N[i]? = some x) (hx : Loc X.env.scope x) (he : SE W X e fe) (ho : OpR X (inplaceOp op) r) (o : Op2 W r g) (hf : X.fn x = true ∨ X.env.scope.names.lookup x = some .local) :
    SS W X (.AugAssign (.Name x pos') op e pos) (sAug i g fe) := by
  refine ⟨fun w tk σ h m τ H D rl rs p => ?_⟩
  unfold sAug sAug0 at p
  split at p
  · rename_i x0 e0
    obtain ⟨v0, t0, rv0⟩ := rs.get e0
    refine ⟨_, ps_aug (ti := r) hN hi hx (EvT.pe X e) ho hf, v0, t0, ?_⟩
    refine he.run w tk σ h m τ H _ rl rs (PostS.ahead rs p fun y h1 m1 H1 v _ e1 rl1 rv p1 => ?_)
    refine o x0 y h1 m1 H1 v0 v _ (fun c d H' => w c d τ H') rl1 (RV.mono e1 x0 rv0) rv (PostS.ahead (rs.mono e1) p1 fun z h2 m2 H2 zv _ e2 rl2 rz p2 => ?_)
    exact p2 m2 H2 _ (.refl m2 H2) rl2 (RS.set rz i (rs.mono (e1.trans e2)))
  · exact p.elim

/-! ### loops -/
/-- what a loop does with a turn's end -/
def SR.lp (r : SR) (k : Sg → Hb → SR) : SR := match r with
  | .nx s h => k s h
  | .ct s h => k s h
  | .bk s h => .nx s h
  | .rt u h => .rt u h
  | .ex x s h => .ex x s h
  | .bad => .bad
@[simp] theorem lp_nx (s : Sg) (h : Hb) (k : Sg → Hb → SR) : (SR.nx s h).lp k = k s h := rfl
@[simp] theorem lp_ct (s : Sg) (h : Hb) (k : Sg → Hb → SR) : (SR.ct s h).lp k = k s h := rfl
@[simp] theorem lp_bk (s : Sg) (h : Hb) (k : Sg → Hb → SR) : (SR.bk s h).lp k = .nx s h := rfl
@[simp] theorem lp_rt (u : U) (h : Hb) (k : Sg → Hb → SR) : (SR.rt u h).lp k = .rt u h := rfl
@[simp] theorem lp_ex (x : Ex) (s : Sg) (h : Hb) (k : Sg → Hb → SR) : (SR.ex x s h).lp k = .ex x s h := rfl
@[simp] theorem lp_bad (k : Sg → Hb → SR) : (SR.bad).lp k = .bad := rfl
structure Src where
  xs : List U
  ok : Hb → Prop
/-- the iterator J yields what src says -/
structure ItOk (W : Wd) (src : Src) (m : List Addr) (H : Hp) (J : It) : Prop where
  go : ∀ i m1 h1 H1, Ext m H m1 H1 → Rel W m1 h1 H1 → src.ok h1 → i < src.xs.length → J.go i H1
  yld : ∀ i m1 h1 H1 x H', Ext m H m1 H1 → Rel W m1 h1 H1 → src.ok h1 → J.yld i H1 x H' → i < src.xs.length → ∃ u, src.xs[i]? = some u ∧ Rel W m1 h1 H' ∧ Ext m1 H1 m1 H' ∧ RV W.K m1 H' u x
  stop : ∀ m1 h1 H1, Ext m H m1 H1 → Rel W m1 h1 H1 → src.ok h1 → J.stop src.xs.length H1
abbrev Si := Sg → Hb → Res Src
def PostI (W : Wd) (r : Res Src) (m : List Addr) (H : Hp) (R : It → Hp → Prop) (E : Value → Option Addr → Hp → Prop) : Prop := match r with
  | .ok src h' => ∀ m' H' J, Ext m H m' H' → Rel W m' h' H' → ItOk W src m' H' J → R J H'
  | .ex x h' => ∀ m' H' c d, Ext m H m' H' → Rel W m' h' H' → RX W m' H' x c d → E c d H'
  | .bad => False
structure SI (W : Wd) (X : Cx) (tg iter : Expr) (f : Si) : Prop where
  run : ∀ (w : WX), Takes X w → ∀ (σ : Sg) (h : Hb) (m : List Addr) (τ : L2.St) (H : Hp) (R : It → Hp → Prop), Rel W m h H → RS W.K m H σ τ → PostI W (f σ h) m H R (fun c d H' => w c d τ H') → EvI X tg iter τ H R
noncomputable def forL (ok : Hb → Prop) (g : Tg) (b : Sv) : List U → Sv
  | [], s, h => if ok h then .nx s h else .bad
  | x :: xs, s, h => if ok h then ((g x s h).thn b).lp (forL ok g b xs) else .bad
noncomputable def sFork (g : Tg) (b : Sv) (s : Sg) (src : Src) (h : Hb) : SR := forL src.ok g b src.xs s h
noncomputable def sFor (f : Si) (g : Tg) (b : Sv) : Sv := fun s h => (f s h).thn s (sFork g b s)
theorem PostS.turn {r : SR} {k : Sg → Hb → SR} {m : List Addr} {H : Hp} {D : Ends} {w : WX} {N : L2.St → Hp → Prop} (p : PostS W (r.lp k) m H D w)
    (f : ∀ s h1 m1 H1 t, Ext m H m1 H1 → Rel W m1 h1 H1 → RS W.K m1 H1 s t → PostS W (k s h1) m1 H1 D w → N t H1) : PostS W r m H { D with nx := N, ct := N, bk := D.nx } w := by
  cases r with
  | nx s h => exact fun m' H' t e rl rs => f s h m' H' t e rl rs (PostS.later p e)
  | ct s h => exact fun m' H' t e rl rs => f s h m' H' t e rl rs (PostS.later p e)
  | rt u h => exact p
  | bk u h => exact p
  | ex x s h => exact p
  | bad => exact p
theorem ss_for {tg iter : Expr} {body : List Stmt} {fi : Si} {g : Tg} {fb : Sv} (hp : PassesOwn (model X.prog X.w) X.A X.env X.xe) (hc : X.calm = true) (hi : SI W X tg iter fi) (hg : SG W X tg g) (on : OnlyNx g) (hb : SL W X body fb)
    (hs : ∀ x, foldedSetIterable iter X.env x = pure x) : SS W X (.For tg iter body [] pos) (sFor fi g fb) := by
  refine ⟨fun w tk σ h m τ H D rl rs p => ⟨_, ps_for hp hc (EvI.pi X tg iter) (EvG.pg X tg) (EvL.pss X body) hs, ?_⟩⟩
  refine hi.run w tk σ h m τ H _ rl rs ?_
  unfold sFor at p
  cases q : fi σ h with
  | bad => rw [q] at p; exact p.elim
  | ex x h' => rw [q] at p; exact fun m' H' c d e rl' rx => p m' H' c d τ e rl' rx (rs.mono e)
  | ok src h0 =>
    rw [q] at p
    intro m0 H0 J e0 rl0 it
    have p0 : PostS W (forL src.ok g fb src.xs σ h0) m0 H0 D w := PostS.later p e0
    refine ⟨fun i k t H1 => ∃ m1 h1 s1, i ≤ src.xs.length ∧ k = src.xs.length - i ∧ Ext m0 H0 m1 H1 ∧ Rel W m1 h1 H1 ∧ RS W.K m1 H1 s1 t ∧ PostS W (forL src.ok g fb (src.xs.drop i) s1 h1) m1 H1 D w,
      ⟨src.xs.length, m0, h0, σ, Nat.zero_le _, by simp, .refl _ _, rl0, rs.mono e0, by simpa using p0⟩, ?_⟩
    rintro i k t H1 ⟨m1, h1, s1, hi1, rfl, e1, rl1, rs1, p1⟩
    by_cases hlt : i < src.xs.length
    · rw [List.drop_eq_getElem_cons hlt] at p1
      simp only [forL] at p1
      split at p1
      · rename_i hok
        refine .inr ⟨it.go i m1 h1 H1 e1 rl1 hok hlt, fun t' H' => ∃ m2 h2 s2, i + 1 ≤ src.xs.length ∧ Ext m0 H0 m2 H' ∧ Rel W m2 h2 H' ∧ RS W.K m2 H' s2 t' ∧ PostS W (forL src.ok g fb (src.xs.drop (i + 1)) s2 h2) m2 H' D w, fun t' H' ⟨m2, h2, s2, a1, a2, a3, a4, a5⟩ => ⟨src.xs.length - (i + 1), by omega, m2, h2, s2, a1, rfl, a2, a3, a4, a5⟩, fun x H' y => ?_⟩
        obtain ⟨u, hu, rl2, e2, rv2⟩ := it.yld i m1 h1 H1 x H' e1 rl1 hok y hlt
        have hu' : src.xs[i] = u := by rw [List.getElem?_eq_getElem hlt] at hu; exact Option.some.inj hu
        rw [hu'] at p1
        have o := on u s1 h1
        have pp := PostS.turn (N := fun t' H' => ∃ m2 h2 s2, i + 1 ≤ src.xs.length ∧ Ext m0 H0 m2 H' ∧ Rel W m2 h2 H' ∧ RS W.K m2 H' s2 t' ∧ PostS W (forL src.ok g fb (src.xs.drop (i + 1)) s2 h2) m2 H' D w) (PostS.later p1 e2)
          (fun s2 h2 m2 H2 t2 e3 rl3 rs3 p3 => ⟨m2, h2, s2, hlt, e1.trans (e2.trans e3), rl3, rs3, p3⟩)
        have pq := PostS.seq (N := fun t2 H2 => EvL X body { D with nx := fun t' H' => ∃ m2 h2 s2, i + 1 ≤ src.xs.length ∧ Ext m0 H0 m2 H' ∧ Rel W m2 h2 H' ∧ RS W.K m2 H' s2 t' ∧ PostS W (forL src.ok g fb (src.xs.drop (i + 1)) s2 h2) m2 H' D w, ct := fun t' H' => ∃ m2 h2 s2, i + 1 ≤ src.xs.length ∧ Ext m0 H0 m2 H' ∧ Rel W m2 h2 H' ∧ RS W.K m2 H' s2 t' ∧ PostS W (forL src.ok g fb (src.xs.drop (i + 1)) s2 h2) m2 H' D w, bk := D.nx } t2 H2) pp
          (fun s2 h2 m2 H2 t2 _ e3 rl3 rs3 p3 => hb.run w tk s2 h2 m2 t2 H2 _ rl3 rs3 p3)
        exact hg.run w tk u x s1 h1 m1 t H' _ rl2 (rs1.mono e2) rv2 (pq.tgt o.1 o.2.1 o.2.2)
      · exact p1.elim
    · have ei : i = src.xs.length := by omega
      subst ei
      rw [List.drop_length] at p1
      simp only [forL] at p1
      split at p1
      · rename_i hok
        exact .inl ⟨it.stop m1 h1 H1 e1 rl1 hok, p1 m1 H1 t (.refl _ _) rl1 rs1⟩
      · exact p1.elim

/-- while: so many turns -/
def whileN (c : Eb) (b : Sv) : Nat → Sg → Hb → Option SR
  | 0, _, _ => none
  | n + 1, s, h => match c s h with
    | .ok true h1 => match b s h1 with
      | .nx s2 h2 => whileN c b n s2 h2
      | .ct s2 h2 => whileN c b n s2 h2
      | .bk s2 h2 => some (.nx s2 h2)
      | r => some r
    | .ok false h1 => some (.nx s h1)
    | .ex x h1 => some (.ex x s h1)
    | .bad => some .bad
noncomputable def sWhile (c : Eb) (b : Sv) : Sv := fun s h => if hx : ∃ n r, whileN c b n s h = some r then (Classical.choose_spec hx |> fun _ => Classical.choose (Classical.choose_spec hx)) else .bad
theorem sWhile_spec {k : Eb} {b : Sv} {s : Sg} {h : Hb} (hx : sWhile k b s h ≠ .bad) : ∃ n, whileN k b n s h = some (sWhile k b s h) := by
  unfold sWhile at hx ⊢
  split
  · rename_i hy
    exact ⟨Classical.choose hy, Classical.choose_spec (Classical.choose_spec hy)⟩
  · rename_i hy
    rw [dif_neg hy] at hx
    exact absurd rfl hx
theorem whileN_mono {k : Eb} {b : Sv} : ∀ {n : Nat} {s : Sg} {h : Hb} {r : SR}, whileN k b n s h = some r → ∀ d, whileN k b (n + d) s h = some r
  | 0, _, _, _, e, _ => by cases e
  | n + 1, s, h, r, e, d => by
    rw [show n + 1 + d = (n + d) + 1 by omega]
    simp only [whileN] at e ⊢
    split at e
    · split at e
      · exact whileN_mono e d
      · exact whileN_mono e d
      · exact e
      · exact e
    · exact e
    · exact e
    · exact e
theorem sWhile_of {k : Eb} {b : Sv} {n : Nat} {s : Sg} {h : Hb} {r : SR} (e : whileN k b n s h = some r) : sWhile k b s h = r := by
  unfold sWhile
  have hx : ∃ n r, whileN k b n s h = some r := ⟨n, r, e⟩
  rw [dif_pos hx]
  have e2 := Classical.choose_spec (Classical.choose_spec hx)
  have a := whileN_mono e (Classical.choose hx)
  have a2 := whileN_mono e2 n
  rw [Nat.add_comm] at a2
  rw [a] at a2
  exact (Option.some.inj a2).symm
theorem ss_while {body : List Stmt} {k : Eb} {fb : Sv} (hp : PassesOwn (model X.prog X.w) X.A X.env X.xe) (hc : SB W X c k) (hb : SL W X body fb) : SS W X (.While c body [] pos) (sWhile k fb) := by
  refine ⟨fun w tk σ h m τ H D rl rs p => ⟨_, ps_while hp (EvB.pt X c) (EvL.pss X body), ?_⟩⟩
  have nb : sWhile k fb σ h ≠ .bad := fun z => by rw [z] at p; exact p
  obtain ⟨n, en⟩ := sWhile_spec nb
  refine ⟨fun n t H1 => ∃ m1 h1 s1 r, whileN k fb n s1 h1 = some r ∧ Rel W m1 h1 H1 ∧ RS W.K m1 H1 s1 t ∧ PostS W r m1 H1 D w, ⟨n, m, h, σ, _, en, rl, rs, p⟩, ?_⟩
  rintro n t H1 ⟨m1, h1, s1, r, e, rl1, rs1, p1⟩
  cases n with
  | zero => cases e
  | succ n =>
    simp only [whileN] at e
    cases q : k s1 h1 with
    | bad => rw [q] at e; cases e; exact p1.elim
    | ex x h2 => rw [q] at e; cases e; exact hc.run w tk s1 h1 m1 t H1 _ rl1 rs1 (by rw [q]; exact fun m' H' c d e rl' rx => p1 m' H' c d t e rl' rx (rs1.mono e))
    | ok kb h2 =>
      rw [q] at e
      refine hc.run w tk s1 h1 m1 t H1 _ rl1 rs1 ?_
      rw [q]
      intro m2 H2 v e2 rl2 rv
      have rv : v = kb := rv
      subst rv
      cases v with
      | false =>
        rw [if_neg Bool.false_ne_true]
        cases e
        exact p1 m2 H2 t e2 rl2 (rs1.mono e2)
      | true =>
        rw [if_pos rfl]
        refine ⟨fun t' H' => ∃ m3 h3 s3 r, whileN k fb n s3 h3 = some r ∧ Rel W m3 h3 H' ∧ RS W.K m3 H' s3 t' ∧ PostS W r m3 H' D w, fun t' H' z => ⟨n, by omega, z⟩, ?_⟩
        refine hb.run w tk s1 h2 m2 t H2 _ rl2 (rs1.mono e2) ?_
        simp only [] at e
        cases z : fb s1 h2 with
        | nx s3 h3 => rw [z] at e; exact fun m3 H3 t3 e3 rl3 rs3 => ⟨m3, h3, s3, r, e, rl3, rs3, PostS.later p1 (e2.trans e3)⟩
        | ct s3 h3 => rw [z] at e; exact fun m3 H3 t3 e3 rl3 rs3 => ⟨m3, h3, s3, r, e, rl3, rs3, PostS.later p1 (e2.trans e3)⟩
        | bk s3 h3 => rw [z] at e; cases e; exact PostS.later p1 e2
        | rt u h3 => rw [z] at e; cases e; exact PostS.later p1 e2
        | ex x s h3 => rw [z] at e; cases e; exact PostS.later p1 e2
        | bad => rw [z] at e; cases e; exact PostS.later p1 e2
end
end Lz
namespace HT
open PySem PySem.Spec PyProof.Rows L2
section
variable {prog : Program} {w : World} {A : Around} {E : Value → Shared → Prop} {s : Shared}
theorem adjust_rev (n : Nat) : Builtin.Slice.sliceAdjust none none (-1) (n : Int) = ((n : Int) - 1, -1) := by
  have h1 : ((-1 : Int) < 0) := by omega
  unfold Builtin.Slice.sliceAdjust
  simp only [h1, if_true]
theorem places_rev (n : Nat) : Builtin.Slice.slicePlaces ((n : Int) - 1) (-1) (-1) = n := by
  unfold Builtin.Slice.slicePlaces
  have h1 : ¬ ((-1 : Int) > 0) := by omega
  simp only [h1, if_false]
  rw [show (- -1 : Int) = 1 by decide, Int.ediv_one]
  split <;> omega
theorem sliceApplied_rev {sl : Addr} {vs : Value} {n : Nat} {Q : Int × Int × Nat → Shared → Prop} (hs : s.heap.IsSliceOf sl .none .none vs) (ps : IsPart vs (some (-1)))
    (h : Q ((n : Int) - 1, -1, n) s) : wpAny (model prog w) A (Builtin.Slice.sliceApplied (.ref sl) (pure (n : Int))) Q E s := by
  obtain ⟨os, hos, hcs, hds⟩ := id hs
  unfold Builtin.Slice.sliceApplied Builtin.Slice.sliceFields
  refine wpAny_bind (wpAny_bind (wpAny_field hos hds (x := .none) rfl (wpAny_bind (wpAny_field hos hds (x := .none) rfl (wpAny_bind (wpAny_field hos hds (x := vs) rfl (wpAny_pure ?_)))))))
  refine wpAny_bind (slicePart_ ps ?_)
  show wpAny _ _ (if ((-1 : Int) == 0) = true then _ else _) _ _ s
  rw [if_neg (by decide)]
  refine wpAny_bind (slicePart_ .none (wpAny_bind (slicePart_ .none (wpAny_bind (wpAny_pure ?_)))))
  show wpAny _ _ (match Builtin.Slice.sliceAdjust none none (-1) (n : Int) with | (lo, hi) => pure (lo, (-1 : Int), Builtin.Slice.slicePlaces lo hi (-1))) _ _ s
  rw [adjust_rev n]
  show wpAny _ _ (pure ((n : Int) - 1, (-1 : Int), Builtin.Slice.slicePlaces ((n : Int) - 1) (-1) (-1))) _ _ s
  rw [places_rev]
  exact wpAny_pure h
theorem fm_congr {α β : Type} {f g : α → Option β} : ∀ {l : List α}, (∀ x ∈ l, f x = g x) → l.filterMap f = l.filterMap g
  | [], _ => rfl
  | x :: l, h => by
    have h1 := h x (by simp)
    have h2 := fm_congr (l := l) fun y hy => h y (by simp [hy])
    rw [List.filterMap_cons, List.filterMap_cons, h1, h2]
theorem pick_rev (xs : Array Value) : ((List.range xs.size).filterMap fun (m : Nat) => xs[((xs.size : Int) - 1 + (m : Int) * (-1)).toNat]?).toArray = xs.toList.reverse.toArray := by
  have e : (List.range xs.size).filterMap (fun (m : Nat) => xs[((xs.size : Int) - 1 + (m : Int) * (-1)).toNat]?) = ((List.range xs.size).map fun k => xs.size - 1 - k).filterMap fun k => xs[k]? := by
    rw [List.filterMap_map]
    apply fm_congr
    intro m hm
    have := List.mem_range.mp hm
    have e1 : ((xs.size : Int) - 1 + (m : Int) * (-1)).toNat = xs.size - 1 - m := by omega
    simp only [Function.comp, e1]
  rw [e, PySem.W.krv_range, List.filterMap_reverse, PySem.W.krv_all]
theorem getItem_tuple_rev {t sl : Addr} {items : Array Value} {vs : Value} {Q : Value → Shared → Prop} (ht : IsTup s.heap t items) (hs : s.heap.IsSliceOf sl .none .none vs) (ps : IsPart vs (some (-1)))
    (h : Q (.ref s.heap.objs.size) { s with heap := s.heap.push { cls := .type "tuple", data := .seq items.toList.reverse.toArray } })
    (hsz : items.size ≤ sizeLine) : wpAny (model prog w) A (getItem (.ref t) (.ref sl)) Q E s := by
  have htake : sizeOk (.seq items.toList.reverse.toArray) := by
    show items.toList.reverse.toArray.size ≤ sizeLine
    rw [List.size_toArray, List.length_reverse, Array.length_toList]
    exact hsz
  obtain ⟨os, hos, hcs, hds⟩ := id hs
  have hTs : s.TypeIs (.ref sl) "slice" := ⟨os, hos, hcs⟩
  unfold getItem
  try with_reducible refine wpAny_holding ?_
  first | refine wpAny_bind (wpAny_pure ?_) | skip
  refine wpAny_bind (wpAny_sequenceKey ht.typeIs (by decide) ?_)
  refine wpAny_bind (wpAny_callSpecial?_slot (name := Str.ofString "__getitem__") ht.typeIs PyProof.Rows.slot_tuple_getitem
    (wpAny_call_entry PyProof.Rows.slot_tuple_getitem ht.typeIs entry_tuple_getitem ?_ (args_tuple_getitem _ _)))
  show wpAny _ _ (Builtin.Tuple.tupleItemsOf (.ref t) >>= _) _ _ s
  refine wpAny_bind (tupleItemsOf_ ht ?_)
  refine wpAny_bind (wpAny_typeOf hTs ?_)
  rw [if_pos (by decide)]
  refine wpAny_bind (sliceApplied_rev hs ps ?_)
  have hno : ¬ ((((items.size : Int) - 1) == 0 && (-1 : Int) == 1 && items.size == items.size) = true) := by
    simp
  show wpAny _ _ (if (((items.size : Int) - 1) == 0 && (-1 : Int) == 1 && items.size == items.size) = true then _ else _) _ _ s
  rw [if_neg hno, pick_rev]
  first
    | exact wpAny_bind (m := Builtin.Tuple.tupleExact _) (wpAny_newObj_type (wpAny_pure ⟨_, rfl, wpAny_pure h⟩) htake)
    | exact wpAny_bind (m := Builtin.Tuple.tupleExact _) (wpAny_newObj_type (wpAny_bind (wpAny_pure (wpAny_pure ⟨_, rfl, wpAny_pure h⟩))) htake)
    | exact wpAny_bind (wpAny_bind (m := Builtin.Tuple.tupleExact _) (wpAny_newObj_type (wpAny_pure (wpAny_pure ⟨_, rfl, wpAny_pure h⟩)) htake))
    | exact wpAny_bind (wpAny_bind (m := Builtin.Tuple.tupleExact _) (wpAny_newObj_type (wpAny_pure ⟨_, rfl, wpAny_pure h⟩) htake))
end
end HT
namespace L2
open PySem PySem.Spec PyProof.Rows
/-! ### xs[::-1] of a tuple or a list -/
def qRevA (K : PySem.W.Frag) (x : V) (H1 : Hp) (Q : VK) : Prop := (∃ a xs, x = .ref a ∧ SqL K H1 a xs ∧ ∀ p, H1 p = none → Q (.ref p) (upd H1 p (.lst xs.reverse))) ∨ (∃ a xs, x = .ref a ∧ SqT K H1 a xs ∧ ∀ p, H1 p = none → Q (.ref p) (upd H1 p (.tup xs.reverse)))
def tRevA (K : PySem.W.Frag) (te : TE) : TE := fun σ H Q => te σ H fun x H1 => qRevA K x H1 Q
variable {X : Cx}
theorem pe_revA {e : Expr} {te : TE} {k : Nat} {p1 p2 p3 pos : Pos} (he : PE X e te) : PE X (.Subscript e (.Slice none none (some (.UnaryOp .USub (.Constant (.int 1) k p1) p2)) p3) pos) (tRevA X.K te) := by
  refine ⟨fun pins s σ H Q I h => ?_⟩
  refine Subscript_ (thn (he.run pins s σ H _ I h) fun v s1 ⟨x, H1, I1, r1, q1⟩ => ?_)
  have hst : PO X (some (.UnaryOp .USub (.Constant (.int 1) k p1) p2)) (tPart (tUn (rU fun i => .int (-i)) (tC (.int 1)))) := po_some (pe_un un_neg pe_int)
  refine wpAny_Slice (thn (po_none.run pins s1 σ H1 (fun o H2 => o = none ∧ H2 = H1) I1 ⟨rfl, rfl⟩) fun vl s2 ⟨l, H2, I2, pl, el, e2⟩ => ?_)
  subst el e2
  refine thn (po_none.run pins s2 σ H2 (fun o H3 => o = none ∧ H3 = H2) I2 ⟨rfl, rfl⟩) fun vu s3 ⟨u, H3, I3, pu, eu, e3⟩ => ?_
  subst eu e3
  refine thn (hst.run pins s3 σ H3 (fun o H4 => o = some (-1) ∧ H4 = H3) I3 ⟨1, rfl, -1, rfl, rfl, rfl⟩) fun vs s4 ⟨o, H4, I4, ps, eo, e4⟩ => ?_
  subst eo e4
  have I5 : Inv X pins σ H4 { s4 with heap := s4.heap.push { cls := .type "slice", data := .fields #[vl, vu, vs] } } := I4.kept (t' := s4.toks) fun b ob q => Heap.get?_push_of_some _ q
  rcases q1 with ⟨a, xs, ex, hx, q⟩ | ⟨a, xs, ex, hx, q⟩
  · subst ex
    cases r1
    obtain ⟨its, r, ht, hz⟩ := I5.list hx
    have hlen := r.length
    show wpAny (model X.prog X.w) X.A (subscriptTail e (.Slice none none (some (.UnaryOp .USub (.Constant (.int 1) k p1) p2)) p3) (.ref a) (.ref s4.heap.objs.size)) (EP X pins σ Q) X.xe { s4 with heap := s4.heap.push { cls := .type "slice", data := .fields #[vl, vu, vs] } }
    refine tail_any (ops := [.ref a, .ref s4.heap.objs.size]) ht.isList.typeIs (PySem.slot_list_getitem.lookup) ?_ (by with_unfolding_all rfl)
    refine wpAny_getItem_list_slice ht.isList (Heap.IsSliceOf.new _ vl vu vs) pl pu ps (by decide) ?_ (by rw [List.size_toArray]; omega)
    rw [PySem.W.krv_pick]
    refine ⟨.ref _, _, I5.laid (t' := s4.toks) (o := .lst xs.reverse) (fun b ob q => Heap.get?_push_of_some _ q) (Nat.le_refl _) ?_, rfl, q _ (I5.hok.fresh (Nat.le_refl _))⟩
    exact ⟨by rw [List.length_reverse]; exact hz, _, 0, r.reverse, Heap.get?_push_size _ rfl⟩
  · subst ex
    cases r1
    cases pl
    cases pu
    obtain ⟨its, r, ht, hz⟩ := I5.tuple hx
    have hlen := r.length
    show wpAny (model X.prog X.w) X.A (subscriptTail e (.Slice none none (some (.UnaryOp .USub (.Constant (.int 1) k p1) p2)) p3) (.ref a) (.ref s4.heap.objs.size)) (EP X pins σ Q) X.xe { s4 with heap := s4.heap.push { cls := .type "slice", data := .fields #[.none, .none, vs] } }
    refine tail_any (ops := [.ref a, .ref s4.heap.objs.size]) ht.typeIs (PyProof.Rows.slot_tuple_getitem.lookup) ?_ (by with_unfolding_all rfl)
    refine HT.getItem_tuple_rev ht (Heap.IsSliceOf.new _ .none .none vs) ps ?_ (by rw [List.size_toArray]; omega)
    refine ⟨.ref _, _, I5.laid (t' := s4.toks) (o := .tup xs.reverse) (fun b ob q => Heap.get?_push_of_some _ q) (Nat.le_refl _) ?_, rfl, q _ (I5.hok.fresh (Nat.le_refl _))⟩
    exact ⟨by rw [List.length_reverse]; exact hz, _, r.reverse, IsTup.new _ _⟩
end L2
namespace Lz
open PySem PySem.Spec PyProof.Rows L2
open Classical

section
variable {W : Wd} {m : List Addr} {h : Hb} {H : Hp}
theorem RV.int_inv {i : Int} {v : V} (r : RV W.K m H (.int i) v) : v = .int i := by unfold RV at r; exact r
theorem RV.bl_inv {i : Bool} {v : V} (r : RV W.K m H (.bl i) v) : v = .bl i := by unfold RV at r; exact r
theorem RV.str_inv {i : Str} {v : V} (r : RV W.K m H (.str i) v) : v = .str i := by unfold RV at r; exact r
theorem RV.non_inv {v : V} (r : RV W.K m H .non v) : v = .non := by unfold RV at r; exact r
theorem RV.tup_inv {us : List U} {v : V} (r : RV W.K m H (.tup us) v) : ∃ a vs, v = .ref a ∧ TupAt W.K H a vs ∧ RVs W.K m H us vs := by unfold RV at r; exact r
theorem RV.ref_inv {i : Nat} {v : V} (r : RV W.K m H (.ref i) v) : ∃ a, v = .ref a ∧ m[i]? = some a := by unfold RV at r; exact r
theorem RV.mk_int (i : Int) : RV W.K m H (.int i) (.int i) := by unfold RV; rfl
theorem RV.mk_bl (i : Bool) : RV W.K m H (.bl i) (.bl i) := by unfold RV; rfl
theorem RV.mk_str (i : Str) : RV W.K m H (.str i) (.str i) := by unfold RV; rfl
theorem RV.mk_non : RV W.K m H .non .non := by unfold RV; rfl
theorem RV.mk_tup {us : List U} {a : Addr} {vs : List V} (t : TupAt W.K H a vs) (r : RVs W.K m H us vs) : RV W.K m H (.tup us) (.ref a) := by unfold RV; exact ⟨a, vs, rfl, t, r⟩
theorem Rel.lst (rl : Rel W m h H) {i : Nat} {us : List U} {v : V} (r : RV W.K m H (.ref i) v) (e : h[i]? = some (.lst us)) : ∃ a vs, v = .ref a ∧ m[i]? = some a ∧ H a = some (.lst vs) ∧ RVs W.K m H us vs := by
  obtain ⟨a, rfl, hm⟩ := r.ref_inv
  obtain ⟨vs, h1, h2⟩ := rl.at_ i _ a e hm
  exact ⟨a, vs, rfl, hm, h1, h2⟩

/-- the items of a list or a tuple -/
def seqU (h : Hb) : U → Option (List U)
  | .tup xs => some xs
  | .ref a => match h[a]? with
    | some (.lst xs) => some xs
    | some (.fro xs) => some xs
    | _ => none
  | _ => none
theorem Rel.seq (rl : Rel W m h H) {x : U} {us : List U} {v : V} (r : RV W.K m H x v) (e : seqU h x = some us) : ∃ a vs, v = .ref a ∧ (SqL W.K H a vs ∨ SqT W.K H a vs) ∧ RVs W.K m H us vs := by
  cases x with
  | tup xs =>
    simp [seqU] at e; subst e
    obtain ⟨a, vs, rfl, t, rr⟩ := r.tup_inv
    exact ⟨a, vs, rfl, .inr t.sq, rr⟩
  | ref i =>
    obtain ⟨a, rfl, hm⟩ := r.ref_inv
    simp only [seqU] at e
    cases q : h[i]? with
    | none => rw [q] at e; cases e
    | some o =>
      rw [q] at e
      cases o with
      | lst xs =>
        cases e
        obtain ⟨vs, sq, rr⟩ := (rl.at_ i _ a q hm).sql
        exact ⟨a, vs, rfl, .inl sq, rr⟩
      | fro xs =>
        cases e
        obtain ⟨vs, sq, rr⟩ := (rl.at_ i _ a q hm).sqf
        exact ⟨a, vs, rfl, .inl sq, rr⟩
      | ins c fs => cases e
  | _ => cases e
/-- a new tuple is answered -/
theorem new_tup {us : List U} {vs : List V} {Q : VK} {E : Value → Option Addr → Hp → Prop} (rl : Rel W m h H) (rv : RVs W.K m H us vs)
    (p : Post W (RV W.K) (.ok (.tup us) h) m H Q E) : ∀ q, H q = none → Q (.ref q) (upd H q (.tup vs)) := fun q hq => by
  obtain ⟨rl2, e2⟩ := rl.junk (o := .tup vs) hq
  exact p _ _ (.ref q) e2 rl2 (.mk_tup (.inl upd_same) (RVs.mono e2 us rv))
/-- a list is written -/
theorem put_lst {i : Nat} {us ws : List U} {xs : List V} {a : Addr} {u : U} {v : V} {Q : VK} {E : Value → Option Addr → Hp → Prop} (rl : Rel W m h H) (e : h[i]? = some (.lst us)) (hm : m[i]? = some a) (rw' : RVs W.K m H ws xs) (ru : RV W.K m H u v)
    (p : Post W (RV W.K) (.ok u (h.set i (.lst ws))) m H Q E) : Q v (upd H a (.lst xs)) := by
  obtain ⟨rl2, e2⟩ := rl.write (q := .lst xs) e (by intro _ z; cases z) (o' := .lst ws) (by intro _ z; cases z) hm (fun m1 H1 e h1 => ⟨xs, h1, RVs.mono e ws rw'⟩)
  exact p _ _ v e2 rl2 (RV.mono e2 u ru)
end

/-! ### numbers -/
def oI2 (c : Int → Int → Prop) [∀ i j, Decidable (c i j)] (f : Int → Int → Int) : G2 := fun x y h => match x, y with
  | .int i, .int j => if c i j then .ok (.int (f i j)) h else .bad
  | _, _ => .bad
theorem op_oI2 {W : Wd} {C : Int → Int → Prop} {c : Int → Int → Prop} [∀ i j, Decidable (c i j)] {g : Int → Int → V} {f : Int → Int → Int} (hc : ∀ i j, c i j → C i j ∧ g i j = .int (f i j)) : Op2 W (rI C g) (oI2 c f) := by
  intro x y h m H v u Q E rl rx ry p
  cases x with
  | int i =>
    cases y with
    | int j =>
      simp only [oI2] at p
      split at p
      · rename_i hh
        obtain ⟨h1, h2⟩ := hc i j hh
        exact ⟨i, j, rx.int_inv, ry.int_inv, h1, by rw [h2]; exact p.ok rl (.mk_int _)⟩
      · exact p.elim
    | _ => exact p.elim
  | _ => exact p.elim

def cMul (i j : Int) : Prop := (-18446744073709551616 < i ∧ i < 18446744073709551616) ∨ (-18446744073709551616 < j ∧ j < 18446744073709551616) ∨ i.natAbs.log2 + j.natAbs.log2 < 1000000
def cDiv (_ j : Int) : Prop := (j ≠ 0 ∧ -1073741824 < j ∧ j < 1073741824) ∨ (0 < j ∧ j.natAbs.log2 < 9000)
instance (i j : Int) : Decidable (cMul i j) := by unfold cMul; infer_instance
instance (i j : Int) : Decidable (cDiv i j) := by unfold cDiv; infer_instance
@[simp] theorem cMul_r {i j : Int} (h1 : -18446744073709551616 < j) (h2 : j < 18446744073709551616) : cMul i j := .inr (.inl ⟨h1, h2⟩)
@[simp] theorem cMul_l {i j : Int} (h1 : -18446744073709551616 < i) (h2 : i < 18446744073709551616) : cMul i j := .inl ⟨h1, h2⟩
@[simp] theorem cDiv_r {i j : Int} (h0 : j ≠ 0) (h1 : -1073741824 < j) (h2 : j < 1073741824) : cDiv i j := .inl ⟨h0, h1, h2⟩
abbrev cMod (_ j : Int) : Prop := j ≠ 0
abbrev cPow (i j : Int) : Prop := 0 ≤ j ∧ j ≤ 1000000 ∧ i.natAbs < 18446744073709551616

/-- + -/
def vAdd : G2 := fun x y h => match x, y with
  | .int i, .int j => .ok (.int (i + j)) h
  | .str a, .str b => if a.length + b.length ≤ sizeLine then .ok (.str (a ++ b)) h else .bad
  | .tup a, .tup b => if a.length + b.length ≤ sizeLine then .ok (.tup (a ++ b)) h else .bad
  | .ref a, .ref b => match h[a]?, h[b]? with
    | some (.lst xs), some (.lst ys) => if xs.length + ys.length ≤ sizeLine then .ok (.ref h.length) (h ++ [.lst (xs ++ ys)]) else .bad
    | _, _ => .bad
  | _, _ => .bad
@[simp] theorem vAdd_int (i j : Int) (h : Hb) : vAdd (.int i) (.int j) h = .ok (.int (i + j)) h := rfl
@[simp] theorem vAdd_str (a b : Str) (h : Hb) : vAdd (.str a) (.str b) h = if a.length + b.length ≤ sizeLine then .ok (.str (a ++ b)) h else .bad := rfl
@[simp] theorem vAdd_tup (a b : List U) (h : Hb) : vAdd (.tup a) (.tup b) h = if a.length + b.length ≤ sizeLine then .ok (.tup (a ++ b)) h else .bad := rfl
def rAddA (K : PySem.W.Frag) : R2 := fun x y H Q => ((rI0 (fun i j => .int (i + j)) x y H Q ∨ (∃ i j, x = .str i ∧ y = .str j ∧ i.length + j.length ≤ sizeLine ∧ Q (.str (i ++ j)) H)) ∨ rCatA K x y H Q) ∨ rCat x y H Q
theorem op_addA {X : Cx} : OpR X (binaryOp .Add) (rAddA X.K) := (((op_add.or op_add_str).or op_catA).or op_cat)
theorem o_add {W : Wd} : Op2 W (rAddA W.K) vAdd := by
  intro x y h m H v u Q E rl rx ry p
  cases x with
  | int i =>
    cases y with
    | int j => exact .inl (.inl (.inl ⟨i, j, rx.int_inv, ry.int_inv, p.ok rl (.mk_int _)⟩))
    | _ => exact p.elim
  | str i =>
    cases y with
    | str j =>
      simp only [vAdd_str] at p
      split at p
      · rename_i hh
        exact .inl (.inl (.inr ⟨i, j, rx.str_inv, ry.str_inv, hh, p.ok rl (.mk_str _)⟩))
      · exact p.elim
    | _ => exact p.elim
  | tup a =>
    cases y with
    | tup b =>
      simp only [vAdd_tup] at p
      split at p
      · rename_i hh
        obtain ⟨pa, va, rfl, ta, ra⟩ := rx.tup_inv
        obtain ⟨pb, vb, rfl, tb, rb⟩ := ry.tup_inv
        refine .inl (.inr ⟨pa, pb, va, vb, rfl, rfl, ta.sq, tb.sq, by rw [← ra.length, ← rb.length]; exact hh, fun z => ?_, fun _ z => ?_, fun _ _ => new_tup rl (ra.append rb) p⟩)
        · subst z
          have : a = [] := by cases a with | nil => rfl | cons _ _ => exact absurd ra.length (by simp)
          subst this
          exact p.ok rl ry
        · subst z
          have : b = [] := by cases b with | nil => rfl | cons _ _ => exact absurd rb.length (by simp)
          subst this
          rw [List.append_nil] at p
          exact p.ok rl rx
      · exact p.elim
    | _ => exact p.elim
  | ref i =>
    cases y with
    | ref j =>
      simp only [vAdd] at p
      split at p
      · rename_i xs ys e1 e2
        split at p
        · rename_i hh
          obtain ⟨pa, va, rfl, ma, ha, ra⟩ := rl.lst rx e1
          obtain ⟨pb, vb, rfl, mb, hb, rb⟩ := rl.lst ry e2
          exact .inr ⟨pa, pb, va, vb, rfl, rfl, ha, hb, by rw [← ra.length, ← rb.length]; exact hh, new_lst rl (ra.append rb) p⟩
        · exact p.elim
      · exact p.elim
    | _ => exact p.elim
  | _ => exact p.elim

def vSub : G2 := oI2 (fun _ _ => True) (fun i j => i - j)
@[simp] theorem vSub_int (i j : Int) (h : Hb) : vSub (.int i) (.int j) h = .ok (.int (i - j)) h := by simp [vSub, oI2]
theorem op_subA {X : Cx} : OpR X (binaryOp .Sub) (rI (fun _ _ => True) fun i j => .int (i - j)) := opI fun _ _ _ _ _ _ _ _ q => sub_int q
theorem o_sub {W : Wd} : Op2 W (rI (fun _ _ => True) fun i j => .int (i - j)) vSub := op_oI2 fun i j _ => ⟨trivial, rfl⟩

/-- * -/
def vMul : G2 := fun x y h => match x, y with
  | .int i, .int j => if cMul i j then .ok (.int (i * j)) h else .bad
  | .ref a, .int k => match h[a]? with
    | some (.lst xs) => if -9223372036854775808 ≤ k ∧ k < 9223372036854775808 ∧ xs.length * k.toNat ≤ sizeLine then .ok (.ref h.length) (h ++ [.lst (List.replicate k.toNat xs).flatten]) else .bad
    | _ => .bad
  | _, _ => .bad
@[simp] theorem vMul_of {i j : Int} {h : Hb} (e : cMul i j) : vMul (.int i) (.int j) h = .ok (.int (i * j)) h := if_pos e
theorem vMul_int (i j : Int) (h : Hb) : vMul (.int i) (.int j) h = if cMul i j then .ok (.int (i * j)) h else .bad := rfl
def rMulA : R2 := fun x y H Q => (rI CMul (fun i j => .int (i * j)) x y H Q ∨ rI CMulW (fun i j => .int (i * j)) x y H Q) ∨ rRep x y H Q
theorem op_mulA {X : Cx} : OpR X (binaryOp .Mult) rMulA := ((op_mul.or op_mulW).or op_rep)
theorem RVs.rep {K : PySem.W.Frag} {m : List Addr} {H : Hp} {us : List U} {vs : List V} (r : RVs K m H us vs) : ∀ k : Nat, RVs K m H (List.replicate k us).flatten (List.replicate k vs).flatten
  | 0 => .nil
  | k + 1 => by
    rw [List.replicate_succ, List.replicate_succ, List.flatten_cons, List.flatten_cons]
    exact r.append (RVs.rep r k)
theorem o_mul {W : Wd} : Op2 W rMulA vMul := by
  intro x y h m H v u Q E rl rx ry p
  cases x with
  | int i =>
    cases y with
    | int j =>
      simp only [vMul_int] at p
      split at p
      · rename_i hh
        have q := p.ok rl (RV.mk_int (i * j))
        rcases hh with hh | hh | hh
        · exact .inl (.inl ⟨i, j, rx.int_inv, ry.int_inv, .inl (by omega), q⟩)
        · exact .inl (.inl ⟨i, j, rx.int_inv, ry.int_inv, .inr (by omega), q⟩)
        · exact .inl (.inr ⟨i, j, rx.int_inv, ry.int_inv, hh, q⟩)
      · exact p.elim
    | _ => exact p.elim
  | ref i =>
    cases y with
    | int k =>
      simp only [vMul] at p
      split at p
      · rename_i xs e1
        split at p
        · rename_i hh
          obtain ⟨pa, va, rfl, ma, ha, ra⟩ := rl.lst rx e1
          exact .inr ⟨pa, k, va, rfl, ry.int_inv, ha, by omega, by omega, by rw [← ra.length]; exact hh.2.2, new_lst rl (ra.rep k.toNat) p⟩
        · exact p.elim
      · exact p.elim
    | _ => exact p.elim
  | _ => exact p.elim

def vDiv : G2 := oI2 cDiv (fun i j => i.fdiv j)
@[simp] theorem vDiv_of {i j : Int} {h : Hb} (e : cDiv i j) : vDiv (.int i) (.int j) h = .ok (.int (i.fdiv j)) h := if_pos e
theorem vDiv_int (i j : Int) (h : Hb) : vDiv (.int i) (.int j) h = if cDiv i j then .ok (.int (i.fdiv j)) h else .bad := rfl
def rDivA : R2 := fun x y H Q => rI CDivN (fun i j => .int (i.fdiv j)) x y H Q ∨ rI CDivW (fun i j => .int (i / j)) x y H Q
theorem op_divA {X : Cx} : OpR X (binaryOp .FloorDiv) rDivA := op_fdivN.or op_fdivW
theorem o_div {W : Wd} : Op2 W rDivA vDiv := by
  intro x y h m H v u Q E rl rx ry p
  cases x with
  | int i =>
    cases y with
    | int j =>
      simp only [vDiv_int] at p
      split at p
      · rename_i hh
        have q := p.ok rl (RV.mk_int (i.fdiv j))
        rcases hh with hh | hh
        · exact .inl ⟨i, j, rx.int_inv, ry.int_inv, ⟨hh.1, by omega⟩, q⟩
        · exact .inr ⟨i, j, rx.int_inv, ry.int_inv, hh, by show Q (V.int (i / j)) H; rw [← Int.fdiv_eq_ediv_of_nonneg i (by omega)]; exact q⟩
      · exact p.elim
    | _ => exact p.elim
  | _ => exact p.elim
def vMod : G2 := oI2 cMod (fun i j => i.fmod j)
@[simp] theorem vMod_of {i j : Int} {h : Hb} (e : j ≠ 0) : vMod (.int i) (.int j) h = .ok (.int (i.fmod j)) h := if_pos e
theorem vMod_int (i j : Int) (h : Hb) : vMod (.int i) (.int j) h = if j ≠ 0 then .ok (.int (i.fmod j)) h else .bad := rfl
theorem o_mod {W : Wd} : Op2 W (rI (fun _ j => j ≠ 0) fun i j => .int (i.fmod j)) vMod := op_oI2 fun i j hh => ⟨hh, rfl⟩
def vPow : G2 := oI2 cPow (fun i j => i ^ j.toNat)
@[simp] theorem vPow_int (i j : Int) (h : Hb) : vPow (.int i) (.int j) h = if 0 ≤ j ∧ j ≤ 1000000 ∧ i.natAbs < 18446744073709551616 then .ok (.int (i ^ j.toNat)) h else .bad := rfl
theorem o_pow {W : Wd} : Op2 W (rI CPow fun i j => .int (i ^ j.toNat)) vPow := op_oI2 fun i j hh => ⟨hh, rfl⟩
def vNeg : G1 := fun x h => match x with | .int i => .ok (.int (-i)) h | _ => .bad
@[simp] theorem vNeg_int (i : Int) (h : Hb) : vNeg (.int i) h = .ok (.int (-i)) h := rfl
theorem o_neg {W : Wd} : Op1 W (rU fun i => .int (-i)) vNeg := by
  intro x h m H v Q E rl rx p
  cases x with
  | int i => exact ⟨i, rx.int_inv, p.ok rl (.mk_int _)⟩
  | _ => exact p.elim

/-! ### comparisons -/
def vCmp (c : Int → Int → Bool) : G2 := fun x y h => match x, y with
  | .int i, .int j => .ok (.bl (c i j)) h
  | _, _ => .bad
@[simp] theorem vCmp_int (c : Int → Int → Bool) (i j : Int) (h : Hb) : vCmp c (.int i) (.int j) h = .ok (.bl (c i j)) h := rfl
theorem o_cmp {W : Wd} {c : Int → Int → Bool} : Op2 W (rI0 fun i j => .bl (c i j)) (vCmp c) := by
  intro x y h m H v u Q E rl rx ry p
  cases x with
  | int i =>
    cases y with
    | int j => exact ⟨i, j, rx.int_inv, ry.int_inv, p.ok rl (.mk_bl _)⟩
    | _ => exact p.elim
  | _ => exact p.elim
abbrev vLt : G2 := vCmp fun i j => decide (i < j)
abbrev vLe : G2 := vCmp fun i j => decide (i ≤ j)
abbrev vGt : G2 := vCmp fun i j => decide (j < i)
abbrev vGe : G2 := vCmp fun i j => decide (j ≤ i)

/-! data -/
def mapO {α β : Type} (f : α → Option β) : List α → Option (List β)
  | [] => some []
  | x :: xs => match f x, mapO f xs with
    | some y, some ys => some (y :: ys)
    | _, _ => none
def toD (h : Hb) : Nat → U → Option PyData
  | _, .non => some .none
  | _, .bl b => some (.bool b)
  | _, .int i => some (.int i)
  | _, .str x => some (.str x)
  | n + 1, .tup xs => (mapO (toD h n) xs).map .tuple
  | n + 1, .ref a => match h[a]? with
    | some (.lst xs) => (mapO (toD h n) xs).map .list
    | some (.fro xs) => (mapO (toD h n) xs).map .list
    | _ => none
  | 0, _ => none
theorem dp_all {W : Wd} {m : List Addr} {h : Hb} {H : Hp} {f : U → Option PyData} (hf : ∀ u v d, RV W.K m H u v → f u = some d → Dp W.K H v d) : ∀ {us : List U} {vs : List V} {ds : List PyData}, RVs W.K m H us vs → mapO f us = some ds → DpAll W.K H vs ds
  | [], _, _, r, e => by cases e; rw [r.inv_nil]; exact .nil
  | u :: us, _, ds, r, e => by
    obtain ⟨v, q, rfl, a, b⟩ := r.inv_cons
    simp only [mapO] at e
    split at e
    · rename_i y ys e1 e2
      cases e
      exact .cons (hf _ _ _ a e1) (dp_all (h := h) hf b e2)
    · cases e
theorem toD_dp {W : Wd} {m : List Addr} {h : Hb} {H : Hp} (rl : Rel W m h H) : ∀ (n : Nat) (u : U) (v : V) (d : PyData), RV W.K m H u v → toD h n u = some d → Dp W.K H v d
  | _, .non, v, d, r, e => by unfold toD at e; cases e; rw [r.non_inv]; exact .non
  | _, .bl b, v, d, r, e => by unfold toD at e; cases e; rw [r.bl_inv]; exact .bl b
  | _, .int i, v, d, r, e => by unfold toD at e; cases e; rw [r.int_inv]; exact .int i
  | _, .str x, v, d, r, e => by unfold toD at e; cases e; rw [r.str_inv]; exact .str x
  | n + 1, .tup xs, v, d, r, e => by
    unfold toD at e
    obtain ⟨a, vs, rfl, t, rr⟩ := r.tup_inv
    cases q : mapO (toD h n) xs with
    | none => rw [q] at e; cases e
    | some ds => rw [q] at e; cases e; exact .tup t.sq (dp_all (h := h) (toD_dp rl n) rr q)
  | n + 1, .ref i, v, d, r, e => by
    unfold toD at e
    obtain ⟨a, rfl, hm⟩ := r.ref_inv
    split at e
    · rename_i xs q0
      obtain ⟨vs, sq, rr⟩ := (rl.at_ i _ a q0 hm).sql
      cases q : mapO (toD h n) xs with
      | none => rw [q] at e; cases e
      | some ds => rw [q] at e; cases e; exact .lst sq (dp_all (h := h) (toD_dp rl n) rr q)
    · rename_i xs q0
      obtain ⟨vs, sq, rr⟩ := (rl.at_ i _ a q0 hm).sqf
      cases q : mapO (toD h n) xs with
      | none => rw [q] at e; cases e
      | some ds => rw [q] at e; cases e; exact .lst sq (dp_all (h := h) (toD_dp rl n) rr q)
    · cases e
  | 0, .tup _, _, _, _, e => by unfold toD at e; cases e
  | 0, .ref _, _, _, _, e => by unfold toD at e; cases e
/-- == -/
def eqU (h : Hb) : U → U → Option Bool
  | .int i, .int j => some (decide (i = j))
  | .bl i, .bl j => some (decide (i = j))
  | .str i, .str j => some (decide (i = j))
  | .non, .non => some true
  | .non, .int _ => some false
  | .int _, .non => some false
  | .non, .str _ => some false
  | .str _, .non => some false
  | .non, .bl _ => some false
  | .bl _, .non => some false
  | .int _, .str _ => some false
  | .str _, .int _ => some false
  | x, y => match toD h 60 x, toD h 60 y with
    | some d, some e => if SeqAt.shaped d = true ∧ SeqAt.shaped e = true then some (PyData.eqv d e) else none
    | _, _ => none
def rEqA (K : PySem.W.Frag) : R2 := fun x y H Q => rEq x y H Q ∨ rEqD K x y H Q
def rNeA (K : PySem.W.Frag) : R2 := fun x y H Q => rNe x y H Q ∨ rNeD K x y H Q
theorem op_eqA {X : Cx} (hu : X.A.units + 64 < cLine) : OpR X (compareOp .Eq) (rEqA X.K) := op_eq.or (op_eqD hu)
theorem op_neA {X : Cx} (hu : X.A.units + 64 < cLine) : OpR X (compareOp .NotEq) (rNeA X.K) := op_ne.or (op_neD hu)
theorem eqU_rel {W : Wd} {m : List Addr} {h : Hb} {H : Hp} (rl : Rel W m h H) {x y : U} {v u : V} (rx : RV W.K m H x v) (ry : RV W.K m H y u) {b : Bool} (e : eqU h x y = some b) :
    (scal v u = true ∧ b = decide (v = u)) ∨ ∃ d d', Dp W.K H v d ∧ Dp W.K H u d' ∧ SeqAt.shaped d = true ∧ SeqAt.shaped d' = true ∧ b = PyData.eqv d d' := by
  have deep : (match toD h 60 x, toD h 60 y with
    | some d, some e => if SeqAt.shaped d = true ∧ SeqAt.shaped e = true then some (PyData.eqv d e) else none
    | _, _ => none) = some b → (scal v u = true ∧ b = decide (v = u)) ∨ ∃ d d', Dp W.K H v d ∧ Dp W.K H u d' ∧ SeqAt.shaped d = true ∧ SeqAt.shaped d' = true ∧ b = PyData.eqv d d' := fun e => by
    split at e
    · rename_i d d' e1 e2
      split at e
      · rename_i hs
        cases e
        exact .inr ⟨d, d', toD_dp rl 60 x v d rx e1, toD_dp rl 60 y u d' ry e2, hs.1, hs.2, rfl⟩
      · cases e
    · cases e
  unfold eqU at e
  split at e
  · rw [rx.int_inv, ry.int_inv]; exact .inl ⟨rfl, by rw [← Option.some.inj e]; simp⟩
  · rw [rx.bl_inv, ry.bl_inv]; exact .inl ⟨rfl, by rw [← Option.some.inj e]; simp⟩
  · rw [rx.str_inv, ry.str_inv]; exact .inl ⟨rfl, by rw [← Option.some.inj e]; simp⟩
  · rw [rx.non_inv, ry.non_inv]; refine .inr ⟨.none, .none, .non, .non, rfl, rfl, ?_⟩; rw [← Option.some.inj e]; rfl
  · rw [rx.non_inv, ry.int_inv]; exact .inl ⟨rfl, by rw [← Option.some.inj e]; simp⟩
  · rw [rx.int_inv, ry.non_inv]; exact .inl ⟨rfl, by rw [← Option.some.inj e]; simp⟩
  · rw [rx.non_inv, ry.str_inv]; exact .inl ⟨rfl, by rw [← Option.some.inj e]; simp⟩
  · rw [rx.str_inv, ry.non_inv]; exact .inl ⟨rfl, by rw [← Option.some.inj e]; simp⟩
  · rw [rx.non_inv, ry.bl_inv]; exact .inl ⟨rfl, by rw [← Option.some.inj e]; simp⟩
  · rw [rx.bl_inv, ry.non_inv]; exact .inl ⟨rfl, by rw [← Option.some.inj e]; simp⟩
  · rw [rx.int_inv, ry.str_inv]; exact .inl ⟨rfl, by rw [← Option.some.inj e]; simp⟩
  · rw [rx.str_inv, ry.int_inv]; exact .inl ⟨rfl, by rw [← Option.some.inj e]; simp⟩
  · exact deep e
def vEq : G2 := fun x y h => match eqU h x y with | some b => .ok (.bl b) h | none => .bad
def vNe : G2 := fun x y h => match eqU h x y with | some b => .ok (.bl (!b)) h | none => .bad
@[simp] theorem vEq_int (i j : Int) (h : Hb) : vEq (.int i) (.int j) h = .ok (.bl (decide (i = j))) h := rfl
@[simp] theorem vNe_int (i j : Int) (h : Hb) : vNe (.int i) (.int j) h = .ok (.bl (!decide (i = j))) h := rfl
@[simp] theorem vEq_str (i j : Str) (h : Hb) : vEq (.str i) (.str j) h = .ok (.bl (decide (i = j))) h := rfl
@[simp] theorem vNe_str (i j : Str) (h : Hb) : vNe (.str i) (.str j) h = .ok (.bl (!decide (i = j))) h := rfl
@[simp] theorem vEq_bl (i j : Bool) (h : Hb) : vEq (.bl i) (.bl j) h = .ok (.bl (decide (i = j))) h := rfl
@[simp] theorem vNe_bl (i j : Bool) (h : Hb) : vNe (.bl i) (.bl j) h = .ok (.bl (!decide (i = j))) h := rfl
theorem o_eq {W : Wd} : Op2 W (rEqA W.K) vEq := by
  intro x y h m H v u Q E rl rx ry p
  unfold vEq at p
  cases q : eqU h x y with
  | none => rw [q] at p; exact p.elim
  | some b =>
    rw [q] at p
    have k := p.ok rl (.mk_bl b)
    rcases eqU_rel rl rx ry q with ⟨a, c⟩ | ⟨d, d', h1, h2, h3, h4, c⟩
    · exact .inl ⟨a, by rw [← c]; exact k⟩
    · exact .inr ⟨d, d', h1, h2, h3, h4, by rw [← c]; exact k⟩
theorem o_ne {W : Wd} : Op2 W (rNeA W.K) vNe := by
  intro x y h m H v u Q E rl rx ry p
  unfold vNe at p
  cases q : eqU h x y with
  | none => rw [q] at p; exact p.elim
  | some b =>
    rw [q] at p
    have k := p.ok rl (.mk_bl (!b))
    rcases eqU_rel rl rx ry q with ⟨a, c⟩ | ⟨d, d', h1, h2, h3, h4, c⟩
    · exact .inl ⟨a, by rw [← c]; exact k⟩
    · exact .inr ⟨d, d', h1, h2, h3, h4, by rw [← c]; exact k⟩
/-- is None, is not None -/
@[simp] def isNonU : U → Bool
  | .non => true
  | _ => false
theorem isNonU_rel {W : Wd} {m : List Addr} {H : Hp} {x : U} {v : V} (r : RV W.K m H x v) : decide (v = .non) = isNonU x := by
  cases x with
  | non => rw [r.non_inv]; rfl
  | bl b => rw [r.bl_inv]; simp
  | int b => rw [r.int_inv]; simp
  | str b => rw [r.str_inv]; simp
  | tup b => obtain ⟨a, vs, rfl, _⟩ := r.tup_inv; simp
  | ref b => obtain ⟨a, rfl, _⟩ := r.ref_inv; simp
def vIs : G2 := fun x y h => match y with | .non => .ok (.bl (isNonU x)) h | _ => .bad
def vIsN : G2 := fun x y h => match y with | .non => .ok (.bl (!isNonU x)) h | _ => .bad
@[simp] theorem vIs_non (x : U) (h : Hb) : vIs x .non h = .ok (.bl (isNonU x)) h := rfl
@[simp] theorem vIsN_non (x : U) (h : Hb) : vIsN x .non h = .ok (.bl (!isNonU x)) h := rfl
theorem o_is {W : Wd} : Op2 W (fun x y H Q => y = .non ∧ Q (.bl (decide (x = .non))) H) vIs := by
  intro x y h m H v u Q E rl rx ry p
  cases y with
  | non => exact ⟨ry.non_inv, by rw [isNonU_rel rx]; exact p.ok rl (.mk_bl _)⟩
  | _ => exact p.elim
theorem o_isN {W : Wd} : Op2 W (fun x y H Q => y = .non ∧ Q (.bl (!decide (x = .non))) H) vIsN := by
  intro x y h m H v u Q E rl rx ry p
  cases y with
  | non => exact ⟨ry.non_inv, by rw [isNonU_rel rx]; exact p.ok rl (.mk_bl _)⟩
  | _ => exact p.elim

/-! ### subscripts -/
def vIx : G2 := fun x y h => match y with
  | .int i => match x with
    | .str z => if z.length ≤ sizeLine then match atI z.cps.toList i with | some c => .ok (.str ⟨#[c]⟩) h | none => .bad else .bad
    | _ => match seqU h x with
      | some xs => match atI xs i with | some u => .ok u h | none => .bad
      | none => .bad
  | _ => .bad
theorem ixN_len {n k : Nat} {i : Int} (h : ixN n i = some k) : k < n := (ixN_seq h).2.1
theorem RVs.atI {K : PySem.W.Frag} {m : List Addr} {H : Hp} {us : List U} {vs : List V} {i : Int} {u : U} (r : RVs K m H us vs) (e : L2.atI us i = some u) : ∃ v, L2.atI vs i = some v ∧ RV K m H u v := by
  unfold L2.atI at e ⊢
  rw [← r.length]
  cases q : ixN us.length i with
  | none => rw [q] at e; cases e
  | some k => rw [q] at e; exact r.get e
theorem o_ix {W : Wd} : Op2 W (rIx W.K) vIx := by
  intro x y h m H v u Q E rl rx ry p
  cases y with
  | int i =>
    rw [ry.int_inv]
    simp only [vIx] at p
    split at p
    · rename_i z
      split at p
      · rename_i hz
        split at p
        · rename_i c hc
          exact .inr (.inr ⟨z, i, c, rx.str_inv, rfl, hz, hc, p.ok rl (.mk_str _)⟩)
        · exact p.elim
      · exact p.elim
    · split at p
      · rename_i xs e1
        split at p
        · rename_i w e2
          obtain ⟨a, vs, rfl, sq, rr⟩ := rl.seq rx e1
          obtain ⟨y, h1, h2⟩ := rr.atI e2
          rcases sq with sq | sq
          · exact .inl ⟨a, vs, i, y, rfl, rfl, sq, h1, p.ok rl h2⟩
          · exact .inr (.inl ⟨a, vs, i, y, rfl, rfl, sq, h1, p.ok rl h2⟩)
        · exact p.elim
      · exact p.elim
  | _ => exact p.elim
/-- xs[i] = u -/
def pIx : G3 := fun o i u h => match o, i with
  | .ref a, .int k => match h[a]? with
    | some (.lst xs) => match ixN xs.length k with | some j => some (h.set a (.lst (xs.set j u))) | none => none
    | _ => none
  | _, _ => none
theorem o_pix {W : Wd} : Op3 W rSetL pIx := by
  intro o i u h h' m H ov iv v Q e rl ro ri ru k
  unfold pIx at e
  split at e
  · rename_i a kk
    split at e
    · rename_i xs e1
      split at e
      · rename_i j e2
        cases e
        obtain ⟨pa, va, rfl, ma, ha, ra⟩ := rl.lst ro e1
        refine ⟨pa, va, kk, j, rfl, ri.int_inv, ha, by rw [← ra.length]; exact e2, ?_⟩
        obtain ⟨rl2, e3⟩ := rl.write (q := .lst (va.set j v)) e1 (by intro _ z; cases z) (o' := .lst (xs.set j u)) (by intro _ z; cases z) ma (fun m1 H1 e h1 => ⟨_, h1, RVs.mono e _ (RVs.set ru j ra)⟩)
        exact k _ _ e3 rl2
      · cases e
    · cases e
  · cases e
/-! slices -/
section
variable {W : Wd} {X : Cx} {a b c e : Expr} {fa fb fc fe : Ev} {pos p2 : Pos}
abbrev Eo := Sg → Hb → Res (Option Int)
def EvO (X : Cx) (e : Option Expr) : TO := fun t H Q => ∃ te, PO X e te ∧ te t H Q
theorem EvO.po (X : Cx) (e : Option Expr) : PO X e (EvO X e) := ⟨fun pins s σ H Q I h => by obtain ⟨te, p, q⟩ := h; exact p.run pins s σ H Q I q⟩
structure SO (W : Wd) (X : Cx) (e : Option Expr) (f : Eo) : Prop where
  run : ∀ (w : WX), Takes X w → ∀ (σ : Sg) (h : Hb) (m : List Addr) (τ : L2.St) (H : Hp) (Q : Option Int → Hp → Prop), Rel W m h H → RS W.K m H σ τ → Post W (fun _ _ a b => b = a) (f σ h) m H Q (fun c d H' => w c d τ H') → EvO X e τ H Q
def oNo : Eo := fun _ h => .ok none h
def oSok (x : U) (h : Hb) : Res (Option Int) := match x with | .int i => .ok (some i) h | _ => .bad
def oSo (f : Ev) : Eo := fun s h => (f s h).bind oSok
theorem so_none : SO W X none oNo := ⟨fun w tk σ h m τ H Q rl rs p => ⟨_, po_none, p.ok rl rfl⟩⟩
theorem so_some (he : SE W X e fe) : SO W X (some e) (oSo fe) := by
  refine ⟨fun w tk σ h m τ H Q rl rs p => ⟨_, po_some (EvT.pe X e), ?_⟩⟩
  refine he.run w tk σ h m τ H _ rl rs (Post.bind p fun x h1 m1 H1 v _ e1 rl1 rv p1 => ?_)
  cases x with
  | int i => exact ⟨i, rv.int_inv, p1.ok rl1 rfl⟩
  | _ => exact p1.elim
def cutU {α : Type} (xs : List α) (lo hi : Option Int) : List α := (xs.drop (HT.sIx xs.length 0 lo)).take (HT.sIx xs.length xs.length hi - HT.sIx xs.length 0 lo)
theorem RVs.cut {K : PySem.W.Frag} {m : List Addr} {H : Hp} {us : List U} {vs : List V} (r : RVs K m H us vs) (lo hi : Option Int) : RVs K m H (cutU us lo hi) (cutV vs lo hi) := by
  unfold cutU cutV
  rw [← r.length]
  exact (r.drop _).take _
def vSl (x : U) (lo hi : Option Int) : Hb → Res U := fun h => match x with
  | .tup us => .ok (.tup (cutU us lo hi)) h
  | .ref a => match h[a]? with
    | some (.lst xs) => .ok (.ref h.length) (h ++ [.lst (cutU xs lo hi)])
    | some (.fro xs) => .ok (.ref h.length) (h ++ [.lst (cutU xs lo hi)])
    | _ => .bad
  | .str z => if z.length ≤ sizeLine then .ok (.str (cutS z lo hi)) h else .bad
  | _ => .bad
def rSl (K : PySem.W.Frag) : V → Option Int → Option Int → Hp → VK → Prop := fun x lo hi H Q => (rSlA K x lo hi H Q ∨ rSlL K x lo hi H Q) ∨ rSlS x lo hi H Q
theorem op_sl : SlR X (rSl X.K) := (sl_tupA.or sl_list).or sl_str
/-- the whole of it -/
theorem cut_whole {α : Type} {xs : List α} {lo hi : Option Int} (h : HT.sIx xs.length 0 lo = 0 ∧ HT.sIx xs.length xs.length hi = xs.length) : cutU xs lo hi = xs := by
  unfold cutU
  rw [h.1, h.2]; simp
theorem o_sl {x : U} {lo hi : Option Int} {h : Hb} {m : List Addr} {H : Hp} {v : V} {Q : VK} {E : Value → Option Addr → Hp → Prop} (rl : Rel W m h H) (rx : RV W.K m H x v) (p : Post W (RV W.K) (vSl x lo hi h) m H Q E) : rSl W.K v lo hi H Q := by
  unfold vSl at p
  split at p
  · rename_i us
    obtain ⟨a, vs, rfl, t, rr⟩ := rx.tup_inv
    refine .inl (.inl ⟨a, vs, rfl, t.sq, fun z => ?_, fun _ => new_tup rl (rr.cut lo hi) p⟩)
    rw [← rr.length] at z
    rw [cut_whole z] at p
    exact p.ok rl rx
  · rename_i i
    obtain ⟨a, rfl, hm⟩ := rx.ref_inv
    split at p
    · rename_i xs q0
      obtain ⟨vs, sq, rr⟩ := (rl.at_ i _ a q0 hm).sql
      exact .inl (.inr ⟨a, vs, rfl, sq, new_lst rl (rr.cut lo hi) p⟩)
    · rename_i xs q0
      obtain ⟨vs, sq, rr⟩ := (rl.at_ i _ a q0 hm).sqf
      exact .inl (.inr ⟨a, vs, rfl, sq, new_lst rl (rr.cut lo hi) p⟩)
    · exact p.elim
  · rename_i z
    split at p
    · rename_i hz
      exact .inr ⟨z, rx.str_inv, hz, p.ok rl (.mk_str _)⟩
    · exact p.elim
  · exact p.elim
def sl2 (fh : Eo) (s : Sg) (x : U) (l : Option Int) (h : Hb) : Res U := (fh s h).bind (vSl x l)
def sl1 (fl fh : Eo) (s : Sg) (x : U) (h : Hb) : Res U := (fl s h).bind (sl2 fh s x)
def eSl (fa : Ev) (fl fh : Eo) : Ev := fun s h => (fa s h).bind (sl1 fl fh s)
theorem se_sl {lo hi : Option Expr} {fl fh : Eo} (hK : X.K = W.K) (ha : SE W X a fa) (hl : SO W X lo fl) (hu : SO W X hi fh) : SE W X (.Subscript a (.Slice lo hi none p2) pos) (eSl fa fl fh) := by
  refine ⟨fun w tk σ h m τ H Q rl rs p => ⟨_, pe_slice op_sl (EvT.pe X a) (EvO.po X lo) (EvO.po X hi), ?_⟩⟩
  refine ha.run w tk σ h m τ H _ rl rs (Post.bind p fun x h1 m1 H1 v _ e1 rl1 rv p1 => ?_)
  refine hl.run w tk σ h1 m1 τ H1 _ rl1 (rs.mono e1) (Post.bind p1 fun l h2 m2 H2 l' _ e2 rl2 el p2 => ?_)
  refine hu.run w tk σ h2 m2 τ H2 _ rl2 (rs.mono (e1.trans e2)) (Post.bind p2 fun u h3 m3 H3 u' _ e3 rl3 eu p3 => ?_)
  subst el eu
  rw [hK]
  exact o_sl rl3 (RV.mono (e2.trans e3) x rv) p3
/-- xs[::-1] of a list, of a tuple -/
def vRev (x : U) (h : Hb) : Res U := match x with
  | .tup us => .ok (.tup us.reverse) h
  | .ref a => match h[a]? with
    | some (.lst xs) => .ok (.ref h.length) (h ++ [.lst xs.reverse])
    | some (.fro xs) => .ok (.ref h.length) (h ++ [.lst xs.reverse])
    | _ => .bad
  | _ => .bad
theorem o_rev {x : U} {h : Hb} {m : List Addr} {H : Hp} {v : V} {Q : VK} {E : Value → Option Addr → Hp → Prop} (rl : Rel W m h H) (rv : RV W.K m H x v) (p1 : Post W (RV W.K) (vRev x h) m H Q E) : qRevA W.K v H Q := by
  cases x with
  | ref i =>
    unfold vRev at p1
    obtain ⟨a, rfl, hm⟩ := rv.ref_inv
    simp only [] at p1
    split at p1
    · rename_i xs q0
      obtain ⟨vs, sq, rr⟩ := (rl.at_ i _ a q0 hm).sql
      exact .inl ⟨a, vs, rfl, sq, new_lst rl rr.reverse p1⟩
    · rename_i xs q0
      obtain ⟨vs, sq, rr⟩ := (rl.at_ i _ a q0 hm).sqf
      exact .inl ⟨a, vs, rfl, sq, new_lst rl rr.reverse p1⟩
    · exact p1.elim
  | tup us =>
    obtain ⟨a, vs, rfl, t, rr⟩ := rv.tup_inv
    exact .inr ⟨a, vs, rfl, t.sq, new_tup rl rr.reverse p1⟩
  | _ => exact p1.elim
theorem se_rev {k : Nat} {q1 q2 q3 : Pos} (hK : X.K = W.K) (ha : SE W X a fa) : SE W X (.Subscript a (.Slice none none (some (.UnaryOp .USub (.Constant (.int 1) k q1) q2)) q3) pos) (e1 vRev fa) := by
  refine ⟨fun w tk σ h m τ H Q rl rs p => ⟨_, pe_revA (EvT.pe X a), ?_⟩⟩
  refine ha.run w tk σ h m τ H _ rl rs (Post.bind p fun x h1 m1 H1 v _ e1 rl1 rv p1 => ?_)
  rw [hK]
  exact o_rev rl1 rv p1

/-! ### calls of built-ins -/
abbrev GC := List U → Hb → Res U
def OpC (W : Wd) (r : List V → Hp → VK → Prop) (g : GC) : Prop := ∀ (us : List U) (h : Hb) (m : List Addr) (H : Hp) (vs : List V) (Q : VK) (E : Value → Option Addr → Hp → Prop), Rel W m h H → RVs W.K m H us vs → Post W (RV W.K) (g us h) m H Q E → r vs H Q
def eC (g : GC) (fs : Ea) : Ev := fun s h => (fs s h).bind g
variable {es : List Expr} {fs : Ea} {x : Str} {p : Pos}
theorem se_callB {id : String} {r : List V → Hp → VK → Prop} {g : GC} (hc : CallR X (.builtin id) r) (o : OpC W r g) (hg : Gl X x) (hm : X.mg x = none) (hv : bootBuiltins x = some (.builtin id)) (ha : SA W X (e :: es) fs) (hn : x ≠ "__name__") (hdb : (x == ("__debug__" : Str)) = false)
    (he : starEach (e :: es) X.env = (false, eval e X.env) :: starEach es X.env) (hpl : (backTo pos (starEach es X.env)).any (·.1) = false) : SE W X (.Call (.Name x p) (e :: es) [] pos) (eC g fs) :=
  ⟨fun w tk σ h m τ H Q rl rs q => ⟨_, pe_callB hc hg hm hv (EvA.pa X _) hn hdb he hpl, ha.run w tk σ h m τ H _ rl rs (Post.bind q fun us h1 m1 H1 vs _ e1 rl1 rv q1 => o us h1 m1 H1 vs Q _ rl1 rv q1)⟩⟩
theorem se_callTy {T : String} {r : List V → Hp → VK → Prop} {g : GC} (hc : CallR X (.type T) r) (o : OpC W r g) (hg : Gl X x) (hm : X.mg x = none) (hv : bootBuiltins x = some (.type T)) (ha : SA W X (e :: es) fs) (hn : x ≠ "__name__") (hdb : (x == ("__debug__" : Str)) = false)
    (he : starEach (e :: es) X.env = (false, eval e X.env) :: starEach es X.env) (hpl : (backTo pos (starEach es X.env)).any (·.1) = false) : SE W X (.Call (.Name x p) (e :: es) [] pos) (eC g fs) :=
  ⟨fun w tk σ h m τ H Q rl rs q => ⟨_, pe_callTy hc hg hm hv (EvA.pa X _) hn hdb he hpl, ha.run w tk σ h m τ H _ rl rs (Post.bind q fun us h1 m1 H1 vs _ e1 rl1 rv q1 => o us h1 m1 H1 vs Q _ rl1 rv q1)⟩⟩

def cInt : GC := fun us h => match us with
  | [.int i] => .ok (.int i) h
  | [.bl k] => .ok (.int (if k then 1 else 0)) h
  | _ => .bad
@[simp] theorem cInt_int (i : Int) (h : Hb) : cInt [.int i] h = .ok (.int i) h := rfl
theorem o_cint : OpC W (fun xs H Q => (∃ i, xs = [.int i] ∧ Q (.int i) H) ∨ ∃ k, xs = [.bl k] ∧ Q (.int (if k then 1 else 0)) H) cInt := by
  intro us h m H vs Q E rl rv q
  unfold cInt at q
  split at q
  · obtain ⟨v, r, rfl, a, b⟩ := rv.inv_cons
    rw [b.inv_nil, a.int_inv]
    exact .inl ⟨_, rfl, q.ok rl (.mk_int _)⟩
  · obtain ⟨v, r, rfl, a, b⟩ := rv.inv_cons
    rw [b.inv_nil, a.bl_inv]
    exact .inr ⟨_, rfl, q.ok rl (.mk_int _)⟩
  · exact q.elim
def cLen : GC := fun us h => match us with
  | [.str y] => if y.length ≤ sizeLine then .ok (.int y.length) h else .bad
  | [x] => match seqU h x with | some xs => .ok (.int xs.length) h | none => .bad
  | _ => .bad
theorem o_len : OpC W (fun xs H Q => ∃ x n, xs = [x] ∧ LenV W.K x H n ∧ Q (.int n) H) cLen := by
  intro us h m H vs Q E rl rv q
  unfold cLen at q
  split at q
  · obtain ⟨v, r, rfl, a, b⟩ := rv.inv_cons
    rw [b.inv_nil, a.str_inv]
    split at q
    · rename_i hz
      exact ⟨_, _, rfl, ⟨hz, rfl⟩, q.ok rl (.mk_int _)⟩
    · exact q.elim
  · obtain ⟨v, r, rfl, a, b⟩ := rv.inv_cons
    rw [b.inv_nil]
    split at q
    · rename_i xs e1
      obtain ⟨pa, ws, rfl, sq, rr⟩ := rl.seq a e1
      refine ⟨_, ws.length, rfl, ?_, by rw [← rr.length]; exact q.ok rl (.mk_int _)⟩
      rcases sq with sq | sq
      · exact .inl ⟨ws, sq, rfl⟩
      · exact .inr ⟨ws, sq, rfl⟩
    · exact q.elim
  · exact q.elim
def cAbs : GC := fun us h => match us with
  | [.int i] => .ok (.int (if i < 0 then -i else i)) h
  | _ => .bad
@[simp] theorem cAbs_int (i : Int) (h : Hb) : cAbs [.int i] h = .ok (.int (if i < 0 then -i else i)) h := rfl
theorem o_abs : OpC W (fun xs H Q => ∃ i, xs = [.int i] ∧ Q (.int (if i < 0 then -i else i)) H) cAbs := by
  intro us h m H vs Q E rl rv q
  unfold cAbs at q
  split at q
  · obtain ⟨v, r, rfl, a, b⟩ := rv.inv_cons
    rw [b.inv_nil, a.int_inv]
    exact ⟨_, rfl, q.ok rl (.mk_int _)⟩
  · exact q.elim
def boolsU : List U → Option (List Bool)
  | [] => some []
  | .bl b :: r => (boolsU r).map (b :: ·)
  | _ => none
def intsU : List U → Option (List Int)
  | [] => some []
  | .int b :: r => (intsU r).map (b :: ·)
  | _ => none
theorem RVs.bools {K : PySem.W.Frag} {m : List Addr} {H : Hp} : ∀ {us : List U} {vs : List V} {bs : List Bool}, RVs K m H us vs → boolsU us = some bs → vs = bs.map V.bl
  | [], _, _, r, e => by cases e; exact r.inv_nil
  | u :: us, _, bs, r, e => by
    obtain ⟨v, q, rfl, a, b⟩ := r.inv_cons
    cases u with
    | bl k =>
      simp only [boolsU] at e
      cases e2 : boolsU us with
      | none => rw [e2] at e; cases e
      | some cs =>
        rw [e2] at e; cases e
        rw [RVs.bools b e2]
        unfold RV at a; rw [a]; rfl
    | _ => cases e
theorem RVs.ints {K : PySem.W.Frag} {m : List Addr} {H : Hp} : ∀ {us : List U} {vs : List V} {bs : List Int}, RVs K m H us vs → intsU us = some bs → vs = bs.map V.int
  | [], _, _, r, e => by cases e; exact r.inv_nil
  | u :: us, _, bs, r, e => by
    obtain ⟨v, q, rfl, a, b⟩ := r.inv_cons
    cases u with
    | int k =>
      simp only [intsU] at e
      cases e2 : intsU us with
      | none => rw [e2] at e; cases e
      | some cs =>
        rw [e2] at e; cases e
        rw [RVs.ints b e2]
        unfold RV at a; rw [a]; rfl
    | _ => cases e
/-- the items of a list -/
def lstU (h : Hb) : U → Option (List U)
  | .ref a => match h[a]? with
    | some (.lst xs) => some xs
    | some (.fro xs) => some xs
    | _ => none
  | _ => none
theorem lst_rel {m : List Addr} {h : Hb} {H : Hp} (rl : Rel W m h H) {x : U} {us : List U} {v : V} (r : RV W.K m H x v) (e : lstU h x = some us) : ∃ a vs, v = .ref a ∧ SqL W.K H a vs ∧ RVs W.K m H us vs := by
  cases x with
  | ref i =>
    obtain ⟨a, rfl, hm⟩ := r.ref_inv
    simp only [lstU] at e
    cases q : h[i]? with
    | none => rw [q] at e; cases e
    | some o =>
      rw [q] at e
      cases o with
      | lst xs =>
        cases e
        obtain ⟨vs, sq, rr⟩ := (rl.at_ i _ a q hm).sql
        exact ⟨a, vs, rfl, sq, rr⟩
      | fro xs =>
        cases e
        obtain ⟨vs, sq, rr⟩ := (rl.at_ i _ a q hm).sqf
        exact ⟨a, vs, rfl, sq, rr⟩
      | ins c fs => cases e
  | _ => cases e
def cB (f : List Bool → Bool) : GC := fun us h => match us with
  | [x] => match (lstU h x).bind boolsU with | some bs => .ok (.bl (f bs)) h | none => .bad
  | _ => .bad
abbrev cAll : GC := cB fun bs => bs.all id
abbrev cAny : GC := cB fun bs => bs.any id
theorem o_cB {f : List Bool → Bool} : OpC W (fun vs H Q => ∃ (a : Addr) (bs : List Bool), vs = [V.ref a] ∧ SqL W.K H a (bs.map V.bl) ∧ Q (.bl (f bs)) H) (cB f) := by
  intro us h m H vs Q E rl rv q
  unfold cB at q
  split at q
  · rename_i x
    obtain ⟨v, r, rfl, a, b⟩ := rv.inv_cons
    rw [b.inv_nil]
    cases e1 : lstU h x with
    | none => rw [e1] at q; exact q.elim
    | some us =>
      rw [e1] at q
      simp only [Option.bind_some] at q
      split at q
      · rename_i bs e2
        obtain ⟨pa, ws, rfl, sq, rr⟩ := lst_rel rl a e1
        exact ⟨pa, bs, rfl, by rw [← rr.bools e2]; exact sq, q.ok rl (.mk_bl _)⟩
      · exact q.elim
  · exact q.elim
def cSum : GC := fun us h => match us with
  | [x] => match (lstU h x).bind intsU with | some bs => .ok (.int bs.sum) h | none => .bad
  | _ => .bad
theorem o_sum : OpC W (rSum W.K) cSum := by
  intro us h m H vs Q E rl rv q
  unfold cSum at q
  split at q
  · rename_i x
    obtain ⟨v, r, rfl, a, b⟩ := rv.inv_cons
    rw [b.inv_nil]
    cases e1 : lstU h x with
    | none => rw [e1] at q; exact q.elim
    | some us =>
      rw [e1] at q
      simp only [Option.bind_some] at q
      split at q
      · rename_i bs e2
        obtain ⟨pa, ws, rfl, sq, rr⟩ := lst_rel rl a e1
        exact ⟨pa, bs, rfl, by rw [← rr.ints e2]; exact sq, q.ok rl (.mk_int _)⟩
      · exact q.elim
  · exact q.elim
/-- max, min: of two ints, of a list of ints -/
def maxI : List Int → Option Int
  | [] => none
  | x :: xs => some (xs.foldl (fun a b => if b > a then b else a) x)
def minI : List Int → Option Int
  | [] => none
  | x :: xs => some (xs.foldl (fun a b => if b < a then b else a) x)
def cMax : GC := fun us h => match us with
  | [.int i, .int j] => .ok (.int (if j > i then j else i)) h
  | [x] => match (lstU h x).bind intsU with | some bs => (match maxI bs with | some k => .ok (.int k) h | none => .bad) | none => .bad
  | _ => .bad
def cMin : GC := fun us h => match us with
  | [.int i, .int j] => .ok (.int (if j < i then j else i)) h
  | [x] => match (lstU h x).bind intsU with | some bs => (match minI bs with | some k => .ok (.int k) h | none => .bad) | none => .bad
  | _ => .bad
@[simp] theorem cMax_two (i j : Int) (h : Hb) : cMax [.int i, .int j] h = .ok (.int (if j > i then j else i)) h := rfl
@[simp] theorem cMin_two (i j : Int) (h : Hb) : cMin [.int i, .int j] h = .ok (.int (if j < i then j else i)) h := rfl
theorem maxI_fold : ∀ (xs : List Int) (x : Int), x ≤ xs.foldl (fun a b => if b > a then b else a) x ∧ (∀ y ∈ xs, y ≤ xs.foldl (fun a b => if b > a then b else a) x) ∧ (xs.foldl (fun a b => if b > a then b else a) x = x ∨ xs.foldl (fun a b => if b > a then b else a) x ∈ xs)
  | [], x => ⟨Int.le_refl x, by simp, .inl rfl⟩
  | y :: xs, x => by
    obtain ⟨h1, h2, h3⟩ := maxI_fold xs (if y > x then y else x)
    have hy : y ≤ (if y > x then y else x) ∧ x ≤ (if y > x then y else x) := by split <;> omega
    refine ⟨Int.le_trans hy.2 h1, fun z hz => ?_, ?_⟩
    · rcases List.mem_cons.mp hz with e | hz
      · rw [e]; exact Int.le_trans hy.1 h1
      · exact h2 z hz
    · rcases h3 with h3 | h3
      · simp only [List.foldl_cons]
        rw [h3]
        split
        · exact .inr List.mem_cons_self
        · exact .inl rfl
      · exact .inr (List.mem_cons_of_mem _ h3)
theorem minI_fold : ∀ (xs : List Int) (x : Int), xs.foldl (fun a b => if b < a then b else a) x ≤ x ∧ (∀ y ∈ xs, xs.foldl (fun a b => if b < a then b else a) x ≤ y) ∧ (xs.foldl (fun a b => if b < a then b else a) x = x ∨ xs.foldl (fun a b => if b < a then b else a) x ∈ xs)
  | [], x => ⟨Int.le_refl x, by simp, .inl rfl⟩
  | y :: xs, x => by
    obtain ⟨h1, h2, h3⟩ := minI_fold xs (if y < x then y else x)
    have hy : (if y < x then y else x) ≤ y ∧ (if y < x then y else x) ≤ x := by split <;> omega
    refine ⟨Int.le_trans h1 hy.2, fun z hz => ?_, ?_⟩
    · rcases List.mem_cons.mp hz with e | hz
      · rw [e]; exact Int.le_trans h1 hy.1
      · exact h2 z hz
    · rcases h3 with h3 | h3
      · simp only [List.foldl_cons]
        rw [h3]
        split
        · exact .inr List.mem_cons_self
        · exact .inl rfl
      · exact .inr (List.mem_cons_of_mem _ h3)
theorem maxI_spec {xs : List Int} {k : Int} (e : maxI xs = some k) : k ∈ xs ∧ ∀ y ∈ xs, y ≤ k := by
  cases xs with
  | nil => cases e
  | cons x xs =>
    cases e
    obtain ⟨h1, h2, h3⟩ := maxI_fold xs x
    refine ⟨?_, fun y hy => ?_⟩
    · rcases h3 with h3 | h3
      · rw [h3]; exact List.mem_cons_self
      · exact List.mem_cons_of_mem _ h3
    · rcases List.mem_cons.mp hy with e | hy
      · rw [e]; exact h1
      · exact h2 y hy
theorem minI_spec {xs : List Int} {k : Int} (e : minI xs = some k) : k ∈ xs ∧ ∀ y ∈ xs, k ≤ y := by
  cases xs with
  | nil => cases e
  | cons x xs =>
    cases e
    obtain ⟨h1, h2, h3⟩ := minI_fold xs x
    refine ⟨?_, fun y hy => ?_⟩
    · rcases h3 with h3 | h3
      · rw [h3]; exact List.mem_cons_self
      · exact List.mem_cons_of_mem _ h3
    · rcases List.mem_cons.mp hy with e | hy
      · rw [e]; exact h1
      · exact h2 y hy
theorem CallR.or {f : Value} {r r' : List V → Hp → VK → Prop} (h : CallR X f r) (h' : CallR X f r') : CallR X f (fun xs H Q => r xs H Q ∨ r' xs H Q) := by
  intro pins s σ H xs us Q I r q
  rcases q with q | q
  · exact h pins s σ H xs us Q I r q
  · exact h' pins s σ H xs us Q I r q
theorem o_max : OpC W (fun xs H Q => (∃ i j, xs = [.int i, .int j] ∧ Q (.int (if j > i then j else i)) H) ∨ rMax W.K xs H Q) cMax := by
  intro us h m H vs Q E rl rv q
  unfold cMax at q
  split at q
  · obtain ⟨v, r, rfl, a, b⟩ := rv.inv_cons
    obtain ⟨v2, r, rfl, a2, b⟩ := b.inv_cons
    rw [b.inv_nil, a.int_inv, a2.int_inv]
    exact .inl ⟨_, _, rfl, q.ok rl (.mk_int _)⟩
  · rename_i x
    obtain ⟨v, r, rfl, a, b⟩ := rv.inv_cons
    rw [b.inv_nil]
    cases e1 : lstU h x with
    | none => rw [e1] at q; exact q.elim
    | some us =>
      rw [e1] at q
      simp only [Option.bind_some] at q
      split at q
      · rename_i bs e2
        split at q
        · rename_i k e3
          obtain ⟨pa, ws, rfl, sq, rr⟩ := lst_rel rl a e1
          obtain ⟨h1, h2⟩ := maxI_spec e3
          refine .inr ⟨pa, bs, rfl, by rw [← rr.ints e2]; exact sq, by cases bs with | nil => cases e3 | cons _ _ => simp, fun n hn hle => ?_⟩
          have : n = k := Int.le_antisymm (h2 n hn) (hle k h1)
          rw [this]
          exact q.ok rl (.mk_int _)
        · exact q.elim
      · exact q.elim
  · exact q.elim
theorem o_min : OpC W (fun xs H Q => (∃ i j, xs = [.int i, .int j] ∧ Q (.int (if j < i then j else i)) H) ∨ rMin W.K xs H Q) cMin := by
  intro us h m H vs Q E rl rv q
  unfold cMin at q
  split at q
  · obtain ⟨v, r, rfl, a, b⟩ := rv.inv_cons
    obtain ⟨v2, r, rfl, a2, b⟩ := b.inv_cons
    rw [b.inv_nil, a.int_inv, a2.int_inv]
    exact .inl ⟨_, _, rfl, q.ok rl (.mk_int _)⟩
  · rename_i x
    obtain ⟨v, r, rfl, a, b⟩ := rv.inv_cons
    rw [b.inv_nil]
    cases e1 : lstU h x with
    | none => rw [e1] at q; exact q.elim
    | some us =>
      rw [e1] at q
      simp only [Option.bind_some] at q
      split at q
      · rename_i bs e2
        split at q
        · rename_i k e3
          obtain ⟨pa, ws, rfl, sq, rr⟩ := lst_rel rl a e1
          obtain ⟨h1, h2⟩ := minI_spec e3
          refine .inr ⟨pa, bs, rfl, by rw [← rr.ints e2]; exact sq, by cases bs with | nil => cases e3 | cons _ _ => simp, fun n hn hle => ?_⟩
          have : n = k := Int.le_antisymm (hle k h1) (h2 n hn)
          rw [this]
          exact q.ok rl (.mk_int _)
        · exact q.elim
      · exact q.elim
  · exact q.elim
def cLst : GC := fun us h => match us with
  | [x] => match seqU h x with | some xs => .ok (.ref h.length) (h ++ [.lst xs]) | none => .bad
  | _ => .bad
theorem o_clst : OpC W (fun xs H Q => ∃ p ys, xs = [.ref p] ∧ (SqL W.K H p ys ∨ SqT W.K H p ys) ∧ ∀ l, H l = none → Q (.ref l) (upd H l (.lst ys))) cLst := by
  intro us h m H vs Q E rl rv q
  unfold cLst at q
  split at q
  · rename_i x
    obtain ⟨v, r, rfl, a, b⟩ := rv.inv_cons
    rw [b.inv_nil]
    split at q
    · rename_i xs e1
      obtain ⟨pa, ws, rfl, sq, rr⟩ := rl.seq a e1
      exact ⟨pa, ws, rfl, sq, new_lst rl rr q⟩
    · exact q.elim
  · exact q.elim
def cTup : GC := fun us h => match us with
  | [.tup xs] => .ok (.tup xs) h
  | [x] => match lstU h x with | some xs => .ok (.tup xs) h | none => .bad
  | _ => .bad
@[simp] theorem cTup_tup (xs : List U) (h : Hb) : cTup [.tup xs] h = .ok (.tup xs) h := rfl
theorem o_ctup : OpC W (fun xs H Q => ∃ p ys, xs = [.ref p] ∧ ((SqL W.K H p ys ∧ ∀ l, H l = none → Q (.ref l) (upd H l (.tup ys))) ∨ (SqT W.K H p ys ∧ Q (.ref p) H))) cTup := by
  intro us h m H vs Q E rl rv q
  unfold cTup at q
  split at q
  · obtain ⟨v, r, rfl, a, b⟩ := rv.inv_cons
    rw [b.inv_nil]
    obtain ⟨pa, ws, rfl, t, rr⟩ := a.tup_inv
    exact ⟨pa, ws, rfl, .inr ⟨t.sq, q.ok rl a⟩⟩
  · rename_i x _
    obtain ⟨v, r, rfl, a, b⟩ := rv.inv_cons
    rw [b.inv_nil]
    split at q
    · rename_i xs e1
      obtain ⟨pa, ws, rfl, sq, rr⟩ := lst_rel rl a e1
      exact ⟨pa, ws, rfl, .inl ⟨sq, new_tup rl rr q⟩⟩
    · exact q.elim
  · exact q.elim

/-! isinstance(x, T), T a built-in type -/
def tyU (h : Hb) : U → Option String
  | .non => some "NoneType"
  | .bl _ => some "bool"
  | .int _ => some "int"
  | .str _ => some "str"
  | .tup _ => some "tuple"
  | .ref a => match h[a]? with
    | some (.lst _) => some "list"
    | some (.fro _) => some "list"
    | _ => none
theorem tyU_rel {m : List Addr} {h : Hb} {H : Hp} (rl : Rel W m h H) {x : U} {v : V} (r : RV W.K m H x v) {t : String} (e : tyU h x = some t) : TyX W.K H v (.type t) := by
  cases x with
  | non => cases e; rw [r.non_inv]; exact .base .non
  | bl b => cases e; rw [r.bl_inv]; exact .base (.bl b)
  | int b => cases e; rw [r.int_inv]; exact .base (.int b)
  | str b => cases e; rw [r.str_inv]; exact .base (.str b)
  | tup us =>
    cases e
    obtain ⟨a, vs, rfl, t, rr⟩ := r.tup_inv
    rcases t with t | ⟨o, its, n, hk, hc, _⟩
    · exact .base (.tup t)
    · exact .kTuple hk hc
  | ref i =>
    obtain ⟨a, rfl, hm⟩ := r.ref_inv
    simp only [tyU] at e
    split at e
    · rename_i xs q
      cases e
      obtain ⟨vs, h1, r⟩ := rl.at_ i _ a q hm
      exact .base (.lst h1)
    · rename_i xs q
      cases e
      obtain ⟨vs, h1, r⟩ := rl.at_ i _ a q hm
      rcases h1 with ⟨o, h1⟩ | ⟨o, its, n, hk, hc, _⟩
      · exact .base (.frz h1)
      · exact .kList hk hc
    · cases e
def isiU (T : String) : G1 := fun x h => match tyU h x with
  | some t => match kitB t T with | some b => .ok (.bl b) h | none => .bad
  | none => .bad
theorem se_isi {T : Str} {tn : String} {pt : Pos} (hK : X.K = W.K) (ha : SE W X a fa) (hg : Gl X "isinstance") (hm : X.mg "isinstance" = none) (hgT : Gl X T) (hmT : X.mg T = none) (hvT : bootBuiltins T = some (.type tn)) (hnT : T ≠ "__name__") (hdT : (T == ("__debug__" : Str)) = false)
    (he : starEach [a, .Name T pt] X.env = (false, eval a X.env) :: starEach [.Name T pt] X.env) : SE W X (.Call (.Name "isinstance" p) [a, .Name T pt] [] pos) (e1 (isiU tn) fa) := by
  refine ⟨fun w tk σ h m τ H Q rl rs q => ⟨_, pe_callB call_isi hg hm (by decide +kernel) (pa_cons (EvT.pe X a) (pa_cons (pe_bltn (v := .ty tn) hgT hmT hvT rfl hnT hdT) pa_nil (by rfl)) he) (by decide) (by decide) he (by rfl), ?_⟩⟩
  refine ha.run w tk σ h m τ H _ rl rs (Post.bind q fun x h1 m1 H1 v _ e1 rl1 rv q1 => ?_)
  unfold isiU at q1
  split at q1
  · rename_i t et
    split at q1
    · rename_i b eb
      exact ⟨v, .ty tn, .type t, .type tn, b, rfl, .ty tn, by rw [hK]; exact tyU_rel rl1 rv et, kit_ty eb, q1.ok rl1 (.mk_bl b)⟩
    · exact q1.elim
  · exact q1.elim
end
end Lz
namespace Lz
open PySem PySem.Spec PyProof.Rows L2
open Classical

/-! ### methods of lists -/
section
variable {W : Wd} {X : Cx} {a b c e o : Expr} {fa fb fc fe : Ev} {fs : Ea} {es : List Expr} {pos p2 apos cpos : Pos} {name : Str} {id : String}
abbrev GM := U → List U → Hb → Res U
def OpM (W : Wd) (r : V → List V → Hp → VK → Prop) (g : GM) : Prop := ∀ (x : U) (us : List U) (h : Hb) (m : List Addr) (H : Hp) (v : V) (vs : List V) (Q : VK) (E : Value → Option Addr → Hp → Prop), Rel W m h H → RV W.K m H x v → RVs W.K m H us vs → Post W (RV W.K) (g x us h) m H Q E → r v vs H Q
def eMk (g : GM) (fs : Ea) (s : Sg) (x : U) (h : Hb) : Res U := match lstU h x with
  | some _ => (fs s h).bind (g x)
  | none => .bad
def eM (g : GM) (fa : Ev) (fs : Ea) : Ev := fun s h => (fa s h).bind (eMk g fs s)
def noSuper : Expr → Bool
  | .Call (.Name _ _) [] [] _ => false
  | _ => true
theorem noSuper_base (ho : noSuper o = true) (env : Env) (w : Sem Value) : attributeBase o name env w = w := by
  unfold attributeBase
  split
  · rename_i h
    simp [noSuper] at ho
  · rfl
theorem se_m0 {r : V → List V → Hp → VK → Prop} {g : GM} (hK : X.K = W.K) (pa : PlainAttrs "list") (slot : Slot "list" name id) (hty : typeOf (.builtin id) = pure (.type "method_descriptor")) (hm : MtR X id r) (og : OpM W r g) (ho : SE W X o fa)
    (hbase : noSuper o = true) (hline : (apos.endLine == cpos.line) = true) : SE W X (.Call (.Attribute o name apos) [] [] cpos) (eM g fa aNil) := by
  refine ⟨fun w tk σ h m τ H Q rl rs p => ⟨_, pe_bm0 pa slot hty hm (EvT.pe X o) (noSuper_base hbase _ _) hline, ?_⟩⟩
  refine ho.run w tk σ h m τ H _ rl rs (Post.bind p fun x h1 m1 H1 v _ e1 rl1 rv p1 => ?_)
  unfold eMk at p1
  split at p1
  · rename_i xs ex
    obtain ⟨pa, vs, rfl, sq, rr⟩ := lst_rel rl1 rv ex
    exact ⟨.inl ⟨rfl, vs, by rw [hK]; exact sq⟩, og x [] h1 m1 H1 _ [] Q _ rl1 rv .nil p1⟩
  · exact p1.elim
theorem se_m {r : V → List V → Hp → VK → Prop} {g : GM} (hK : X.K = W.K) (pa : PlainAttrs "list") (slot : Slot "list" name id) (hty : typeOf (.builtin id) = pure (.type "method_descriptor")) (hm : MtR X id r) (og : OpM W r g) (ho : SE W X o fa) (ha : SA W X (e :: es) fs)
    (hbase : noSuper o = true) (hfew : ((backTo cpos (starEach (e :: es) X.env)).all (fun x => !x.1) && (backToKw cpos (keywordEach [] X.env)).all (fun x => x.1.isSome)
      && decide ((e :: es).length + ([] : List Keyword).length + (if ([] : List Keyword).isEmpty then 0 else 1) < 30)) = true) (hline : (apos.endLine == cpos.line) = true)
    (hs : starEach (e :: es) X.env = (false, eval e X.env) :: starEach es X.env) (hplain : (backTo cpos (starEach es X.env)).any (·.1) = false) : SE W X (.Call (.Attribute o name apos) (e :: es) [] cpos) (eM g fa fs) := by
  refine ⟨fun w tk σ h m τ H Q rl rs p => ⟨_, pe_bm pa slot hty hm (EvT.pe X o) (EvA.pa X (e :: es)) (noSuper_base hbase _ _) hfew hline hs hplain, ?_⟩⟩
  refine ho.run w tk σ h m τ H _ rl rs (Post.bind p fun x h1 m1 H1 v _ e1 rl1 rv p1 => ?_)
  unfold eMk at p1
  split at p1
  · rename_i xs ex
    obtain ⟨pa, vs, rfl, sq, rr⟩ := lst_rel rl1 rv ex
    refine ⟨.inl ⟨rfl, vs, by rw [hK]; exact sq⟩, ?_⟩
    exact ha.run w tk σ h1 m1 τ H1 _ rl1 (rs.mono e1) (Post.bind p1 fun us h2 m2 H2 ws _ e2 rl2 rvs p2 => og x us h2 m2 H2 _ ws Q _ rl2 (RV.mono e2 x rv) rvs p2)
  · exact p1.elim

def mAppend : GM := fun x us h => match x, us with
  | .ref a, [y] => match h[a]? with
    | some (.lst xs) => if xs.length < sizeLine then .ok .non (h.set a (.lst (xs ++ [y]))) else .bad
    | _ => .bad
  | _, _ => .bad
theorem o_append : OpM W rAppend mAppend := by
  intro x us h m H v vs Q E rl rv rvs p
  unfold mAppend at p
  split at p
  · rename_i a y
    split at p
    · rename_i xs e1
      split at p
      · rename_i hz
        obtain ⟨pa, va, rfl, ma, ha, ra⟩ := rl.lst rv e1
        obtain ⟨w, r, rfl, q1, q2⟩ := rvs.inv_cons
        rw [q2.inv_nil]
        exact ⟨pa, va, w, rfl, rfl, ha, by rw [← ra.length]; exact hz, put_lst rl e1 ma (ra.append (.cons q1 .nil)) .mk_non p⟩
      · exact p.elim
    · exact p.elim
  · exact p.elim
def mPop : GM := fun x us h => match x, us with
  | .ref a, [] => match h[a]? with
    | some (.lst xs) => match xs.getLast? with | some y => .ok y (h.set a (.lst xs.dropLast)) | none => .bad
    | _ => .bad
  | .ref a, [.int i] => match h[a]? with
    | some (.lst xs) => if -9223372036854775808 ≤ i ∧ i < 9223372036854775808 then match ixN xs.length i with
        | some k => match xs[k]? with | some y => .ok y (h.set a (.lst (xs.eraseIdx k))) | none => .bad
        | none => .bad
      else .bad
    | _ => .bad
  | _, _ => .bad
theorem o_pop : OpM W (fun x vs H Q => rPop x vs H Q ∨ rPopAt x vs H Q) mPop := by
  intro x us h m H v vs Q E rl rv rvs p
  unfold mPop at p
  split at p
  · rename_i a
    split at p
    · rename_i xs e1
      split at p
      · rename_i y e2
        obtain ⟨pa, va, rfl, ma, ha, ra⟩ := rl.lst rv e1
        rw [rvs.inv_nil]
        rw [List.getLast?_eq_getElem?] at e2
        obtain ⟨w, h1, h2⟩ := ra.get e2
        rw [ra.length] at h1
        exact .inl ⟨pa, va, w, rfl, rfl, ha, h1, put_lst rl e1 ma ra.dropLast h2 p⟩
      · exact p.elim
    · exact p.elim
  · rename_i a i
    split at p
    · rename_i xs e1
      split at p
      · rename_i hb
        split at p
        · rename_i k ek
          split at p
          · rename_i y e2
            obtain ⟨pa, va, rfl, ma, ha, ra⟩ := rl.lst rv e1
            obtain ⟨w, r, rfl, q1, q2⟩ := rvs.inv_cons
            rw [q2.inv_nil, q1.int_inv]
            obtain ⟨w, h1, h2⟩ := ra.get e2
            exact .inr ⟨pa, va, i, k, w, rfl, rfl, ha, by omega, by omega, by rw [← ra.length]; exact (ixN_seq ek).1, h1, put_lst rl e1 ma (ra.eraseIdx k) h2 p⟩
          · exact p.elim
        · exact p.elim
      · exact p.elim
    · exact p.elim
  · exact p.elim
def mInsert : GM := fun x us h => match x, us with
  | .ref a, [.int i, y] => match h[a]? with
    | some (.lst xs) => if xs.length < sizeLine ∧ 0 ≤ i ∧ i < 9223372036854775808 then .ok .non (h.set a (.lst (xs.take i.toNat ++ [y] ++ xs.drop i.toNat))) else .bad
    | _ => .bad
  | _, _ => .bad
theorem o_insert : OpM W (fun x vs H Q => ∃ (l : Addr) (xs : List V) (i : Int) (y : V), x = .ref l ∧ vs = [.int i, y] ∧ H l = some (.lst xs) ∧ xs.length < sizeLine ∧ 0 ≤ i ∧ i < 2 ^ 63 ∧
    Q .non (upd H l (.lst (xs.take i.toNat ++ [y] ++ xs.drop i.toNat)))) mInsert := by
  intro x us h m H v vs Q E rl rv rvs p
  unfold mInsert at p
  split at p
  · rename_i a i y
    split at p
    · rename_i xs e1
      split at p
      · rename_i hz
        obtain ⟨pa, va, rfl, ma, ha, ra⟩ := rl.lst rv e1
        obtain ⟨w, r, rfl, q1, q2⟩ := rvs.inv_cons
        obtain ⟨w2, r, rfl, q3, q4⟩ := q2.inv_cons
        rw [q4.inv_nil, q1.int_inv]
        exact ⟨pa, va, i, w2, rfl, rfl, ha, by rw [← ra.length]; exact hz.1, hz.2.1, by omega, put_lst rl e1 ma (((ra.take _).append (.cons q3 .nil)).append (ra.drop _)) .mk_non p⟩
      · exact p.elim
    · exact p.elim
  · exact p.elim
def mExtend : GM := fun x us h => match x, us with
  | .ref a, [.ref b] => match h[a]?, h[b]? with
    | some (.lst xs), some (.lst ys) => if xs.length + ys.length ≤ sizeLine then .ok .non (h.set a (.lst (xs ++ ys))) else .bad
    | _, _ => .bad
  | _, _ => .bad
theorem o_extend : OpM W rExtend mExtend := by
  intro x us h m H v vs Q E rl rv rvs p
  unfold mExtend at p
  split at p
  · rename_i a b
    split at p
    · rename_i xs ys e1 e2
      split at p
      · rename_i hz
        obtain ⟨pa, va, rfl, ma, ha, ra⟩ := rl.lst rv e1
        obtain ⟨w, r, rfl, q1, q2⟩ := rvs.inv_cons
        rw [q2.inv_nil]
        obtain ⟨pb, vb, rfl, mb, hb, rb⟩ := rl.lst q1 e2
        exact ⟨pa, pb, va, vb, rfl, rfl, ha, hb, by rw [← ra.length, ← rb.length]; exact hz, put_lst rl e1 ma (ra.append rb) .mk_non p⟩
      · exact p.elim
    · exact p.elim
  · exact p.elim
def mReverse : GM := fun x us h => match x, us with
  | .ref a, [] => match h[a]? with
    | some (.lst xs) => .ok .non (h.set a (.lst xs.reverse))
    | _ => .bad
  | _, _ => .bad
theorem o_reverse : OpM W rReverse mReverse := by
  intro x us h m H v vs Q E rl rv rvs p
  unfold mReverse at p
  split at p
  · rename_i a
    split at p
    · rename_i xs e1
      obtain ⟨pa, va, rfl, ma, ha, ra⟩ := rl.lst rv e1
      rw [rvs.inv_nil]
      exact ⟨pa, va, rfl, rfl, ha, put_lst rl e1 ma ra.reverse .mk_non p⟩
    · exact p.elim
  · exact p.elim

/-! ### what is walked -/
variable {tg : Expr}
theorem PostI.bind {γ δ : Type} {R' : List Addr → Hp → γ → δ → Prop} {r : Res γ} {k : γ → Hb → Res Src} {m : List Addr} {H : Hp} {R : It → Hp → Prop} {E : Value → Option Addr → Hp → Prop}
    (p : PostI W (r.bind k) m H R E) {Q' : δ → Hp → Prop} (f : ∀ u h1 m1 H1 v, r = .ok u h1 → Ext m H m1 H1 → Rel W m1 h1 H1 → R' m1 H1 u v → PostI W (k u h1) m1 H1 R E → Q' v H1) : Post W R' r m H Q' E := by
  cases r with
  | ok u h' =>
    intro m' H' v e rl rv
    refine f u h' m' H' v rfl e rl rv ?_
    simp only [Res.bind] at p
    cases q : k u h' with
    | ok src h2 => rw [q] at p; exact fun m2 H2 J e2 => p m2 H2 J (e.trans e2)
    | ex x h2 => rw [q] at p; exact fun m2 H2 c d e2 => p m2 H2 c d (e.trans e2)
    | bad => rw [q] at p; exact p
  | ex x h' => exact p
  | bad => exact p
def srcU (h : Hb) : U → Option Src
  | .tup xs => some ⟨xs, fun _ => True⟩
  | .ref a => match h[a]? with
    | some (.lst xs) => some ⟨xs, fun h' => h'[a]? = some (.lst xs)⟩
    | some (.fro xs) => some ⟨xs, fun h' => h'[a]? = some (.fro xs)⟩
    | _ => none
  | _ => none
def iSeqk (x : U) (h : Hb) : Res Src := match srcU h x with | some src => .ok src h | none => .bad
def iSeq (fa : Ev) : Si := fun s h => (fa s h).bind iSeqk
theorem it_lst {m : List Addr} {H : Hp} {i : Nat} {a : Addr} {xs : List U} {o : O} (ho : o = .lst xs ∨ o = .fro xs) (hm : m[i]? = some a) : ItOk W ⟨xs, fun h' => h'[i]? = some o⟩ m H (Itl W.K a) := by
  have key : ∀ m1 h1 H1, Ext m H m1 H1 → Rel W m1 h1 H1 → h1[i]? = some o → ∃ vs, SqL W.K H1 a vs ∧ RVs W.K m1 H1 xs vs := fun m1 h1 H1 e rl hk => by
    have r := rl.at_ i o a hk (e.at hm)
    rcases ho with rfl | rfl
    · exact r.sql
    · exact r.sqf
  refine ⟨fun j m1 h1 H1 e rl hk hj => ?_, fun j m1 h1 H1 x H' e rl hk y hj => ?_, fun m1 h1 H1 e rl hk => ?_⟩
  · obtain ⟨vs, sq, rr⟩ := key m1 h1 H1 e rl hk
    have hj' : j < vs.length := by rw [← rr.length]; exact hj
    exact ⟨vs, vs[j], sq, List.getElem?_eq_getElem hj'⟩
  · obtain ⟨vs, sq, rr⟩ := key m1 h1 H1 e rl hk
    obtain ⟨rfl, y⟩ := y
    obtain ⟨u, h1, h2⟩ := rr.get' (y vs sq)
    exact ⟨u, h1, rl, .refl _ _, h2⟩
  · obtain ⟨vs, sq, rr⟩ := key m1 h1 H1 e rl hk
    exact ⟨vs, sq, by rw [← rr.length]; exact Nat.le_refl _⟩
theorem it_tup {m : List Addr} {H : Hp} {a : Addr} {xs : List U} {vs : List V} (t : TupAt W.K H a vs) (rr : RVs W.K m H xs vs) : ItOk W ⟨xs, fun _ => True⟩ m H (Itt W.K a) := by
  refine ⟨fun j m1 h1 H1 e rl hk hj => ?_, fun j m1 h1 H1 x H' e rl hk y hj => ?_, fun m1 h1 H1 e rl hk => ?_⟩
  · have hj' : j < vs.length := by rw [← rr.length]; exact hj
    exact ⟨vs, vs[j], (t.mono e).sq, List.getElem?_eq_getElem hj'⟩
  · obtain ⟨rfl, y⟩ := y
    obtain ⟨u, h1, h2⟩ := rr.get' (y vs (t.mono e).sq)
    exact ⟨u, h1, rl, .refl _ _, RV.mono e u h2⟩
  · exact ⟨vs, (t.mono e).sq, by rw [← rr.length]; exact Nat.le_refl _⟩
theorem si_seq (hK : X.K = W.K) (ha : SE W X a fa) : SI W X tg a (iSeq fa) := by
  refine ⟨fun w tk σ h m τ H R rl rs p => ?_⟩
  unfold iSeq at p
  cases q : fa σ h with
  | bad => rw [q] at p; exact p.elim
  | ex x h' =>
    refine ⟨_, pi_list (EvT.pe X a), ha.run w tk σ h m τ H _ rl rs ?_⟩
    rw [q] at p ⊢
    exact p
  | ok x h1 =>
    rw [q] at p
    simp only [bind_ok, iSeqk] at p
    have key : ∀ (te : TI), PI X tg a te → (∀ (R' : It → Hp → Prop) (v : V) (m1 : List Addr) (H1 : Hp), Ext m H m1 H1 → Rel W m1 h1 H1 → RV W.K m1 H1 x v → True) → True := fun _ _ _ => trivial
    cases x with
    | tup xs =>
      refine ⟨_, pi_tup (EvT.pe X a), ha.run w tk σ h m τ H _ rl rs ?_⟩
      rw [q]
      intro m1 H1 v e rl1 rv
      obtain ⟨pa, vs, rfl, t, rr⟩ := rv.tup_inv
      rw [hK]
      exact ⟨pa, rfl, ⟨vs, t.sq⟩, p m1 H1 _ e rl1 (it_tup t rr)⟩
    | ref i =>
      refine ⟨_, pi_list (EvT.pe X a), ha.run w tk σ h m τ H _ rl rs ?_⟩
      rw [q]
      intro m1 H1 v e rl1 rv
      obtain ⟨pa, rfl, hm⟩ := rv.ref_inv
      simp only [srcU] at p
      rw [hK]
      split at p
      · rename_i src e0
        split at e0
        · rename_i xs e2
          cases e0
          obtain ⟨vs, sq, rr⟩ := (rl1.at_ i _ pa e2 hm).sql
          exact ⟨pa, rfl, ⟨vs, sq⟩, p m1 H1 _ e rl1 (it_lst (.inl rfl) hm)⟩
        · rename_i xs e2
          cases e0
          obtain ⟨vs, sq, rr⟩ := (rl1.at_ i _ pa e2 hm).sqf
          exact ⟨pa, rfl, ⟨vs, sq⟩, p m1 H1 _ e rl1 (it_lst (.inr rfl) hm)⟩
        · cases e0
      · exact p.elim
    | _ => exact p.elim
/-! range -/
def rgU (lo : Int) (n : Nat) : List U := (List.range n).map fun k => .int (lo + (k : Nat))
theorem rgU_length (lo : Int) (n : Nat) : (rgU lo n).length = n := by simp [rgU]
theorem rgU_get {lo : Int} {n k : Nat} (h : k < n) : (rgU lo n)[k]? = some (.int (lo + k)) := by simp [rgU, h]
abbrev big62 (j : Int) : Prop := -4611686018427387904 ≤ j ∧ j < 4611686018427387904
noncomputable def rgS1 (us : List U) : Option Src := match us with
  | [.int j] => @ite _ (big62 j) (Classical.propDecidable _) (some ⟨rgU 0 j.toNat, fun _ => True⟩) none
  | _ => none
noncomputable def rgS2 (us : List U) : Option Src := match us with
  | [.int i, .int j] => @ite _ (big62 i ∧ big62 j) (Classical.propDecidable _) (some ⟨rgU i (j - i).toNat, fun _ => True⟩) none
  | _ => none
noncomputable def iRg1k (us : List U) (h : Hb) : Res Src := match rgS1 us with | some src => .ok src h | none => .bad
noncomputable def iRg1 (fs : Ea) : Si := fun s h => (fs s h).bind iRg1k
noncomputable def iRg2k (us : List U) (h : Hb) : Res Src := match rgS2 us with | some src => .ok src h | none => .bad
noncomputable def iRg2 (fs : Ea) : Si := fun s h => (fs s h).bind iRg2k
theorem it_rg {m : List Addr} {H : Hp} (lo : Int) (n : Nat) : ItOk W ⟨rgU lo n, fun _ => True⟩ m H (Itr lo n) := by
  refine ⟨fun j m1 h1 H1 e rl hk hj => ?_, fun j m1 h1 H1 x H' e rl hk y hj => ?_, fun m1 h1 H1 e rl hk => ?_⟩
  · show j < n; rw [← rgU_length lo n]; exact hj
  · obtain ⟨rfl, rfl⟩ := y
    exact ⟨_, rgU_get (by rw [← rgU_length lo n]; exact hj), rl, .refl _ _, .mk_int _⟩
  · show n ≤ (rgU lo n).length; rw [rgU_length]; exact Nat.le_refl _
theorem si_rg1 {p pos : Pos} (hg : Gl X "range") (hm : X.mg "range" = none) (ha : SA W X [a] fs) (hs : starEach [a] X.env = [(false, eval a X.env)]) : SI W X tg (.Call (.Name "range" p) [a] [] pos) (iRg1 fs) := by
  refine ⟨fun w tk σ h m τ H R rl rs q => ⟨_, pi_range1 hg hm (EvA.pa X [a]) hs, ?_⟩⟩
  refine ha.run w tk σ h m τ H _ rl rs (PostI.bind q fun us h1 m1 H1 vs e0 e rl1 rv q1 => ?_)
  unfold iRg1k at q1
  split at q1
  · rename_i src es
    simp only [rgS1] at es
    split at es
    · split at es
      · rename_i j hb
        cases es
        obtain ⟨v, r, rfl, a, b⟩ := rv.inv_cons
        rw [b.inv_nil, a.int_inv]
        exact ⟨j, rfl, by omega, by omega, q1 m1 H1 _ (.refl _ _) rl1 (it_rg 0 _)⟩
      · cases es
    · cases es
  · exact q1.elim
theorem si_rg2 {p pos : Pos} (hg : Gl X "range") (hm : X.mg "range" = none) (ha : SA W X [a, b] fs) (hs : starEach [a, b] X.env = [(false, eval a X.env), (false, eval b X.env)]) (hs2 : starEach [b] X.env = [(false, eval b X.env)]) : SI W X tg (.Call (.Name "range" p) [a, b] [] pos) (iRg2 fs) := by
  refine ⟨fun w tk σ h m τ H R rl rs q => ⟨_, pi_range2 hg hm (EvA.pa X [a, b]) hs hs2, ?_⟩⟩
  refine ha.run w tk σ h m τ H _ rl rs (PostI.bind q fun us h1 m1 H1 vs e0 e rl1 rv q1 => ?_)
  unfold iRg2k at q1
  split at q1
  · rename_i src es
    simp only [rgS2] at es
    split at es
    · split at es
      · rename_i i j hb
        cases es
        obtain ⟨v, r, rfl, a, b⟩ := rv.inv_cons
        obtain ⟨v2, r, rfl, a2, b⟩ := b.inv_cons
        rw [b.inv_nil, a.int_inv, a2.int_inv]
        exact ⟨i, j, rfl, ⟨by omega, by omega, by omega, by omega⟩, q1 m1 H1 _ (.refl _ _) rl1 (it_rg i _)⟩
      · cases es
    · cases es
  · exact q1.elim
/-! enumerate(list) -/
def enU (xs : List U) : List U := (List.range xs.length).map fun k => .tup [.int (k : Nat), xs.getD k .non]
theorem enU_length (xs : List U) : (enU xs).length = xs.length := by simp [enU]
theorem enU_get {xs : List U} {k : Nat} {u : U} (h : xs[k]? = some u) : (enU xs)[k]? = some (.tup [.int k, u]) := by
  have hk : k < xs.length := (List.getElem?_eq_some_iff.mp h).1
  have hx : xs[k] = u := by rw [List.getElem?_eq_getElem hk] at h; exact Option.some.inj h
  simp [enU, hk, hx]
def iEnk (x : U) (h : Hb) : Res Src := match x with
  | .ref a => match h[a]? with
    | some (.lst xs) => .ok ⟨enU xs, fun h' => h'[a]? = some (.lst xs)⟩ h
    | _ => .bad
  | _ => .bad
def iEn (fa : Ev) : Si := fun s h => (fa s h).bind iEnk
theorem it_en {m : List Addr} {H : Hp} {i : Nat} {a : Addr} {xs : List U} (hm : m[i]? = some a) : ItOk W ⟨enU xs, fun h' => h'[i]? = some (.lst xs)⟩ m H (Ite W.K a) := by
  have key : ∀ m1 h1 H1, Ext m H m1 H1 → Rel W m1 h1 H1 → h1[i]? = some (.lst xs) → ∃ vs, SqL W.K H1 a vs ∧ RVs W.K m1 H1 xs vs := fun m1 h1 H1 e rl hk => (rl.at_ i _ a hk (e.at hm)).sql
  refine ⟨fun j m1 h1 H1 e rl hk hj => ?_, fun j m1 h1 H1 x H' e rl hk y hj => ?_, fun m1 h1 H1 e rl hk => ?_⟩
  · obtain ⟨vs, sq, rr⟩ := key m1 h1 H1 e rl hk
    have hj' : j < vs.length := by rw [← rr.length]; rw [enU_length] at hj; exact hj
    exact ⟨vs, vs[j], sq, List.getElem?_eq_getElem hj'⟩
  · obtain ⟨vs, sq, rr⟩ := key m1 h1 H1 e rl hk
    obtain ⟨T, x, rfl, nT, rfl, y⟩ := y
    obtain ⟨u, h1, h2⟩ := rr.get' (y vs sq)
    obtain ⟨rl2, e2⟩ := rl.junk (o := .tup [.int (j : Nat), x]) nT
    exact ⟨_, enU_get h1, rl2, e2, .mk_tup (.inl upd_same) (.cons (.mk_int _) (.cons (RV.mono e2 u h2) .nil))⟩
  · obtain ⟨vs, sq, rr⟩ := key m1 h1 H1 e rl hk
    exact ⟨vs, sq, by rw [enU_length, ← rr.length]; exact Nat.le_refl _⟩
theorem si_en {p pos tpos : Pos} {elts : List Expr} {kk : Nat} (hK : X.K = W.K) (hg : Gl X "enumerate") (hm : X.mg "enumerate" = none) (ha : SE W X a fa) (hs : starEach [a] X.env = [(false, eval a X.env)]) :
    SI W X (.Tuple elts kk tpos) (.Call (.Name "enumerate" p) [a] [] pos) (iEn fa) := by
  refine ⟨fun w tk σ h m τ H R rl rs q => ⟨_, pi_enum hg hm (pa_cons (EvT.pe X a) pa_nil hs) hs, ?_⟩⟩
  refine ha.run w tk σ h m τ H _ rl rs (PostI.bind q fun x h1 m1 H1 v e0 e rl1 rv q1 => ?_)
  cases x with
  | ref i =>
    simp only [iEnk] at q1
    split at q1
    · rename_i xs ex
      obtain ⟨pa, hv, rfl, hm, hl, rr⟩ := rl1.lst rv ex
      exact ⟨pa, _, rfl, by rw [hK]; exact .inl (.inl hl), by rw [hK]; exact q1 m1 H1 _ (.refl _ _) rl1 (it_en hm)⟩
    · exact q1.elim
  | _ => exact q1.elim

/-! ### targets of names alone -/
abbrev Tn := U → Sg → Option Sg
structure SN (W : Wd) (X : Cx) (t : Expr) (g : Tn) (vs : List Nat) : Prop where
  run : ∀ (u : U) (v : V) (σ σ' : Sg) (h : Hb) (m : List Addr) (τ : L2.St) (H : Hp) (Q : L2.St → Hp → Prop), Rel W m h H → RS W.K m H σ τ → RV W.K m H u v → g u σ = some σ' →
    (∀ τ', RS W.K m H σ' τ' → L2.wipe τ' vs = L2.wipe τ vs → Q τ' H) → EvG X t v τ H Q
structure SNs (W : Wd) (X : Cx) (t : List Expr) (g : List U → Sg → Option Sg) (vs : List Nat) : Prop where
  run : ∀ (u : List U) (v : List V) (σ σ' : Sg) (h : Hb) (m : List Addr) (τ : L2.St) (H : Hp) (Q : L2.St → Hp → Prop), Rel W m h H → RS W.K m H σ τ → RVs W.K m H u v → g u σ = some σ' →
    (∀ τ', RS W.K m H σ' τ' → L2.wipe τ' vs = L2.wipe τ vs → Q τ' H) → EvGs X t v τ H Q
def nNm (i : Nat) : Tn := fun u s => some (s.set i (some u))
def nsNil : List U → Sg → Option Sg := fun us s => match us with | [] => some s | _ => none
def nsCons (g : Tn) (gs : List U → Sg → Option Sg) : List U → Sg → Option Sg := fun us s => match us with | u :: r => (g u s).bind (gs r) | [] => none
def nTp (n : Nat) (gs : List U → Sg → Option Sg) : Tn := fun u s => match u with | .tup us => if us.length = n then gs us s else none | _ => none
theorem wipe_get (τ : L2.St) : ∀ (vs : List Nat) (j : Nat), (L2.wipe τ vs)[j]? = if j ∈ vs then (τ[j]?).map (fun _ => none) else τ[j]?
  | [], j => by simp [L2.wipe]
  | v :: vs, j => by
    unfold L2.wipe
    by_cases hv : v = j
    · subst hv
      rw [if_pos List.mem_cons_self]
      by_cases hl : v < τ.length
      · rw [List.getElem?_set_self (by rw [L2.wipe_length]; exact hl), List.getElem?_eq_getElem hl]
        rfl
      · rw [List.getElem?_eq_none (by rw [List.length_set, L2.wipe_length]; omega), List.getElem?_eq_none (by omega)]
        rfl
    · rw [List.getElem?_set_ne hv, wipe_get τ vs j]
      have : j ∈ v :: vs ↔ j ∈ vs := by simp [Ne.symm hv]
      simp [this]
theorem wipe_set {τ : L2.St} {i : Nat} {x : Option V} {vs : List Nat} (hi : i ∈ vs) : L2.wipe (τ.set i x) vs = L2.wipe τ vs := by
  apply List.ext_getElem?
  intro j
  rw [wipe_get, wipe_get]
  by_cases hj : j ∈ vs
  · rw [if_pos hj, if_pos hj]
    by_cases e : i = j
    · subst e
      rw [List.getElem?_set, if_pos rfl]
      by_cases hl : i < τ.length
      · simp [hl]
      · simp [hl, List.getElem?_eq_none (Nat.le_of_not_lt hl)]
    · rw [List.getElem?_set_ne e]
  · have e : i ≠ j := fun z => hj (z ▸ hi)
    rw [if_neg hj, if_neg hj, List.getElem?_set_ne e]
theorem sn_name {i : Nat} {x : Str} {vs : List Nat} (hN : X.N.Nodup) (hi : X.N[i]? = some x) (hx : Loc X.env.scope x) (hf : X.fn x = true ∨ X.env.scope.names.lookup x = some .local) (hv : i ∈ vs) : SN W X (.Name x pos) (nNm i) vs :=
  ⟨fun u v σ σ' h m τ H Q rl rs rv e k => ⟨_, pg_name hN hi hx hf, by cases e; exact k _ (RS.set rv i rs) (wipe_set hv)⟩⟩
theorem sns_nil {vs : List Nat} : SNs W X [] nsNil vs := ⟨fun u v σ σ' h m τ H Q rl rs rv e k => by
  cases u with
  | nil => cases e; rw [rv.inv_nil]; exact ⟨_, pgs_nil, rfl, k τ rs rfl⟩
  | cons _ _ => cases e⟩
theorem sns_cons {g : Tn} {gs : List U → Sg → Option Sg} {vs : List Nat} (h1 : SN W X e g vs) (h2 : SNs W X es gs vs) (hs : (assignEach (e :: es) X.env).map (·.2) = assign e X.env :: (assignEach es X.env).map (·.2)) : SNs W X (e :: es) (nsCons g gs) vs := ⟨fun u v σ σ' h m τ H Q rl rs rv eq k => by
  cases u with
  | nil => cases eq
  | cons u r =>
    obtain ⟨x, y, rfl, a, b⟩ := rv.inv_cons
    simp only [nsCons] at eq
    cases q : g u σ with
    | none => rw [q] at eq; cases eq
    | some s1 =>
      rw [q] at eq
      refine ⟨_, pgs_cons (EvG.pg X e) (EvGs.pgs X es) hs, x, y, rfl, h1.run u x σ s1 h m τ H _ rl rs a q fun τ1 rs1 w1 => ?_⟩
      exact h2.run r y s1 σ' h m τ1 H Q rl rs1 b eq fun τ2 rs2 w2 => k τ2 rs2 (w2.trans w1)⟩
theorem sn_tup {k : Nat} {gs : List U → Sg → Option Sg} {n : Nat} {vs : List Nat} (hK : X.K = W.K) (hc : X.calm = true) (hg : SNs W X es gs vs) (hn : (assignEach es X.env).length = n) (hst : (assignEach es X.env).findIdx? (·.1) = none) : SN W X (.Tuple es k pos) (nTp n gs) vs := ⟨fun u v σ σ' h m τ H Q rl rs rv e kk => by
  cases u with
  | tup us =>
    obtain ⟨a, ws, rfl, t, r⟩ := rv.tup_inv
    simp only [nTp] at e
    split at e
    · rename_i hl
      exact ⟨_, pg_tup hc (EvGs.pgs X es) hn hst, a, ws, rfl, by rw [hK]; exact t.sq, by rw [← r.length]; exact hl, hg.run us ws σ σ' h m τ H Q rl rs r e kk⟩
    · cases e
  | _ => cases e⟩
def gN (g : Tn) : Tg := fun u s h => match g u s with | some s' => .nx s' h | none => .bad
theorem SN.sg {t : Expr} {g : Tn} {vs : List Nat} (n : SN W X t g vs) : SG W X t (gN g) := ⟨fun w tk u v σ h m τ H Q rl rs rv p => by
  simp only [gN] at p
  split at p
  · rename_i s' e
    exact n.run u v σ s' h m τ H Q rl rs rv e fun τ' rs' _ => p m H τ' (.refl _ _) rl rs'
  · exact p.elim⟩
theorem on_gN {g : Tn} : OnlyNx (gN g) := fun u s h => by
  simp only [gN]
  cases g u s <;> simp

/-! ### list comprehensions -/
def lcA (D : Nat) (k : Hb → Res Unit) (y : U) (h : Hb) : Res Unit := match h[D]? with
  | some (.lst acc) => if acc.length < sizeLine then k (h.set D (.lst (acc ++ [y]))) else .bad
  | _ => .bad
def lcB (fe : Ev) (D : Nat) (s2 : Sg) (k : Hb → Res Unit) (b : Bool) (h : Hb) : Res Unit := match b with
  | true => (fe s2 h).calm.bind (lcA D k)
  | false => k h
def lcT (tt : Eb) (fe : Ev) (D : Nat) (k : Hb → Res Unit) (h : Hb) (o : Option Sg) : Res Unit := match o with
  | some s2 => (tt s2 h).calm.bind (lcB fe D s2 k)
  | none => .bad
noncomputable def lcL (ok : Hb → Prop) (g : Tn) (own : List Nat) (tt : Eb) (fe : Ev) (D : Nat) (s : Sg) : List U → Hb → Res Unit
  | [], h => if ok h then .ok () h else .bad
  | x :: xs, h => if ok h then lcT tt fe D (lcL ok g own tt fe D s xs) h (g x (wipeG s own)) else .bad
def bYes : Eb := fun _ h => .ok true h
def lcE (D : Nat) (_ : Unit) (h : Hb) : Res U := .ok (.ref D) h
noncomputable def lcK (g : Tn) (own : List Nat) (tt : Eb) (fe : Ev) (s : Sg) (src : Src) (h : Hb) : Res U := (lcL src.ok g own tt fe h.length s src.xs (h ++ [.lst []])).bind (lcE h.length)
noncomputable def eLc (fi : Si) (g : Tn) (own : List Nat) (tt : Eb) (fe : Ev) : Ev := fun s h => (fi s h).bind (lcK g own tt fe s)
abbrev BX (X : Cx) (scope : Scope) (s : Shared) (H : Hp) (C : Addr) (cl : List (Str × Addr)) (fp : List Addr) : Cx := X.blk s H scope (compEnvC scope cl C X.env) fp
structure STs (W : Wd) (X : Cx) (ifs : List Expr) (f : Eb) : Prop where
  run : ∀ (w : WX), Takes X w → ∀ (σ : Sg) (h : Hb) (m : List Addr) (τ : L2.St) (H : Hp) (Q : Bool → Hp → Prop), Rel W m h H → RS W.K m H σ τ → Post W REq (f σ h) m H Q (fun c d H' => w c d τ H') → ∃ t, PTs X ifs t ∧ t τ H Q
theorem sts_nil : STs W X [] bYes := ⟨fun w tk σ h m τ H Q rl rs p => ⟨_, pts_nil, p.ok rl rfl⟩⟩
theorem sts_one {f : Eb} (ha : SB W X a f) : STs W X [a] f := ⟨fun w tk σ h m τ H Q rl rs p => ⟨_, pts_one (EvB.pt X a), ha.run w tk σ h m τ H Q rl rs p⟩⟩
theorem Post.calm {α β γ δ : Type} {R : List Addr → Hp → α → β → Prop} {R' : List Addr → Hp → γ → δ → Prop} {r : Res γ} {k : γ → Hb → Res α} {m : List Addr} {H : Hp} {Q : β → Hp → Prop} {E E' : Value → Option Addr → Hp → Prop}
    (p : Post W R (r.calm.bind k) m H Q E) {Q' : δ → Hp → Prop} (f : ∀ u h1 m1 H1 v, r = .ok u h1 → Ext m H m1 H1 → Rel W m1 h1 H1 → R' m1 H1 u v → Post W R (k u h1) m1 H1 Q E → Q' v H1) : Post W R' r m H Q' E' := by
  cases r with
  | ok u h' => exact fun m' H' v e rl rv => f u h' m' H' v rfl e rl rv (Post.later p e)
  | ex x h' => exact p.elim
  | bad => exact p
theorem wipe_wipe (τ : L2.St) (vs : List Nat) : L2.wipe (L2.wipe τ vs) vs = L2.wipe τ vs := by
  apply List.ext_getElem?
  intro j
  rw [wipe_get, wipe_get]
  by_cases hj : j ∈ vs
  · rw [if_pos hj, if_pos hj, Option.map_map]
    rfl
  · rw [if_neg hj, if_neg hj]
theorem bind_calm_assoc {α β γ : Type} (r : Res α) (k : α → Hb → Res β) (l : β → Hb → Res γ) : (r.calm.bind k).bind l = r.calm.bind fun a h => (k a h).bind l := by
  cases r <;> rfl
section
variable {iter elt : Expr} {ifs : List Expr} {scope : Scope} {own : List (Str × Nat)} {fi : Si} {g : Tn} {tt : Eb}
/-- the reading of a comprehension -/
theorem lc_reads (hi : SI W X tg iter fi) (hg : ∀ s H C cl fp, SN W (BX X scope s H C cl fp) tg g (own.map (·.2))) (ht : ∀ s H C cl fp, STs W (BX X scope s H C cl fp) ifs tt) (he : ∀ s H C cl fp, SE W (BX X scope s H C cl fp) elt fe)
    {w : WX} (tk : Takes X w) {σ : Sg} {h : Hb} {m : List Addr} {τ : L2.St} {H : Hp} {Q : VK} (rl : Rel W m h H) (rs : RS W.K m H σ τ) (p : Post W (RV W.K) (eLc fi g (own.map (·.2)) tt fe σ h) m H Q (fun c d H' => w c d τ H')) :
    tLc (EvI X tg iter) (fun v t H Q => ∀ s H0 C cl fp, EvG (BX X scope s H0 C cl fp) tg v t H Q) (fun t H Q => ∀ s H0 C cl fp, ∃ tb, PTs (BX X scope s H0 C cl fp) ifs tb ∧ tb t H Q) (fun t H Q => ∀ s H0 C cl fp, EvT (BX X scope s H0 C cl fp) elt t H Q) (own.map (·.2)) τ H Q := by
  refine hi.run w tk σ h m τ H _ rl rs ?_
  unfold eLc at p
  cases q : fi σ h with
  | bad => rw [q] at p; exact p.elim
  | ex x h' => rw [q] at p; exact p
  | ok src h1 =>
    rw [q] at p
    intro m1 H1 J e1 rl1 it D hD
    simp only [bind_ok, lcK] at p
    have p := Post.later p e1
    obtain ⟨rl2, e2, hm2⟩ := rl1.alloc (o := .lst []) (q := .lst []) hD (fun m1 H1 e h1 => ⟨[], h1, .nil⟩)
    have p := Post.later p e2
    generalize hd : h1.length = d at p hm2
    refine ⟨fun i k H2 => ∃ m3 h3, i ≤ src.xs.length ∧ k = src.xs.length - i ∧ Ext (m1 ++ [D]) (upd H1 D (.lst [])) m3 H2 ∧ Rel W m3 h3 H2 ∧ Post W (RV W.K) ((lcL src.ok g (own.map (·.2)) tt fe d σ (src.xs.drop i) h3).bind (lcE d)) m3 H2 Q (fun c d H' => w c d τ H'),
      ⟨src.xs.length, m1 ++ [D], h1 ++ [.lst []], Nat.zero_le _, by simp, .refl _ _, rl2, by simpa using p⟩, ?_⟩
    rintro i k H2 ⟨m3, h3, hi3, rfl, e3, rl3, p3⟩
    by_cases hlt : i < src.xs.length
    · rw [List.drop_eq_getElem_cons hlt] at p3
      simp only [lcL] at p3
      split at p3
      · rename_i hok
        unfold lcT at p3
        split at p3
        · rename_i s2 eg
          refine .inr ⟨it.go i m3 h3 H2 (e2.trans e3) rl3 hok hlt, fun H' => ∃ m4 h4, i + 1 ≤ src.xs.length ∧ Ext (m1 ++ [D]) (upd H1 D (.lst [])) m4 H' ∧ Rel W m4 h4 H' ∧ Post W (RV W.K) ((lcL src.ok g (own.map (·.2)) tt fe d σ (src.xs.drop (i + 1)) h4).bind (lcE d)) m4 H' Q (fun c d H' => w c d τ H'),
            fun H' ⟨m4, h4, a1, a2, a3, a4⟩ => ⟨src.xs.length - (i + 1), by omega, m4, h4, a1, rfl, a2, a3, a4⟩, fun x H' y => ?_⟩
          obtain ⟨u, hu, rl4, e4, rv4⟩ := it.yld i m3 h3 H2 x H' (e2.trans e3) rl3 hok y hlt
          have hu' : src.xs[i] = u := by rw [List.getElem?_eq_getElem hlt] at hu; exact Option.some.inj hu
          rw [hu'] at eg
          have p3 := Post.later p3 e4
          have rsw : RS W.K m3 H' (wipeG σ (own.map (·.2))) (L2.wipe τ (own.map (·.2))) := RS.wipe (rs.mono (e1.trans (e2.trans (e3.trans e4)))) _
          intro sB HB C cl fp
          refine (hg sB HB C cl fp).run u x _ s2 h3 m3 _ H' _ rl4 rsw rv4 eg fun τ2 rs2 hw => ?_
          refine ⟨by rw [hw]; exact wipe_wipe _ _, ?_⟩
          -- the tests
          intro sB HB C cl fp
          have hT := (ht sB HB C cl fp).run (fun _ _ _ _ => False) takes0 s2 h3 m3 τ2 H' 
            (fun b H3 => if b = true then (∀ s H0 C cl fp, EvT (BX X scope s H0 C cl fp) elt τ2 H3 fun y H4 => ∃ acc, H4 D = some (.lst acc) ∧ acc.length < sizeLine ∧ (∃ m4 h4, i + 1 ≤ src.xs.length ∧ Ext (m1 ++ [D]) (upd H1 D (.lst [])) m4 (upd H4 D (.lst (acc ++ [y]))) ∧ Rel W m4 h4 (upd H4 D (.lst (acc ++ [y]))) ∧ Post W (RV W.K) ((lcL src.ok g (own.map (·.2)) tt fe d σ (src.xs.drop (i + 1)) h4).bind (lcE d)) m4 (upd H4 D (.lst (acc ++ [y]))) Q (fun c d H' => w c d τ H')))
              else ∃ m4 h4, i + 1 ≤ src.xs.length ∧ Ext (m1 ++ [D]) (upd H1 D (.lst [])) m4 H3 ∧ Rel W m4 h4 H3 ∧ Post W (RV W.K) ((lcL src.ok g (own.map (·.2)) tt fe d σ (src.xs.drop (i + 1)) h4).bind (lcE d)) m4 H3 Q (fun c d H' => w c d τ H')) rl4 rs2
          refine hT ?_
          rw [bind_calm_assoc] at p3
          refine Post.calm p3 fun b h5 m5 H5 b' eb e5 rl5 rb p5 => ?_
          have rb : b' = b := rb
          subst rb
          cases b' with
          | false =>
            rw [if_neg Bool.false_ne_true]
            exact ⟨m5, h5, hlt, e3.trans (e4.trans e5), rl5, p5⟩
          | true =>
            rw [if_pos rfl]
            intro sB HB C cl fp
            refine (he sB HB C cl fp).run (fun _ _ _ _ => False) takes0 s2 h5 m5 τ2 H5 _ rl5 (rs2.mono e5) ?_
            simp only [lcB] at p5
            rw [bind_calm_assoc] at p5
            refine Post.calm p5 fun y h6 m6 H6 yv ey e6 rl6 ry p6 => ?_
            unfold lcA at p6
            split at p6
            · rename_i acc ea
              split at p6
              · rename_i hz
                have hmD : m6[d]? = some D := (e3.trans (e4.trans (e5.trans e6))).at hm2
                obtain ⟨vacc, hl6, rr6⟩ := rl6.at_ d _ D ea hmD
                obtain ⟨rl7, e7⟩ := rl6.write (q := .lst (vacc ++ [yv])) ea (by intro _ z; cases z) (o' := .lst (acc ++ [y])) (by intro _ z; cases z) hmD (fun m1 H1 e h1 => ⟨_, h1, RVs.mono e _ (rr6.append (.cons ry .nil))⟩)
                exact ⟨vacc, hl6, by rw [← rr6.length]; exact hz, m6, _, hlt, (e3.trans (e4.trans (e5.trans (e6.trans e7)))), rl7, Post.later p6 e7⟩
              · exact p6.elim
            · exact p6.elim
        · exact p3.elim
      · exact p3.elim
    · have ei : i = src.xs.length := by omega
      subst ei
      rw [List.drop_length] at p3
      simp only [lcL] at p3
      split at p3
      · rename_i hok
        refine .inl ⟨it.stop m3 h3 H2 (e2.trans e3) rl3 hok, ?_⟩
        simp only [bind_ok, lcE] at p3
        refine p3.ok rl3 (v := .ref D) ?_
        unfold RV
        exact ⟨D, rfl, e3.at hm2⟩
      · exact p3.elim
end
end
end Lz
namespace Lz
open PySem PySem.Spec PyProof.Rows L2
open Classical

section
variable {W : Wd} {X : Cx} {tg iter elt : Expr} {ifs : List Expr} {scope : Scope} {own : List (Str × Nat)} {fi : Si} {g : Tn} {tt : Eb} {fe : Ev} {pos spos : Pos}
def EvBG (X : Cx) (scope : Scope) (tg : Expr) : TG := fun v t H Q => ∀ s H0 C cl fp, EvG (BX X scope s H0 C cl fp) tg v t H Q
def EvBT (X : Cx) (scope : Scope) (ifs : List Expr) : TT := fun t H Q => ∀ s H0 C cl fp, ∃ tb, PTs (BX X scope s H0 C cl fp) ifs tb ∧ tb t H Q
def EvBE (X : Cx) (scope : Scope) (elt : Expr) : TE := fun t H Q => ∀ s H0 C cl fp, EvT (BX X scope s H0 C cl fp) elt t H Q
theorem EvBG.pg (s : Shared) (H : Hp) (C : Addr) (cl : List (Str × Addr)) (fp : List Addr) : PG (BX X scope s H C cl fp) tg (EvBG X scope tg) := ⟨fun pins s' σ H' v u Q I r z => by obtain ⟨te, p, q⟩ := z s H C cl fp; exact p.run pins s' σ H' v u Q I r q⟩
theorem EvBT.pt (s : Shared) (H : Hp) (C : Addr) (cl : List (Str × Addr)) (fp : List Addr) : PTs (BX X scope s H C cl fp) ifs (EvBT X scope ifs) := ⟨fun pins s' σ H' Q I z => by obtain ⟨te, p, q⟩ := z s H C cl fp; exact p.run pins s' σ H' Q I q⟩
theorem EvBE.pe (s : Shared) (H : Hp) (C : Addr) (cl : List (Str × Addr)) (fp : List Addr) : PE (BX X scope s H C cl fp) elt (EvBE X scope elt) := ⟨fun pins s' σ H' Q I z => by obtain ⟨te, p, q⟩ := z s H C cl fp; exact p.run pins s' σ H' Q I q⟩
theorem se_lc (hc : X.calm = true) (hN : X.N.Nodup) (hi : SI W X tg iter fi) (ok : BlkOk X.N X.env.scope scope own) (hg : ∀ s H C cl fp, SN W (BX X scope s H C cl fp) tg g (own.map (·.2))) (ht : ∀ s H C cl fp, STs W (BX X scope s H C cl fp) ifs tt)
    (he : ∀ s H C cl fp, SE W (BX X scope s H C cl fp) elt fe) (hs : ∀ x, foldedSetIterable iter X.env x = pure x) : SE W X (.ListComp elt [⟨tg, iter, ifs, 0⟩] scope pos) (eLc fi g (own.map (·.2)) tt fe) := by
  exact ⟨fun w tk σ h m τ H Q rl rs p => ⟨_, pe_lc hc hN (EvI.pi X tg iter) ok EvBG.pg EvBT.pt EvBE.pe hs, lc_reads hi hg ht he tk rl rs p⟩⟩
theorem ss_setLc {i : Nat} {y : Str} {py : Pos} (hc : X.calm = true) (hN : X.N.Nodup) (hy : X.N[i]? = some y) (hyl : X.env.scope.names.lookup y = some .local)
    (hsw : swapsWith (.ListComp elt [⟨tg, iter, ifs, 0⟩] scope pos) (some (.Name y py)) spos.line X.env = pure true) (hi : SI W X tg iter fi) (ok : BlkOk X.N X.env.scope scope own) (hg : ∀ s H C cl fp, SN W (BX X scope s H C cl fp) tg g (own.map (·.2))) (ht : ∀ s H C cl fp, STs W (BX X scope s H C cl fp) ifs tt)
    (he : ∀ s H C cl fp, SE W (BX X scope s H C cl fp) elt fe) (hs : ∀ x, foldedSetIterable iter X.env x = pure x) : SS W X (.Assign [.Name y py] (.ListComp elt [⟨tg, iter, ifs, 0⟩] scope pos) spos) (sSet i (eLc fi g (own.map (·.2)) tt fe)) := by
  refine ⟨fun w tk σ h m τ H D rl rs p => ⟨_, ps_setLc hc hN hy hyl hsw (EvI.pi X tg iter) ok EvBG.pg EvBT.pt EvBE.pe hs, ?_⟩⟩
  refine lc_reads hi hg ht he tk rl rs (PostS.ahead (R := RV W.K) rs p fun u h1 m1 H1 v _ e rl1 rv p1 => ?_)
  exact p1 m1 H1 _ (.refl m1 H1) rl1 (RS.set rv i (rs.mono e))
end

/-! ### shapes of the text -/
def notStar : Expr → Bool
  | .Starred _ _ => false
  | _ => true
theorem star_cons {a : Expr} {es : List Expr} (h : notStar a = true) (env : Env) : starEach (a :: es) env = (false, eval a env) :: starEach es env := by
  cases a <;> first | exact absurd h Bool.false_ne_true | rfl
theorem star_any {es : List Expr} (h : es.all notStar = true) (env : Env) (pos : Pos) : (backTo pos (starEach es env)).any (·.1) = false := by
  induction es with
  | nil => rfl
  | cons a es ih =>
    simp only [List.all_cons, Bool.and_eq_true] at h
    rw [star_cons h.1]
    show (false || (backTo pos (starEach es env)).any (·.1)) = false
    rw [ih h.2]; rfl
theorem star_few {e : Expr} {es : List Expr} (h : (e :: es).all notStar = true) (hl : (e :: es).length < 29) (env : Env) (pos : Pos) :
    ((backTo pos (starEach (e :: es) env)).all (fun x => !x.1) && (backToKw pos (keywordEach [] env)).all (fun x => x.1.isSome)
      && decide ((e :: es).length + ([] : List Keyword).length + (if ([] : List Keyword).isEmpty then 0 else 1) < 30)) = true := by
  have h1 : ∀ l : List Expr, l.all notStar = true → (backTo pos (starEach l env)).all (fun x => !x.1) = true := by
    intro l
    induction l with
    | nil => intro _; rfl
    | cons a es ih =>
      intro h
      simp only [List.all_cons, Bool.and_eq_true] at h
      rw [star_cons h.1]
      show (true && (backTo pos (starEach es env)).all (fun x => !x.1)) = true
      rw [ih h.2]; rfl
  rw [h1 _ h]
  have h2 : (backToKw pos (keywordEach [] env)).all (fun x => x.1.isSome) = true := rfl
  rw [h2]
  simp at hl ⊢
  omega
def notSlice : Expr → Bool
  | .Slice _ _ _ _ => false
  | _ => true
theorem plain_ix {b : Expr} (h : notSlice b = true) : PlainIx b := by
  intro o i
  cases b <;> first | exact absurd h Bool.false_ne_true | rfl
def notComp : Expr → Bool
  | .ListComp .. => false
  | .SetComp .. => false
  | .DictComp .. => false
  | _ => true
theorem swaps_no {e : Expr} (h : notComp e = true) (t : Option Expr) (l : Nat) (env : Env) : swapsWith e t l env = pure false := by
  cases e <;> first | exact absurd h Bool.false_ne_true | rfl
def notSet : Expr → Bool
  | .Set .. => false
  | _ => true
theorem folded_no {e : Expr} (h : notSet e = true) (env : Env) (x : Value) : foldedSetIterable e env x = pure x := by
  cases e <;> first | exact absurd h Bool.false_ne_true | rfl
/-- the test of it is its value's truth -/
def plainTest : Expr → Bool
  | .UnaryOp .Not _ _ => false
  | .BoolOp .. => false
  | .IfExp .. => false
  | .Compare .. => false
  | _ => true
theorem test_plain {e : Expr} (h : plainTest e = true) (env : Env) : ∀ whole, isTrue e env whole = (do let v ← whole; standAt e.pos; holding [v] (truthy v)) := by
  intro w
  cases e with
  | UnaryOp op a p => cases op <;> first | exact absurd h Bool.false_ne_true | rfl
  | BoolOp => cases h
  | IfExp => cases h
  | Compare => cases h
  | _ => rfl

/-! ### the text's own names -/
def ixOf : List Str → Str → Option Nat
  | [], _ => none
  | y :: l, x => if y = x then some 0 else (ixOf l x).map (· + 1)
theorem ixOf_get : ∀ {l : List Str} {x : Str} {i : Nat}, ixOf l x = some i → l[i]? = some x
  | [], _, _, h => by cases h
  | y :: l, x, i, h => by
    unfold ixOf at h
    split at h
    · rename_i e
      cases h
      rw [e]; rfl
    · cases q : ixOf l x with
      | none => rw [q] at h; cases h
      | some j =>
        rw [q] at h
        cases h
        simpa using ixOf_get q

inductive GV where
  | bt
  | con (u : U)
  | fn (r : GC) (n : Nat) (ds : List U)
structure Ctx where
  N : List Str
  sc : Scope
  wr : List Str
  G : List (Str × GV)

/-- what a def promises: its run -/
def spOf (W : Wd) (n : Nat) (r : GC) : Sp := fun vs H Q E => vs.length = n ∧ ∃ m us h, Rel W m h H ∧ RVs W.K m H us vs ∧ Post W (RV W.K) (r us h) m H Q (fun c d H' => E c d H')
def GOk (W : Wd) (P : Program) (w : World) (mg : Str → Option Value) (base : Heap) (k : Nat) (x : Str) : GV → Prop
  | .bt => mg x = none
  | .con u => ∃ v z, mg x = some z ∧ RelV v z ∧ ∀ m H, RV W.K m H u v
  | .fn r n ds => (∀ us h, us.length ≠ n → r us h = .bad) ∧ ∃ f fd ps, mg x = some (.ref f) ∧ PySem.W.keepIn W.K (.ref f) = true ∧ FnOk P w W.K mg base (L2.CX P w) k f fd ps (spOf W n r) ∧ ps.length = n ∧
      ∀ j, j ≤ ds.length → ∃ dvs dus, Binds W.K fd ps dus ∧ Vals dvs dus ∧ ∀ m H, RVs W.K m H (ds.drop j) dvs
structure XOk (c : Ctx) (W : Wd) (k : Nat) (X : Cx) : Prop where
  hN : X.N = c.N
  sc : X.env.scope = c.sc
  hK : X.K = W.K
  calm : X.calm = true
  nd : X.N.Nodup
  fnc : ∀ x ∈ c.wr, Loc X.env.scope x → X.fn x = true ∨ X.env.scope.names.lookup x = some .local
  room : Room k X.A
  glob : ∀ x gv, c.G.lookup x = some gv → GOk W X.prog X.w X.mg X.base k x gv

/-- a slot that is read -/
def slotV (c : Ctx) (x : Str) : Option Nat := match c.sc.names.lookup x with
  | some .local => ixOf c.N x
  | some .cell => ixOf c.N x
  | some .free => ixOf c.N x
  | _ => none
/-- a slot that is written -/
def slotL (c : Ctx) (x : Str) : Option Nat := if x ∈ c.wr then match c.sc.names.lookup x with
  | some .local => ixOf c.N x
  | some .cell => ixOf c.N x
  | _ => none
  else none
theorem slotV_ok {c : Ctx} {W : Wd} {k : Nat} {X : Cx} (o : XOk c W k X) {x : Str} {i : Nat} (h : slotV c x = some i) : X.N[i]? = some x ∧ Vis X.env.scope x := by
  unfold slotV at h
  rw [o.hN]
  unfold Vis
  rw [o.sc]
  split at h
  · rename_i e; exact ⟨ixOf_get h, .inl e⟩
  · rename_i e; exact ⟨ixOf_get h, .inr (.inl e)⟩
  · rename_i e; exact ⟨ixOf_get h, .inr (.inr e)⟩
  · cases h
theorem slotL_ok {c : Ctx} {W : Wd} {k : Nat} {X : Cx} (o : XOk c W k X) {x : Str} {i : Nat} (h : slotL c x = some i) : X.N[i]? = some x ∧ Loc X.env.scope x ∧ (X.fn x = true ∨ X.env.scope.names.lookup x = some .local) := by
  unfold slotL at h
  split at h
  · rename_i hw
    have key : X.N[i]? = some x ∧ Loc X.env.scope x := by
      rw [o.hN]
      unfold L2.Loc
      rw [o.sc]
      split at h
      · rename_i e; exact ⟨ixOf_get h, .inl e⟩
      · rename_i e; exact ⟨ixOf_get h, .inr e⟩
      · cases h
    exact ⟨key.1, key.2, o.fnc x hw key.2⟩
  · cases h
def isGl (c : Ctx) (x : Str) : Bool := c.sc.names.lookup x == some .globalImplicit
theorem isGl_ok {c : Ctx} {W : Wd} {k : Nat} {X : Cx} (o : XOk c W k X) {x : Str} (h : isGl c x = true) : Gl X x := by
  unfold isGl at h
  have e : c.sc.names.lookup x = some .globalImplicit := by simpa using h
  show X.env.scope.names.lookup x = some .globalImplicit
  rw [o.sc]; exact e

/-! ### operators -/
noncomputable def binG : Operator → Option G2
  | .Add => some vAdd | .Sub => some vSub | .Mult => some vMul | .FloorDiv => some vDiv | .Mod => some vMod | .Pow => some vPow
  | _ => none
theorem se_binG {W : Wd} {X : Cx} {a b : Expr} {fa fb : Ev} {pos : Pos} {op : Operator} {g : G2} (hK : X.K = W.K) (h : binG op = some g) (ha : SE W X a fa) (hb : SE W X b fb) : SE W X (.BinOp a op b pos) (e2 g fa fb) := by
  cases op with
  | Add => cases h; exact se_bin op_addA (by rw [hK]; exact o_add) ha hb
  | Sub => cases h; exact se_bin op_subA o_sub ha hb
  | Mult => cases h; exact se_bin op_mulA o_mul ha hb
  | FloorDiv => cases h; exact se_bin op_divA o_div ha hb
  | Mod => cases h; exact se_bin op_modN o_mod ha hb
  | Pow => cases h; exact se_bin op_pow o_pow ha hb
  | _ => cases h
noncomputable def cmpG : CmpOp → Option G2
  | .Eq => some vEq | .NotEq => some vNe | .Lt => some vLt | .LtE => some vLe | .Gt => some vGt | .GtE => some vGe | .Is => some vIs | .IsNot => some vIsN
  | _ => none
/-- a comparison's rule -/
theorem cmpG_ok {W : Wd} {X : Cx} {op : CmpOp} {g : G2} (hK : X.K = W.K) (hu : X.A.units + 64 < cLine) (h : cmpG op = some g) : ∃ r, OpR X (compareOp op) r ∧ Op2 W r g ∧ op ≠ .In ∧ op ≠ .NotIn := by
  cases op with
  | Eq => cases h; exact ⟨_, op_eqA hu, by rw [hK]; exact o_eq, by decide, by decide⟩
  | NotEq => cases h; exact ⟨_, op_neA hu, by rw [hK]; exact o_ne, by decide, by decide⟩
  | Lt => cases h; exact ⟨_, op_lt, o_cmp, by decide, by decide⟩
  | LtE => cases h; exact ⟨_, op_le, o_cmp, by decide, by decide⟩
  | Gt => cases h; exact ⟨_, op_gt, o_cmp, by decide, by decide⟩
  | GtE => cases h; exact ⟨_, op_ge, o_cmp, by decide, by decide⟩
  | Is => cases h; exact ⟨_, op_isN, o_is, by decide, by decide⟩
  | IsNot => cases h; exact ⟨_, op_notN, o_isN, by decide, by decide⟩
  | _ => cases h

/-! ### built-ins by name -/
structure BT where
  nm : Str
  ty : Bool
  id : String
  g : GC
noncomputable def btab : List BT := [⟨"len", false, "len", cLen⟩, ⟨"int", true, "int", cInt⟩, ⟨"all", false, "all", cAll⟩, ⟨"any", false, "any", cAny⟩, ⟨"tuple", true, "tuple", cTup⟩, ⟨"list", true, "list", cLst⟩, ⟨"sum", false, "sum", cSum⟩,
  ⟨"max", false, "max", cMax⟩, ⟨"min", false, "min", cMin⟩, ⟨"abs", false, "abs", cAbs⟩]
def bval (b : BT) : Value := if b.ty then .type b.id else .builtin b.id
theorem btab_ok {W : Wd} {X : Cx} (hK : X.K = W.K) (hc : X.calm = true) : ∀ b ∈ btab, bootBuiltins b.nm = some (bval b) ∧ b.nm ≠ "__name__" ∧ (b.nm == ("__debug__" : Str)) = false ∧ ∃ r, CallR X (bval b) r ∧ OpC W r b.g := by
  intro b hb
  simp only [btab, List.mem_cons, List.not_mem_nil, or_false] at hb
  rcases hb with rfl | rfl | rfl | rfl | rfl | rfl | rfl | rfl | rfl | rfl
  · exact ⟨PySem.boot_len, by decide, by decide, _, call_len, by rw [hK]; exact o_len⟩
  · exact ⟨PyProof.Rows.boot_int, by decide, by decide, _, call_int1, o_cint⟩
  · exact ⟨by decide +kernel, by decide, by decide, _, cr_all hc, by rw [hK]; exact o_cB⟩
  · exact ⟨by decide +kernel, by decide, by decide, _, cr_any hc, by rw [hK]; exact o_cB⟩
  · exact ⟨by decide +kernel, by decide, by decide, _, call_tuple_of, by rw [hK]; exact o_ctup⟩
  · exact ⟨by decide +kernel, by decide, by decide, _, call_list_of, by rw [hK]; exact o_clst⟩
  · exact ⟨by decide +kernel, by decide, by decide, _, cr_sum hc, by rw [hK]; exact o_sum⟩
  · exact ⟨by decide +kernel, by decide, by decide, _, CallR.or (call_max2 hc) (cr_max hc), by rw [hK]; exact o_max⟩
  · exact ⟨by decide +kernel, by decide, by decide, _, CallR.or (call_min2 hc) (cr_min hc), by rw [hK]; exact o_min⟩
  · exact ⟨by decide +kernel, by decide, by decide, _, call_abs, o_abs⟩
noncomputable def findB (x : Str) : Option BT := btab.find? fun b => b.nm == x
theorem findB_ok {x : Str} {b : BT} (h : findB x = some b) : b ∈ btab ∧ b.nm = x := ⟨List.mem_of_find?_eq_some h, by simpa using List.find?_some h⟩
theorem se_builtin {W : Wd} {X : Cx} {e : Expr} {es : List Expr} {fs : Ea} {p pos : Pos} {x : Str} {b : BT} (hK : X.K = W.K) (hc : X.calm = true) (h : findB x = some b) (hg : Gl X x) (hm : X.mg x = none) (ha : SA W X (e :: es) fs) (hs : (e :: es).all notStar = true) :
    SE W X (.Call (.Name x p) (e :: es) [] pos) (eC b.g fs) := by
  obtain ⟨mem, rfl⟩ := findB_ok h
  obtain ⟨h1, h2, h3, r, h4, h5⟩ := btab_ok hK hc b mem
  simp only [List.all_cons, Bool.and_eq_true] at hs
  unfold bval at h1 h4
  split at h1
  · rename_i ht
    rw [if_pos ht] at h4
    exact se_callTy h4 h5 hg hm h1 ha h2 h3 (star_cons hs.1 _) (star_any hs.2 _ _)
  · rename_i ht
    rw [if_neg ht] at h4
    exact se_callB h4 h5 hg hm h1 ha h2 h3 (star_cons hs.1 _) (star_any hs.2 _ _)
/-- a def of the text is called -/
theorem se_def {W : Wd} {X : Cx} {e : Expr} {es : List Expr} {fs : Ea} {p pos : Pos} {x : Str} {k n j : Nat} {r : GC} {ds : List U} (hK : X.K = W.K) (hr : Room k X.A) (ok : GOk W X.prog X.w X.mg X.base k x (.fn r n ds)) (hj : j ≤ ds.length) (hg : Gl X x) (hdb : (x == ("__debug__" : Str)) = false)
    (ha : SA W X (e :: es) fs) (hs : (e :: es).all notStar = true) : SE W X (.Call (.Name x p) (e :: es) [] pos) (eC (fun us h => r (us ++ ds.drop j) h) fs) := by
  obtain ⟨ar, f, fd, ps, hm, hk, F, hl, hb⟩ := ok
  obtain ⟨dvs, dus, b1, b2, b3⟩ := hb j hj
  simp only [List.all_cons, Bool.and_eq_true] at hs
  have F' : FnOk X.prog X.w X.K X.mg X.base (L2.CX X.prog X.w) k f fd ps (spOf W n r) := by rw [hK]; exact F
  refine ⟨fun w tk σ h m τ H Q rl rs q => ⟨_, pe_callSD (E := WE w) F' hr hg hm (by rw [hK]; exact hk) (by rw [hK]; exact b1) b2 (fun σ => passAt tk σ) (EvA.pa X _) hdb (star_cons hs.1 _) (star_any hs.2 _ _), ?_⟩⟩
  refine ha.run w tk σ h m τ H _ rl rs (Post.bind q fun us h1 m1 H1 vs _ e1 rl1 rv q1 => ?_)
  have rv2 := rv.append (b3 m1 H1)
  refine ⟨?_, m1, us ++ ds.drop j, h1, rl1, rv2, q1⟩
  rw [← rv2.length]
  apply Classical.byContradiction
  intro hn
  have q1 : Post W (RV W.K) (r (us ++ ds.drop j) h1) m1 H1 Q _ := q1
  rw [ar _ _ hn] at q1
  exact q1

/-! ### methods by name -/
structure MB where
  nm : Str
  id : String
  g : GM
noncomputable def mtab : List MB := [⟨"append", "list.append", mAppend⟩, ⟨"pop", "list.pop", mPop⟩, ⟨"insert", "list.insert", mInsert⟩, ⟨"extend", "list.extend", mExtend⟩, ⟨"reverse", "list.reverse", mReverse⟩]
theorem mtab_ok {W : Wd} {X : Cx} : ∀ b ∈ mtab, Slot "list" b.nm b.id ∧ typeOf (.builtin b.id) = pure (.type "method_descriptor") ∧ ∃ r, MtR X b.id r ∧ OpM W r b.g := by
  intro b hb
  simp only [mtab, List.mem_cons, List.not_mem_nil, or_false] at hb
  rcases hb with rfl | rfl | rfl | rfl | rfl
  · exact ⟨PySem.F.slot_list_append, PySem.F.type_list_append, _, mt_append, o_append⟩
  · exact ⟨PySem.F.slot_list_pop, PySem.F.type_list_pop, _, MtR.or mt_pop mt_popAt, o_pop⟩
  · exact ⟨PySem.F.slot_list_insert, PySem.F.type_list_insert, _, mt_insert, o_insert⟩
  · exact ⟨PySem.F.slot_list_extend, PySem.F.type_list_extend, _, mt_extend, o_extend⟩
  · exact ⟨PySem.F.slot_list_reverse, PySem.F.type_list_reverse, _, mt_reverse, o_reverse⟩
noncomputable def findM (x : Str) : Option MB := mtab.find? fun b => b.nm == x
theorem findM_ok {x : Str} {b : MB} (h : findM x = some b) : b ∈ mtab ∧ b.nm = x := ⟨List.mem_of_find?_eq_some h, by simpa using List.find?_some h⟩
end Lz
namespace Lz
open PySem PySem.Spec PyProof.Rows L2
open Classical

/-! ### from the text to its meaning -/
abbrev CE := Ctx → Expr → Option Ev
abbrev CB := Ctx → Expr → Option Eb
def SoundE (k : Nat) (W : Wd) (f : CE) : Prop := ∀ c X e v, XOk c W k X → f c e = some v → SE W X e v
def SoundB (k : Nat) (W : Wd) (f : CB) : Prop := ∀ c X e v, XOk c W k X → f c e = some v → SB W X e v

noncomputable def argsC (cE : CE) (c : Ctx) : List Expr → Option Ea
  | [] => some aNil
  | e :: es => if notStar e = true then match cE c e, argsC cE c es with
    | some f, some g => some (aCons f g)
    | _, _ => none
    else none
theorem argsC_ok {k : Nat} {W : Wd} {cE : CE} (sE : SoundE k W cE) {c : Ctx} {X : Cx} (o : XOk c W k X) : ∀ {es : List Expr} {f : Ea}, argsC cE c es = some f → SA W X es f ∧ es.all notStar = true
  | [], f, h => by cases h; exact ⟨sa_nil, rfl⟩
  | e :: es, f, h => by
    unfold argsC at h
    split at h
    · rename_i hs
      split at h
      · rename_i f1 g1 h1 h2
        cases h
        obtain ⟨a, b⟩ := argsC_ok sE o h2
        exact ⟨sa_cons (sE _ _ _ _ o h1) a (star_cons hs _), by simp [hs, b]⟩
      · cases h
    · cases h

/-! targets -/
def namesC (f : Expr → Option Tn) : List Expr → Option (List U → Sg → Option Sg)
  | [] => some nsNil
  | e :: es => if notStar e = true then match f e, namesC f es with
    | some g, some gs => some (nsCons g gs)
    | _, _ => none
    else none
def compN : Nat → Ctx → List Nat → Expr → Option Tn
  | 0, _, _, _ => none
  | n + 1, c, vs, e => match e with
    | .Name x _ => match slotL c x with
      | some i => if i ∈ vs then some (nNm i) else none
      | none => none
    | .Tuple es _ _ => match namesC (compN n c vs) es with
      | some gs => some (nTp es.length gs)
      | none => none
    | _ => none
theorem assign_cons {a : Expr} {es : List Expr} (h : notStar a = true) (env : Env) : assignEach (a :: es) env = (false, assign a env) :: assignEach es env := by
  cases a <;> first | exact absurd h Bool.false_ne_true | rfl
theorem assign_all {es : List Expr} (h : es.all notStar = true) (env : Env) : (assignEach es env).length = es.length ∧ (assignEach es env).findIdx? (·.1) = none := by
  induction es with
  | nil => exact ⟨rfl, rfl⟩
  | cons a es ih =>
    simp only [List.all_cons, Bool.and_eq_true] at h
    rw [assign_cons h.1]
    obtain ⟨h1, h2⟩ := ih h.2
    refine ⟨by simp [h1], ?_⟩
    simp [List.findIdx?_cons, h2]
theorem namesC_ok {W : Wd} {X : Cx} {vs : List Nat} {f : Expr → Option Tn} (hf : ∀ e g, f e = some g → SN W X e g vs) : ∀ {es : List Expr} {g : List U → Sg → Option Sg}, namesC f es = some g → SNs W X es g vs ∧ es.all notStar = true
  | [], g, h => by cases h; exact ⟨sns_nil, rfl⟩
  | e :: es, g, h => by
    unfold namesC at h
    split at h
    · rename_i hs
      split at h
      · rename_i f1 g1 h1 h2
        cases h
        obtain ⟨a, b⟩ := namesC_ok hf h2
        exact ⟨sns_cons (hf _ _ h1) a (by rw [assign_cons hs]; rfl), by simp [hs, b]⟩
      · cases h
    · cases h
theorem compN_ok {k : Nat} {W : Wd} : ∀ (n : Nat) {c : Ctx} {X : Cx} (o : XOk c W k X) {vs : List Nat} {e : Expr} {g : Tn}, compN n c vs e = some g → SN W X e g vs
  | 0, _, _, _, _, _, _, h => by cases h
  | n + 1, c, X, o, vs, e, g, h => by
    unfold compN at h
    split at h
    · split at h
      · rename_i x p i hi
        split at h
        · rename_i hv
          cases h
          obtain ⟨h1, h2, h3⟩ := slotL_ok o hi
          exact sn_name o.nd h1 h2 h3 hv
        · cases h
      · cases h
    · split at h
      · rename_i gs hg
        cases h
        obtain ⟨a, b⟩ := namesC_ok (fun e g => compN_ok n o) hg
        obtain ⟨h1, h2⟩ := assign_all b X.env
        exact sn_tup o.hK o.calm a h1 h2
      · cases h
    · cases h

/-! what is walked -/
def isT : Expr → Bool
  | .Tuple .. => true
  | _ => false
noncomputable def compI (cE : CE) (c : Ctx) (tg : Expr) (e : Expr) : Option Si := match e with
  | .Call (.Name f p) [a] [] pos => if f = "range" then match c.G.lookup f, isGl c f, argsC cE c [a] with
      | some .bt, true, some g => some (iRg1 g)
      | _, _, _ => none
    else if f = "enumerate" then match c.G.lookup f, isGl c f, isT tg, notStar a, cE c a with
      | some .bt, true, true, true, some g => some (iEn g)
      | _, _, _, _, _ => none
    else match cE c (.Call (.Name f p) [a] [] pos) with
      | some g => some (iSeq g)
      | none => none
  | .Call (.Name f p) [a, b] [] pos => if f = "range" then match c.G.lookup f, isGl c f, argsC cE c [a, b] with
      | some .bt, true, some g => some (iRg2 g)
      | _, _, _ => none
    else match cE c (.Call (.Name f p) [a, b] [] pos) with
      | some g => some (iSeq g)
      | none => none
  | e => match cE c e with
    | some g => some (iSeq g)
    | none => none
theorem compI_ok {k : Nat} {W : Wd} {cE : CE} (sE : SoundE k W cE) {c : Ctx} {X : Cx} (o : XOk c W k X) {tg e : Expr} {f : Si} (h : compI cE c tg e = some f) : SI W X tg e f := by
  unfold compI at h
  split at h
  · split at h
    · rename_i ef
      subst ef
      split at h
      · rename_i g1 h1 h2 h3
        cases h
        obtain ⟨a, b⟩ := argsC_ok sE o h3
        simp only [List.all_cons, Bool.and_eq_true] at b
        exact si_rg1 (isGl_ok o h2) (o.glob _ _ h1) a (star_cons b.1 _)
      · cases h
    · split at h
      · rename_i ef
        subst ef
        split at h
        · rename_i g1 h1 h2 h3 h4 h5
          cases h
          cases tg with
          | Tuple es kk tp => exact si_en o.hK (isGl_ok o h2) (o.glob _ _ h1) (sE _ _ _ _ o h5) (star_cons h4 _)
          | _ => exact absurd h3 Bool.false_ne_true
        · cases h
      · split at h
        · rename_i g hg
          cases h
          exact si_seq o.hK (sE _ _ _ _ o hg)
        · cases h
  · split at h
    · rename_i ef
      subst ef
      split at h
      · rename_i g1 h1 h2 h3
        cases h
        obtain ⟨a, b⟩ := argsC_ok sE o h3
        simp only [List.all_cons, Bool.and_eq_true] at b
        exact si_rg2 (isGl_ok o h2) (o.glob _ _ h1) a (by rw [star_cons b.1, star_cons b.2.1]; rfl) (star_cons b.2.1 _)
      · cases h
    · split at h
      · rename_i g hg
        cases h
        exact si_seq o.hK (sE _ _ _ _ o hg)
      · cases h
  · split at h
    · rename_i g hg
      cases h
      exact si_seq o.hK (sE _ _ _ _ o hg)
    · cases h

/-! and, or -/
noncomputable def boolE (cE : CE) (c : Ctx) (op : BoolOp) : List Expr → Option Ev
  | [] => none
  | [a] => cE c a
  | a :: r => match cE c a, boolE cE c op r with
    | some f, some g => some (match op with | .And => eAnd f g | .Or => eOr f g)
    | _, _ => none
theorem boolE_ok {k : Nat} {W : Wd} {cE : CE} (sE : SoundE k W cE) {c : Ctx} {X : Cx} (o : XOk c W k X) {op : BoolOp} {pos : Pos} : ∀ {es : List Expr} {f : Ev}, boolE cE c op es = some f → SE W X (.BoolOp op es pos) f
  | [], f, h => by cases h
  | [a], f, h => se_one (sE _ _ _ _ o h)
  | a :: b :: r, f, h => by
    unfold boolE at h
    split at h
    · rename_i f1 g1 h1 h2
      cases h
      have ih := boolE_ok (pos := pos) sE o h2
      cases op with
      | And => exact se_and (sE _ _ _ _ o h1) ih
      | Or => exact se_or (sE _ _ _ _ o h1) ih
    · cases h
noncomputable def boolB (cB : CB) (c : Ctx) (op : BoolOp) : List Expr → Option Eb
  | [] => none
  | [a] => cB c a
  | a :: r => match cB c a, boolB cB c op r with
    | some f, some g => some (match op with | .And => bAnd f g | .Or => bOr f g)
    | _, _ => none
theorem boolB_ok {k : Nat} {W : Wd} {cB : CB} (sB : SoundB k W cB) {c : Ctx} {X : Cx} (o : XOk c W k X) {op : BoolOp} {pos : Pos} : ∀ {es : List Expr} {f : Eb}, boolB cB c op es = some f → SW W X (.BoolOp op es pos) f
  | [], f, h => by cases h
  | [a], f, h => by cases op with | And => exact sw_and1 (sB _ _ _ _ o h) | Or => exact sw_or1 (sB _ _ _ _ o h)
  | a :: b :: r, f, h => by
    unfold boolB at h
    split at h
    · rename_i f1 g1 h1 h2
      cases h
      have ih := boolB_ok (pos := pos) sB o h2
      cases op with
      | And => exact sw_and (sB _ _ _ _ o h1) ih
      | Or => exact sw_or (sB _ _ _ _ o h1) ih
    · cases h

/-! calls -/
def btyp : List (Str × String) := [("int", "int"), ("bool", "bool"), ("str", "str"), ("tuple", "tuple"), ("list", "list"), ("dict", "dict")]
def findT (T : Str) : Option String := (btyp.find? fun t => t.1 == T).map (·.2)
noncomputable def callC (cE : CE) (c : Ctx) (f : Str) (es : List Expr) : Option Ev := if isGl c f = true ∧ (f == ("__debug__" : Str)) = false then match c.G.lookup f with
  | some .bt => if f = "isinstance" then match es with
      | [a, .Name T _] => match c.G.lookup T, isGl c T, notStar a, cE c a, findT T with
        | some .bt, true, true, some g, some tn => some (e1 (isiU tn) g)
        | _, _, _, _, _ => none
      | _ => none
    else match findB f, es, argsC cE c es with
      | some b, _ :: _, some g => some (eC b.g g)
      | _, _, _ => none
  | some (.fn r n ds) => match es, argsC cE c es with
    | _ :: _, some g => if es.length = n then some (eC r g) else if es.length ≤ n ∧ n ≤ es.length + ds.length then some (eC (fun us h => r (us ++ ds.drop (ds.length - (n - es.length))) h) g) else none
    | _, _ => none
  | _ => none
  else none
theorem findT_ok {T : Str} {tn : String} (h : findT T = some tn) : bootBuiltins T = some (.type tn) ∧ T ≠ "__name__" ∧ (T == ("__debug__" : Str)) = false := by
  unfold findT at h
  obtain ⟨t, h1, h2⟩ := Option.map_eq_some_iff.mp h
  have hm := List.mem_of_find?_eq_some h1
  have he : t.1 = T := by simpa using List.find?_some h1
  subst he
  subst h2
  simp only [btyp, List.mem_cons, List.not_mem_nil, or_false] at hm
  rcases hm with rfl | rfl | rfl | rfl | rfl | rfl
  · exact ⟨PyProof.Rows.boot_int, by decide, by decide⟩
  · exact ⟨PyProof.Rows.boot_bool, by decide, by decide⟩
  · exact ⟨PyProof.Rows.boot_str, by decide, by decide⟩
  · exact ⟨PyProof.Rows.boot_tuple, by decide, by decide⟩
  · exact ⟨PyProof.Rows.boot_list, by decide, by decide⟩
  · exact ⟨PyProof.Rows.boot_dict, by decide, by decide⟩
theorem SE.congr {W : Wd} {X : Cx} {e : Expr} {f g : Ev} (h : SE W X e f) (q : f = g) : SE W X e g := q ▸ h
theorem callC_ok {k : Nat} {W : Wd} {cE : CE} (sE : SoundE k W cE) {c : Ctx} {X : Cx} (o : XOk c W k X) {f : Str} {es : List Expr} {v : Ev} {p pos : Pos} (h : callC cE c f es = some v) : SE W X (.Call (.Name f p) es [] pos) v := by
  unfold callC at h
  split at h
  · rename_i hg
    obtain ⟨hg, hdb⟩ := hg
    split at h
    · rename_i hbt
      split at h
      · rename_i ef
        subst ef
        split at h
        · split at h
          · rename_i a T pt g tn h1 h2 h3 h4 h5
            cases h
            obtain ⟨b1, b2, b3⟩ := findT_ok h5
            exact se_isi o.hK (sE _ _ _ _ o h4) (isGl_ok o hg) (o.glob _ _ hbt) (isGl_ok o h2) (o.glob _ _ h1) b1 b2 b3 (star_cons h3 _)
          · cases h
        · cases h
      · split at h
        · rename_i b e es g h1 h2
          cases h
          obtain ⟨a, q⟩ := argsC_ok sE o h2
          exact se_builtin o.hK o.calm h1 (isGl_ok o hg) (o.glob _ _ hbt) a q
        · cases h
    · rename_i r n ds hfn
      split at h
      · rename_i e es' g h1
        obtain ⟨a, q⟩ := argsC_ok sE o h1
        split at h
        · rename_i hl
          cases h
          refine (se_def (j := ds.length) o.hK o.room (o.glob _ _ hfn) (Nat.le_refl _) (isGl_ok o hg) hdb a q).congr ?_
          rw [List.drop_length]
          simp
        · split at h
          · cases h
            exact se_def o.hK o.room (o.glob _ _ hfn) (Nat.sub_le _ _) (isGl_ok o hg) hdb a q
          · cases h
      · cases h
    · cases h
  · cases h
noncomputable def methC (cE : CE) (c : Ctx) (ob : Expr) (m : Str) (ap cp : Pos) (es : List Expr) : Option Ev := if noSuper ob = true ∧ (ap.endLine == cp.line) = true ∧ es.length < 29 then match findM m, cE c ob, argsC cE c es with
  | some b, some f, some g => some (eM b.g f g)
  | _, _, _ => none
  else none
theorem methC_ok {k : Nat} {W : Wd} {cE : CE} (sE : SoundE k W cE) {c : Ctx} {X : Cx} (o : XOk c W k X) {ob : Expr} {m : Str} {ap cp : Pos} {es : List Expr} {v : Ev} (h : methC cE c ob m ap cp es = some v) : SE W X (.Call (.Attribute ob m ap) es [] cp) v := by
  unfold methC at h
  split at h
  · rename_i hc
    obtain ⟨c1, c2, c3⟩ := hc
    split at h
    · rename_i b f g h1 h2 h3
      cases h
      obtain ⟨mem, rfl⟩ := findM_ok h1
      obtain ⟨s1, s2, r, s3, s4⟩ := mtab_ok (W := W) (X := X) b mem
      cases es with
      | nil =>
        cases h3
        exact se_m0 o.hK PySem.F.plainAttrs_list s1 s2 s3 s4 (sE _ _ _ _ o h2) c1 c2
      | cons e es =>
        obtain ⟨a, q⟩ := argsC_ok sE o h3
        have q2 := q
        simp only [List.all_cons, Bool.and_eq_true] at q2
        exact se_m o.hK PySem.F.plainAttrs_list s1 s2 s3 s4 (sE _ _ _ _ o h2) a c1 (star_few q c3 _ _) c2 (star_cons q2.1 _) (star_any q2.2 _ _)
    · cases h
  · cases h

/-! comprehensions -/
def ownOf (N : List Str) (scope : Scope) : List (Str × Nat) := scope.names.filterMap fun y => match y.2 with
  | .local => (ixOf N y.1).map fun i => (y.1, i)
  | .cell => (ixOf N y.1).map fun i => (y.1, i)
  | _ => none
def wrOf (scope : Scope) : List Str := (scope.names.filter fun y => y.2 == .local || y.2 == .cell).map (·.1)
def blkCtx (c : Ctx) (scope : Scope) : Ctx := { c with sc := relS scope c.sc, wr := wrOf scope }
theorem blk_ok {k : Nat} {W : Wd} {c : Ctx} {X : Cx} (o : XOk c W k X) {scope : Scope} {own : List (Str × Nat)} (b : BlkOk X.N X.env.scope scope own) (s : Shared) (H : Hp) (C : Addr) (cl : List (Str × Addr)) (fp : List Addr) :
    XOk (blkCtx c scope) W k (BX X scope s H C cl fp) where
  hN := o.hN
  sc := by show relS scope X.env.scope = relS scope c.sc; rw [o.sc]
  hK := o.hK
  calm := o.calm
  nd := o.nd
  fnc := fun x hx _ => by
    obtain ⟨y, hy, rfl⟩ := List.mem_map.mp (show x ∈ wrOf scope from hx)
    obtain ⟨hy, hk⟩ := List.mem_filter.mp hy
    have hl := b.uniq y hy
    simp only [Bool.or_eq_true, beq_iff_eq] at hk
    rcases hk with hk | hk
    · exact .inr (PySem.lookup_relabel_local (env := X.env) (by rw [hl, hk]))
    · left
      show (scope.names.lookup y.1 == some .cell) = true
      rw [hl, hk]; rfl
  room := o.room
  glob := o.glob
structure LC where
  fi : Si
  g : Tn
  own : List Nat
  tt : Eb
  fe : Ev
noncomputable def lcC (cE : CE) (cB : CB) (c : Ctx) (elt tg iter : Expr) (ifs : List Expr) (scope : Scope) : Option LC :=
  if blkC c.N c.sc scope (ownOf c.N scope) = true ∧ notSet iter = true then
    match compI cE c tg iter, compN 9 (blkCtx c scope) ((ownOf c.N scope).map (·.2)) tg, (match ifs with | [] => some bYes | [t] => cB (blkCtx c scope) t | _ => none), cE (blkCtx c scope) elt with
    | some fi, some g, some tt, some fe => some ⟨fi, g, (ownOf c.N scope).map (·.2), tt, fe⟩
    | _, _, _, _ => none
  else none
theorem lcC_ok {k : Nat} {W : Wd} {cE : CE} {cB : CB} (sE : SoundE k W cE) (sB : SoundB k W cB) {c : Ctx} {X : Cx} (o : XOk c W k X) {elt tg iter : Expr} {ifs : List Expr} {scope : Scope} {l : LC} (h : lcC cE cB c elt tg iter ifs scope = some l) :
    ∃ own : List (Str × Nat), l.own = own.map (·.2) ∧ SI W X tg iter l.fi ∧ BlkOk X.N X.env.scope scope own ∧ (∀ s H C cl fp, SN W (BX X scope s H C cl fp) tg l.g (own.map (·.2))) ∧ (∀ s H C cl fp, STs W (BX X scope s H C cl fp) ifs l.tt) ∧
      (∀ s H C cl fp, SE W (BX X scope s H C cl fp) elt l.fe) ∧ ∀ x, foldedSetIterable iter X.env x = pure x := by
  unfold lcC at h
  split at h
  · rename_i hb
    obtain ⟨hb, hns⟩ := hb
    split at h
    · rename_i fi g tt fe h1 h2 h3 h4
      cases h
      have ok : BlkOk X.N X.env.scope scope (ownOf c.N scope) := by rw [o.hN, o.sc]; exact blkOk_by hb
      refine ⟨_, rfl, compI_ok sE o h1, ok, fun s H C cl fp => compN_ok 9 (blk_ok o ok s H C cl fp) h2, fun s H C cl fp => ?_, fun s H C cl fp => sE _ _ _ _ (blk_ok o ok s H C cl fp) h4, folded_no hns _⟩
      match ifs, h3 with
      | [], h3 => cases h3; exact sts_nil
      | [t], h3 => exact sts_one (sB _ _ _ _ (blk_ok o ok s H C cl fp) h3)
      | _ :: _ :: _, h3 => cases h3
    · cases h
  · cases h
noncomputable abbrev LC.ev (l : LC) : Ev := eLc l.fi l.g l.own l.tt l.fe

/-! expressions -/
noncomputable def partC (cE : CE) (c : Ctx) : Option Expr → Option Eo
  | none => some oNo
  | some e => match cE c e with | some f => some (oSo f) | none => none
theorem partC_ok {k : Nat} {W : Wd} {cE : CE} (sE : SoundE k W cE) {c : Ctx} {X : Cx} (o : XOk c W k X) {e : Option Expr} {f : Eo} (h : partC cE c e = some f) : SO W X e f := by
  cases e with
  | none => cases h; exact so_none
  | some e =>
    unfold partC at h
    simp only [] at h
    split at h
    · rename_i g hg
      cases h
      exact so_some (sE _ _ _ _ o hg)
    · cases h
noncomputable def subC (cE : CE) (c : Ctx) (a i : Expr) : Option Ev := match i with
  | .Slice lo hi none _ => match cE c a, partC cE c lo, partC cE c hi with
    | some f, some l, some u => some (eSl f l u)
    | _, _, _ => none
  | .Slice none none (some (.UnaryOp .USub (.Constant (.int 1) _ _) _)) _ => match cE c a with
    | some f => some (e1 vRev f)
    | none => none
  | i => if notSlice i = true then match cE c a, cE c i with
    | some f, some g => some (e2 vIx f g)
    | _, _ => none
    else none
theorem subC_ok {k : Nat} {W : Wd} {cE : CE} (sE : SoundE k W cE) {c : Ctx} {X : Cx} (o : XOk c W k X) {a i : Expr} {v : Ev} {pos : Pos} (h : subC cE c a i = some v) : SE W X (.Subscript a i pos) v := by
  unfold subC at h
  split at h
  · split at h
    · rename_i f l u h1 h2 h3
      cases h
      exact se_sl o.hK (sE _ _ _ _ o h1) (partC_ok sE o h2) (partC_ok sE o h3)
    · cases h
  · split at h
    · rename_i f h1
      cases h
      exact se_rev o.hK (sE _ _ _ _ o h1)
    · cases h
  · split at h
    · rename_i hn
      split at h
      · rename_i f g h1 h2
        cases h
        refine se_ix (r := rIx X.K) ?_ (by rw [o.hK]; exact o_ix) (sE _ _ _ _ o h1) (sE _ _ _ _ o h2) (plain_ix hn)
        exact ix_seq
      · cases h
    · cases h
noncomputable def cmpE (cE : CE) (c : Ctx) (a : Expr) (ops : List CmpOp) (bs : List Expr) : Option Ev := match ops, bs with
  | [op], [b] => match cmpG op, cE c a, cE c b with
    | some g, some f, some f' => some (e2 g f f')
    | _, _, _ => none
  | [op, op'], [b, d] => match cmpG op, cmpG op', cE c a, cE c b, cE c d with
    | some g, some g', some f, some f', some f'' => some (eChain g g' f f' f'')
    | _, _, _, _, _ => none
  | _, _ => none
theorem last_marks {op op' : CmpOp} {b d : Expr} (h1 : op' ≠ .In) (h2 : op' ≠ .NotIn) : lastMarks [op, op'] [b, d] = false := by
  show behindInMarks op' d = false
  exact nomark d h1 h2
theorem cmpE_ok {k : Nat} {W : Wd} {cE : CE} (sE : SoundE k W cE) {c : Ctx} {X : Cx} (o : XOk c W k X) {a : Expr} {ops : List CmpOp} {bs : List Expr} {v : Ev} {pos : Pos} (h : cmpE cE c a ops bs = some v) : SE W X (.Compare a ops bs pos) v ∧ SB W X (.Compare a ops bs pos) (asB v) := by
  unfold cmpE at h
  split at h
  · split at h
    · rename_i op b g f f' h1 h2 h3
      cases h
      obtain ⟨r, r1, r2, r3, r4⟩ := cmpG_ok o.hK o.room.units h1
      exact ⟨se_cmp r1 r2 (sE _ _ _ _ o h2) (sE _ _ _ _ o h3) (nomark _ r3 r4), sb_cmp r1 r2 (sE _ _ _ _ o h2) (sE _ _ _ _ o h3) (nomark _ r3 r4)⟩
    · cases h
  · split at h
    · rename_i op op' b d g g' f f' f'' h1 h2 h3 h4 h5
      cases h
      obtain ⟨r, r1, r2, r3, r4⟩ := cmpG_ok o.hK o.room.units h1
      obtain ⟨r', r1', r2', r3', r4'⟩ := cmpG_ok o.hK o.room.units h2
      exact ⟨se_chain r1 r1' r2 r2' (sE _ _ _ _ o h3) (sE _ _ _ _ o h4) (sE _ _ _ _ o h5) (last_marks r3' r4'), sb_chain r1 r1' r2 r2' (sE _ _ _ _ o h3) (sE _ _ _ _ o h4) (sE _ _ _ _ o h5) (last_marks r3' r4')⟩
    · cases h
  · cases h
theorem se_con {k : Nat} {W : Wd} {c : Ctx} {X : Cx} (o : XOk c W k X) {x : Str} {u : U} {pos : Pos} (hg : isGl c x = true) (hdb : (x == ("__debug__" : Str)) = false) (h : c.G.lookup x = some (.con u)) : SE W X (.Name x pos) (eCon u) := by
  obtain ⟨v, z, h1, h2, h3⟩ := o.glob _ _ h
  exact ⟨fun w tk σ h m τ H Q rl rs p => ⟨_, pe_glob (isGl_ok o hg) h1 h2 hdb, p.ok rl (h3 m H)⟩⟩
noncomputable def nameC (c : Ctx) (x : Str) : Option Ev := if (x == ("__debug__" : Str)) = false ∧ (x == ("__classdict__" : Str)) = false then match slotV c x with
  | some i => some (eVar i)
  | none => match isGl c x, c.G.lookup x with
    | true, some (.con u) => some (eCon u)
    | _, _ => none
  else none
theorem nameC_ok {k : Nat} {W : Wd} {c : Ctx} {X : Cx} (o : XOk c W k X) {x : Str} {v : Ev} {pos : Pos} (h : nameC c x = some v) : SE W X (.Name x pos) v := by
  unfold nameC at h
  split at h
  · rename_i hd
    split at h
    · rename_i i hi
      cases h
      obtain ⟨h1, h2⟩ := slotV_ok o hi
      exact se_var h1 h2 hd.1 hd.2
    · split at h
      · rename_i u h1 h2
        cases h
        exact se_con o h1 hd.1 h2
      · cases h
  · cases h
mutual
noncomputable def compE : Nat → Ctx → Expr → Option Ev
  | 0, _, _ => none
  | n + 1, c, e => match e with
    | .Name x _ => nameC c x
    | .Constant (.int i) _ _ => some (eCon (.int i))
    | .Constant (.bool i) _ _ => some (eCon (.bl i))
    | .Constant .none _ _ => some (eCon .non)
    | .Constant (.str i) _ _ => some (eCon (.str i))
    | .BinOp a op b _ => match binG op, compE n c a, compE n c b with
      | some g, some f, some f' => some (e2 g f f')
      | _, _, _ => none
    | .UnaryOp .USub a _ => match compE n c a with | some f => some (e1 vNeg f) | none => none
    | .UnaryOp .Not a _ => match compE n c a with | some f => some (eNot f) | none => none
    | .BoolOp op es _ => boolE (compE n) c op es
    | .Compare a ops bs _ => cmpE (compE n) c a ops bs
    | .IfExp t a b _ => match compB n c t, compE n c a, compE n c b with
      | some f, some g, some g' => some (eIf f g g')
      | _, _, _ => none
    | .Tuple es _ _ => match argsC (compE n) c es with | some f => some (eTup f) | none => none
    | .List es _ => match argsC (compE n) c es with | some f => some (eLst f) | none => none
    | .Subscript a i _ => subC (compE n) c a i
    | .Call (.Name f _) es [] _ => callC (compE n) c f es
    | .Call (.Attribute ob m ap) es [] cp => methC (compE n) c ob m ap cp es
    | .ListComp elt [⟨tg, iter, ifs, 0⟩] scope _ => match lcC (compE n) (compB n) c elt tg iter ifs scope with | some l => some l.ev | none => none
    | _ => none
noncomputable def compB : Nat → Ctx → Expr → Option Eb
  | 0, _, _ => none
  | n + 1, c, e => match e with
    | .UnaryOp .Not a _ => match compB n c a with | some f => some (bNot f) | none => none
    | .BoolOp op es _ => boolB (compB n) c op es
    | .Compare a ops bs _ => match cmpE (compE n) c a ops bs with | some f => some (asB f) | none => none
    | e => if plainTest e = true then match compE n c e with | some f => some (bTru f) | none => none else none
end
theorem comp_ok {k : Nat} {W : Wd} : ∀ n, SoundE k W (compE n) ∧ SoundB k W (compB n)
  | 0 => by
    refine ⟨fun c X e v o h => ?_, fun c X e v o h => ?_⟩
    · unfold compE at h; cases h
    · unfold compB at h; cases h
  | n + 1 => by
    obtain ⟨sE, sB⟩ := comp_ok (k := k) (W := W) n
    refine ⟨fun c X e v o h => ?_, fun c X e v o h => ?_⟩
    · unfold compE at h
      split at h
      · exact nameC_ok o h
      · cases h; exact se_int
      · cases h; exact se_bl
      · cases h; exact se_non
      · cases h; exact se_str
      · split at h
        · rename_i g f f' h1 h2 h3
          cases h
          exact se_binG o.hK h1 (sE _ _ _ _ o h2) (sE _ _ _ _ o h3)
        · cases h
      · split at h
        · rename_i f h1
          cases h
          exact se_un un_neg o_neg (sE _ _ _ _ o h1)
        · cases h
      · split at h
        · rename_i f h1
          cases h
          exact se_not (sE _ _ _ _ o h1)
        · cases h
      · exact boolE_ok sE o h
      · exact (cmpE_ok sE o h).1
      · split at h
        · rename_i f g g' h1 h2 h3
          cases h
          exact se_if (sB _ _ _ _ o h1) (sE _ _ _ _ o h2) (sE _ _ _ _ o h3)
        · cases h
      · split at h
        · rename_i f h1
          cases h
          exact se_tup (argsC_ok sE o h1).1
        · cases h
      · split at h
        · rename_i f h1
          cases h
          exact se_lst (argsC_ok sE o h1).1
        · cases h
      · exact subC_ok sE o h
      · exact callC_ok sE o h
      · exact methC_ok sE o h
      · split at h
        · rename_i l h1
          cases h
          obtain ⟨own, e0, h2, h3, h4, h5, h6, h7⟩ := lcC_ok sE sB o h1
          unfold LC.ev
          rw [e0]
          exact se_lc o.calm o.nd h2 h3 h4 h5 h6 h7
        · cases h
      · cases h
    · unfold compB at h
      split at h
      · split at h
        · rename_i f h1
          cases h
          exact sb_not (sB _ _ _ _ o h1)
        · cases h
      · exact (boolB_ok sB o h).sb
      · split at h
        · rename_i f h1
          cases h
          exact (cmpE_ok sE o h1).2
        · cases h
      · split at h
        · rename_i hp
          split at h
          · rename_i f h1
            cases h
            exact sb_tru o.hK (sE _ _ _ _ o h1) (test_plain hp _)
          · cases h
        · cases h
end Lz
namespace Lz
open PySem PySem.Spec PyProof.Rows L2
open Classical

/-! ### statements -/
abbrev CS := Ctx → Stmt → Option Sv
def SoundS (k : Nat) (W : Wd) (f : CS) : Prop := ∀ c X st v, XOk c W k X → PassesOwn (model X.prog X.w) X.A X.env X.xe → f c st = some v → SS W X st v
noncomputable def blockC (f : Stmt → Option Sv) : List Stmt → Option Sv
  | [] => some sNil
  | [s] => f s
  | s :: r => match f s, blockC f r with
    | some a, some b => some (sSeq a b)
    | _, _ => none
theorem blockC_ok {W : Wd} {X : Cx} {f : Stmt → Option Sv} (hf : ∀ s v, f s = some v → SS W X s v) : ∀ {l : List Stmt} {v : Sv}, blockC f l = some v → SL W X l v
  | [], v, h => by cases h; exact sl_nil
  | [s], v, h => sl_one (hf _ _ h)
  | s :: s2 :: r, v, h => by
    unfold blockC at h
    split at h
    · rename_i a b h1 h2
      cases h
      exact sl_cons (hf _ _ h1) (blockC_ok hf h2)
    · cases h
/-- an assigned comprehension: the name is a plain local on the same line (then the model stores it within the comprehension) -/
def swapT (c : Ctx) (y : Str) (py : Pos) (scope : Scope) (pos : Pos) : Bool :=
  c.sc.kind == .function && c.sc.names.lookup y == some .local && py.line == pos.line && !(scope.names.any fun (n, k) => n == y && (k == .local || k == .cell))
/-- or it is no plain local -/
def swapF (c : Ctx) (y : Str) : Bool := !(c.sc.names.lookup y == some .local)
theorem swap_f {c : Ctx} {k : Nat} {W : Wd} {X : Cx} (o : XOk c W k X) {elt : Expr} {gs : List Comprehension} {scope : Scope} {pos py : Pos} {y : Str} {l : Nat} (h : swapF c y = true) : swapsWith (.ListComp elt gs scope pos) (some (.Name y py)) l X.env = pure false := by
  have e : (X.env.kindOf y == some .local) = false := by
    show (X.env.scope.names.lookup y == some .local) = false
    rw [o.sc]
    unfold swapF at h
    cases q : (c.sc.names.lookup y == some .local) with
    | false => rfl
    | true => rw [q] at h; cases h
  unfold swapsWith
  simp only [e, Bool.and_false, Bool.false_and]
theorem swaps_sub {e a i : Expr} {p : Pos} (l : Nat) (env : Env) : swapsWith e (some (.Subscript a i p)) l env = pure false := by
  cases e <;> rfl
theorem swaps_subS {e a i : Expr} {p : Pos} (l : Nat) (env : Env) : swapsWithSole [.Subscript a i p] e l env = pure false := swaps_sub (a := a) (i := i) (p := p) l env
noncomputable def iopG : Operator → Option G2
  | .Add => some (vCmpI (fun i j => i + j)) | .Sub => some (vCmpI (fun i j => i - j))
  | _ => none
where vCmpI (f : Int → Int → Int) : G2 := fun x y h => match x, y with
  | .int i, .int j => .ok (.int (f i j)) h
  | _, _ => .bad
@[simp] theorem vCmpI_int (f : Int → Int → Int) (i j : Int) (h : Hb) : iopG.vCmpI f (.int i) (.int j) h = .ok (.int (f i j)) h := rfl
theorem o_iop {W : Wd} {f : Int → Int → Int} : Op2 W (rI0 fun i j => .int (f i j)) (iopG.vCmpI f) := by
  intro x y h m H v u Q E rl rx ry p
  cases x with
  | int i =>
    cases y with
    | int j => exact ⟨i, j, rx.int_inv, ry.int_inv, p.ok rl (.mk_int _)⟩
    | _ => exact p.elim
  | _ => exact p.elim
theorem iopG_ok {W : Wd} {X : Cx} {op : Operator} {g : G2} (h : iopG op = some g) : ∃ r, OpR X (inplaceOp op) r ∧ Op2 W r g := by
  cases op with
  | Add => cases h; exact ⟨_, iop_add, o_iop⟩
  | Sub => cases h; exact ⟨_, iop_sub, o_iop⟩
  | _ => cases h
/-- a, b = x, y: stored from the right -/
def parT (c : Ctx) (x y : Str) (px py : Pos) (a b : Expr) : Bool :=
  c.sc.kind == .function && c.sc.names.lookup x == some .local && c.sc.names.lookup y == some .local && px.line == py.line && !(x == y) && notStar a && notStar b && !([a, b].all (foldedForSure 8)) && !([a, b].all (constantsAlone 8))
theorem par_t {c : Ctx} {k : Nat} {W : Wd} {X : Cx} (o : XOk c W k X) {x y : Str} {px py pt pt2 : Pos} {kt k2 : Nat} {a b : Expr} (h : parT c x y px py a b = true) :
    swappedStores [.Tuple [.Name x px, .Name y py] kt pt] (.Tuple [a, b] k2 pt2) X.env = pure (some [x, y]) ∧ X.env.scope.names.lookup x = some .local ∧ X.env.scope.names.lookup y = some .local ∧ x ≠ y ∧ notStar a = true ∧ notStar b = true := by
  unfold parT at h
  simp only [Bool.and_eq_true, beq_iff_eq, Bool.not_eq_true'] at h
  obtain ⟨⟨⟨⟨⟨⟨⟨⟨h1, h2⟩, h3⟩, h4⟩, h5⟩, h6⟩, h7⟩, h8⟩, h9⟩ := h
  have kx : X.env.kindOf x = some .local := by show X.env.scope.names.lookup x = _; rw [o.sc]; exact h2
  have ky : X.env.kindOf y = some .local := by show X.env.scope.names.lookup y = _; rw [o.sc]; exact h3
  have ne : x ≠ y := by simpa using h5
  have ne2 : y ≠ x := Ne.symm ne
  have hb : X.env.blockKind = .function := by unfold Env.blockKind; rw [o.sc, h1]; rfl
  have st : ([a, b].any fun | .Starred .. => true | _ => false) = false := by
    have g : ∀ e, notStar e = true → (match e with | .Starred .. => true | _ => false) = false := fun e he => by cases e <;> first | exact absurd he Bool.false_ne_true | rfl
    simp only [List.any_cons, List.any_nil, Bool.or_false]
    have ga := g a h6
    have gb := g b h7
    revert ga gb
    cases a <;> cases b <;> simp
  refine ⟨?_, kx, ky, ne, h6, h7⟩
  have er : ([x, y] : List Str).eraseDups = [x, y] := by
    simp [List.eraseDups_cons, ne2]
  unfold swappedStores
  have e0 : (List.filterMap (fun x_1 => match x_1 with
      | .Name id pos => if (X.env.kindOf id == some .local && pos.line == (([Expr.Name x px, Expr.Name y py].head?.map (·.pos.line)).getD 0)) = true then some id else none
      | _ => none) [Expr.Name x px, Expr.Name y py]) = [x, y] := by
    have l1 : ([Expr.Name x px, Expr.Name y py].head?.map (·.pos.line)).getD 0 = px.line := rfl
    simp only [l1, List.filterMap_cons, List.filterMap_nil, kx, ky, h4, beq_self_eq_true, Bool.and_self, if_true]
  refine (if_neg ?_).trans ((if_neg ?_).trans ((if_neg ?_).trans ((if_neg ?_).trans ((if_neg ?_).trans ?_))))
  · rw [hb]; exact Bool.false_ne_true
  · intro z
    have z' := st.symm.trans z
    cases z'
  · intro z
    have z' : ([x, y].length != 2 || [x, y].eraseDups.length != [x, y].length) = true := by rw [← e0]; exact z
    rw [er] at z'
    exact absurd z' (by simp)
  · rw [h8]; decide
  · rw [h9]; decide
  · exact congrArg (fun l => (pure (some l) : Sem (Option (List Str)))) e0
/-- a, b = 0, 1: constants alone: as a tuple -/
def parF (a b : Expr) : Bool := [a, b].all (foldedForSure 8)

theorem ite_eq2 {α : Type} {c : Prop} [Decidable c] {a b x : α} (h1 : c → a = x) (h2 : ¬ c → b = x) : (if c then a else b) = x := by
  by_cases h : c
  · rw [if_pos h]; exact h1 h
  · rw [if_neg h]; exact h2 h
theorem par_f {c : Ctx} {k : Nat} {W : Wd} {X : Cx} (o : XOk c W k X) {x y : Str} {px py pt pt2 : Pos} {kt k2 : Nat} {a b : Expr} (h : parF a b = true) :
    swappedStores [.Tuple [.Name x px, .Name y py] kt pt] (.Tuple [a, b] k2 pt2) X.env = pure none := by
  unfold parF at h
  unfold swappedStores
  refine ite_eq2 (fun _ => rfl) fun _ => ?_
  refine ite_eq2 (fun _ => rfl) fun _ => ?_
  refine ite_eq2 (fun _ => rfl) fun _ => ?_
  exact if_pos h
def isPair : Expr → Expr → Bool
  | .Tuple .., .Tuple .. => true
  | _, _ => false
theorem swapped_no {tg e : Expr} (h : isPair tg e = false) (hl : ∀ es p, tg ≠ .List es p) (env : Env) : swappedStores [tg] e env = pure none := by
  cases tg with
  | Tuple ts k p => cases e <;> first | exact absurd (show true = false from h) (by decide) | rfl
  | List es p => exact absurd rfl (hl es p)
  | _ => rfl
theorem swaps_sole {t e : Expr} (h : notComp e = true) (l : Nat) (env : Env) : swapsWithSole [t] e l env = pure false := swaps_no h (some t) l env
noncomputable def asgC (cE : CE) (cB : CB) (c : Ctx) (tg e : Expr) (p : Pos) : Option Sv := match tg with
  | .Name y py => match e with
    | .ListComp elt [⟨tg', iter, ifs, 0⟩] scope p2 => match slotL c y, lcC cE cB c elt tg' iter ifs scope with
      | some i, some l => if swapT c y py scope p2 = true ∨ swapF c y = true then some (sSet i l.ev) else none
      | _, _ => none
    | e => if notComp e = true then match slotL c y, cE c e with
      | some i, some f => some (sSet i f)
      | _, _ => none
      else none
  | .Tuple [.Name x px, .Name y py] _ _ => match e with
    | .Tuple [a, b] _ _ => if parT c x y px py a b = true then match slotL c x, slotL c y, argsC cE c [a, b] with
        | some i, some j, some f => if i = j then none else some (sPar i j f)
        | _, _, _ => none
      else if parF a b = true then match compN 9 c (List.range c.N.length) (.Tuple [.Name x px, .Name y py] 0 p), cE c e with
        | some g, some f => some (sAsg f (gN g))
        | _, _ => none
      else none
    | e => if notComp e = true ∧ isPair tg e = false then match compN 9 c (List.range c.N.length) tg, cE c e with
      | some g, some f => some (sAsg f (gN g))
      | _, _ => none
      else none
  | .Tuple ts _ _ => if notComp e = true ∧ isPair tg e = false then match compN 9 c (List.range c.N.length) tg, cE c e with
      | some g, some f => some (sAsg f (gN g))
      | _, _ => none
      else none
  | .Subscript a i _ => if notSlice i = true then match cE c a, cE c i, cE c e with
      | some fa, some fi, some f => some (sAsg f (gIx pIx fa fi))
      | _, _, _ => none
      else none
  | _ => none
theorem compN_tuple {n : Nat} {c : Ctx} {vs : List Nat} {es : List Expr} {k k' : Nat} {p p' : Pos} : compN (n + 1) c vs (.Tuple es k p) = compN (n + 1) c vs (.Tuple es k' p') := rfl
theorem asgC_ok {k : Nat} {W : Wd} {cE : CE} {cB : CB} (sE : SoundE k W cE) (sB : SoundB k W cB) {c : Ctx} {X : Cx} (o : XOk c W k X) {tg e : Expr} {v : Sv} {pos : Pos} (h : asgC cE cB c tg e pos = some v) : SS W X (.Assign [tg] e pos) v := by
  have one : notStar tg = true → (assignEach [tg] X.env).map (·.2) = [assign tg X.env] := fun hs => by rw [assign_cons hs]; rfl
  unfold asgC at h
  split at h
  · split at h
    · split at h
      · rename_i i l h1 h2
        split at h
        · rename_i hsw
          cases h
          obtain ⟨s1, s2, s3⟩ := slotL_ok o h1
          obtain ⟨own, e0, q2, q3, q4, q5, q6, q7⟩ := lcC_ok sE sB o h2
          unfold LC.ev
          rw [e0]
          rcases hsw with hsw | hsw
          · unfold swapT at hsw
            simp only [Bool.and_eq_true, beq_iff_eq, Bool.not_eq_true'] at hsw
            obtain ⟨⟨⟨t1, t2⟩, t3⟩, t4⟩ := hsw
            rw [← o.sc] at t1 t2
            exact ss_setLc o.calm o.nd s1 t2 (sw_true t1 t2 (by simp [t3]) t4) q2 q3 q4 q5 q6 q7
          · exact ss_set o.nd s1 s2 (se_lc o.calm o.nd q2 q3 q4 q5 q6 q7) (swap_f o hsw) s3
        · cases h
      · cases h
    · split at h
      · rename_i hn
        split at h
        · rename_i i f h1 h2
          cases h
          obtain ⟨s1, s2, s3⟩ := slotL_ok o h1
          exact ss_set o.nd s1 s2 (sE _ _ _ _ o h2) (swaps_no hn _ _ _) s3
        · cases h
      · cases h
  · split at h
    · split at h
      · rename_i hp
        split at h
        · rename_i i j f h1 h2 h3
          split at h
          · cases h
          · rename_i hij
            cases h
            obtain ⟨s1, s2, s3⟩ := slotL_ok o h1
            obtain ⟨s1', s2', s3'⟩ := slotL_ok o h2
            obtain ⟨t1, t2, t3, t4, t5, t6⟩ := par_t o hp
            exact ss_par o.calm o.nd s1 s1' hij t2 t3 (argsC_ok sE o h3).1 t1 rfl
        · cases h
      · split at h
        · rename_i hp
          split at h
          · rename_i g f h1 h2
            cases h
            exact ss_asg (sE _ _ _ _ o h2) (compN_ok 9 o ((compN_tuple).trans h1)).sg on_gN rfl (par_f o hp) (one rfl)
          · cases h
        · cases h
    · split at h
      · rename_i hn
        split at h
        · rename_i g f h1 h2
          cases h
          exact ss_asg (sE _ _ _ _ o h2) (compN_ok 9 o h1).sg on_gN (swaps_sole hn.1 _ _) (swapped_no hn.2 (by intro _ _ z; cases z) _) (one rfl)
        · cases h
      · cases h
  · split at h
    · rename_i hn
      split at h
      · rename_i g f h1 h2
        cases h
        exact ss_asg (sE _ _ _ _ o h2) (compN_ok 9 o h1).sg on_gN (swaps_sole hn.1 _ _) (swapped_no hn.2 (by intro _ _ z; cases z) _) (one rfl)
      · cases h
    · cases h
  · split at h
    · rename_i a i p hn
      split at h
      · rename_i fa fi f h1 h2 h3
        cases h
        refine ss_asg (sE _ _ _ _ o h3) (sg_sub set_list o_pix (sE _ _ _ _ o h1) (sE _ _ _ _ o h2) ?_) on_ix (swaps_subS _ _) rfl (one rfl)
        intro v
        cases i <;> first | exact absurd hn Bool.false_ne_true | rfl
      · cases h
    · cases h
  · cases h
noncomputable def compS : Nat → Ctx → Stmt → Option Sv
  | 0, _, _ => none
  | n + 1, c, st => match st with
    | .Pass _ => some sNil
    | .Break _ => some sBrk
    | .Continue _ => some sCnt
    | .Expr (.Constant (.str _) _ _) _ => some sNil
    | .Expr e _ => if notComp e = true then match compE 40 c e with | some f => some (sExp f) | none => none else none
    | .Return (some e) _ => match compE 40 c e with | some f => some (sRet f) | none => none
    | .Return none _ => some sRetN
    | .If t a b _ => match compB 40 c t, blockC (compS n c) a, blockC (compS n c) b with
      | some k, some f, some g => some (sIf k f g)
      | _, _, _ => none
    | .Assign [tg] e p => asgC (compE 40) (compB 40) c tg e p
    | .AugAssign (.Name x _) op e _ => match slotL c x, iopG op, compE 40 c e with
      | some i, some g, some f => some (sAug i g f)
      | _, _, _ => none
    | .For tg iter body [] _ => if notSet iter = true then match compI (compE 40) c tg iter, compN 9 c (List.range c.N.length) tg, blockC (compS n c) body with
      | some fi, some g, some b => some (sFor fi (gN g) b)
      | _, _, _ => none
      else none
    | .While t body [] _ => match compB 40 c t, blockC (compS n c) body with
      | some k, some b => some (sWhile k b)
      | _, _ => none
    | _ => none
theorem compS_ok {k : Nat} {W : Wd} : ∀ n, SoundS k W (compS n)
  | 0 => fun c X st v o po h => by unfold compS at h; cases h
  | n + 1 => fun c X st v o po h => by
    have sE : SoundE k W (compE 40) := (comp_ok 40).1
    have sB : SoundB k W (compB 40) := (comp_ok 40).2
    have ih : ∀ s v, compS n c s = some v → SS W X s v := fun s v hs => compS_ok n c X s v o po hs
    unfold compS at h
    split at h
    · cases h; exact ss_pass
    · cases h; exact ss_break
    · cases h; exact ss_continue
    · cases h; exact ss_doc
    · split at h
      · rename_i hn
        split at h
        · rename_i f h1
          cases h
          exact ss_expr (sE _ _ _ _ o h1) (swaps_no hn _ _ _)
        · cases h
      · cases h
    · split at h
      · rename_i f h1
        cases h
        exact ss_ret (sE _ _ _ _ o h1)
      · cases h
    · cases h; exact ss_retN
    · split at h
      · rename_i t f g h1 h2 h3
        cases h
        exact ss_if (sB _ _ _ _ o h1) (blockC_ok ih h2) (blockC_ok ih h3)
      · cases h
    · exact asgC_ok sE sB o h
    · split at h
      · rename_i i g f h1 h2 h3
        cases h
        obtain ⟨s1, s2, s3⟩ := slotL_ok o h1
        obtain ⟨r, r1, r2⟩ := iopG_ok (W := W) (X := X) h2
        exact ss_aug o.nd s1 s2 (sE _ _ _ _ o h3) r1 r2 s3
      · cases h
    · split at h
      · rename_i hn
        split at h
        · rename_i fi g b h1 h2 h3
          cases h
          exact ss_for po o.calm (compI_ok sE o h1) (compN_ok 9 o h2).sg on_gN (blockC_ok ih h3) (folded_no hn _)
        · cases h
      · cases h
    · split at h
      · rename_i t b h1 h2
        cases h
        exact ss_while po (sB _ _ _ _ o h1) (blockC_ok ih h2)
      · cases h
    · cases h

/-! ### a def -/
def SR.out : SR → Res U
  | .rt u h' => .ok u h'
  | .nx _ h' => .ok .non h'
  | .ex x _ h' => .ex x h'
  | _ => .bad
def runDef (n np : Nat) (b : Sv) : GC := fun us h => if us.length = np then (b (us.map some ++ List.replicate (n - np) none) h).out else .bad
theorem runDef_ar {n np : Nat} {b : Sv} : ∀ us h, us.length ≠ np → runDef n np b us h = .bad := fun us h e => if_neg e
theorem rs_none {K : PySem.W.Frag} {m : List Addr} {H : Hp} : ∀ n : Nat, RS K m H (List.replicate n none) (List.replicate n none)
  | 0 => rfl
  | n + 1 => by
    show RS K m H (none :: List.replicate n none) (none :: List.replicate n none)
    exact ⟨none, List.replicate n none, rfl, (fun _ z => by cases z), rs_none n⟩
theorem rs_start {K : PySem.W.Frag} {m : List Addr} {H : Hp} (n : Nat) : ∀ {us : List U} {vs : List V}, RVs K m H us vs → RS K m H (us.map some ++ List.replicate n none) (vs.map some ++ List.replicate n none)
  | [], vs, r => by rw [r.inv_nil]; exact rs_none n
  | u :: us, vs, r => by
    obtain ⟨v, q, rfl, a, b⟩ := r.inv_cons
    exact ⟨some v, _, rfl, (fun u' e => by cases e; exact ⟨v, rfl, a⟩), rs_start n b⟩
theorem fn_sim {P : Program} {w : World} {W : Wd} {mg : Str → Option Value} {base : Heap} {k : Nat} {x qual : Str} {st : Stmt} {f : Addr} {fd : FuncData} {c : Ctx} {ps : List Str} {b : Sv} {n : Nat} (F : Fun W.K x qual st f fd) (S : FnScope c.N ps (defScope st)) (hsc : c.sc = defScope st)
    (G : ∀ x gv, c.G.lookup x = some gv → GOk W P w mg base k x gv) (hc : blockC (compS n c) (defBody st) = some b) : FnOk P w W.K mg base (L2.CX P w) (k + 1) f fd ps (spOf W ps.length (runDef c.N.length ps.length b)) := by
  refine F.okX S (fun vs H Q E h => h.1) (fun cdv A outer s H vs Q E hr h => ?_)
  obtain ⟨hl, m, us, hb, rl, rv, p⟩ := h
  have o : XOk c W k (cxOf (L2.CX P w) P w W.K mg base c.N qual (defScope st) f cdv A outer s H E) :=
    ⟨rfl, hsc.symm, rfl, rfl, S.nd, fun _ _ _ => .inl rfl, hr, G⟩
  have po : PassesOwn (model P w) (A.deeper (envOfC qual (defScope st) s.heap.objs.size f cdv)) (envOfC qual (defScope st) s.heap.objs.size f cdv) (cxOf (L2.CX P w) P w W.K mg base c.N qual (defScope st) f cdv A outer s H E).xe := passes_of rfl
  have tk : Takes (cxOf (L2.CX P w) P w W.K mg base c.N qual (defScope st) f cdv A outer s H E) (fun cls d _ H => E cls d H) := takes_of rfl rfl rfl rfl
  have sl : SL W (cxOf (L2.CX P w) P w W.K mg base c.N qual (defScope st) f cdv A outer s H E) (defBody st) b := blockC_ok (fun s v hs => compS_ok n c _ s v o po hs) hc
  refine ⟨_, EvL.pss _ _, sl.run _ tk (us.map some ++ List.replicate (c.N.length - ps.length) none) hb m _ H _ rl ?_ ?_⟩
  · unfold L2.start
    rw [hl]
    exact rs_start _ rv
  · have hu : us.length = ps.length := by rw [rv.length, hl]
    unfold runDef at p
    rw [if_pos hu] at p
    cases e : b (us.map some ++ List.replicate (c.N.length - ps.length) none) hb with
    | rt u h' => rw [e] at p; exact fun m' H' v e1 r1 rv => p m' H' v e1 r1 rv
    | nx s' h' => rw [e] at p; exact fun m' H' t e1 r1 rs => p m' H' .non e1 r1 .mk_non
    | ex x' s' h' => rw [e] at p; exact fun m' H' cc d t e1 r1 rx rs => p m' H' cc d e1 r1 rx
    | bk _ _ => rw [e] at p; exact p.elim
    | ct _ _ => rw [e] at p; exact p.elim
    | bad => rw [e] at p; exact p.elim
/-- a def whose arguments are all given -/
theorem g_fn {P : Program} {w : World} {W : Wd} {mg : Str → Option Value} {base : Heap} {k : Nat} {x qual : Str} {st : Stmt} {f : Addr} {fd : FuncData} {c : Ctx} {ps : List Str} {b : Sv} {n : Nat} (hm : mg x = some (.ref f)) (hb : Binds W.K fd ps []) (F : Fun W.K x qual st f fd) (S : FnScope c.N ps (defScope st)) (hsc : c.sc = defScope st)
    (G : ∀ x gv, c.G.lookup x = some gv → GOk W P w mg base k x gv) (hc : blockC (compS n c) (defBody st) = some b) : GOk W P w mg base (k + 1) x (.fn (runDef c.N.length ps.length b) ps.length []) :=
  ⟨runDef_ar, f, fd, ps, hm, F.kp, fn_sim F S hsc G hc, rfl, fun j hj => ⟨[], [], hb, .nil, fun m H => by simpa using RVs.nil⟩⟩
theorem GOk.mono {W : Wd} {P : Program} {w : World} {mg : Str → Option Value} {base : Heap} {j k : Nat} {x : Str} {g : GV} (h : GOk W P w mg base j x g) (hj : j ≤ k) : GOk W P w mg base k x g := by
  cases g with
  | bt => exact h
  | con u => exact h
  | fn r n ds =>
    obtain ⟨ar, f, fd, ps, h1, h2, F, h3, h4⟩ := h
    exact ⟨ar, f, fd, ps, h1, h2, F.mono hj, h3, h4⟩
/-- nothing is promised -/
def noRun : GC := fun _ _ => .bad
theorem g_none {P : Program} {w : World} {W : Wd} {mg : Str → Option Value} {base : Heap} {x : Str} {f : Addr} {fd : FuncData} {ps : List Str} (hm : mg x = some (.ref f)) (hk : PySem.W.keepIn W.K (.ref f) = true) (hb : Binds W.K fd ps []) : GOk W P w mg base 0 x (.fn noRun ps.length []) :=
  ⟨fun _ _ _ => rfl, f, fd, ps, hm, hk, ⟨fun vs H Q E h => h.1, fun A outer s H args us vs Q E _ _ _ _ h => by obtain ⟨_, _, _, _, _, _, p⟩ := h; exact p.elim⟩, rfl, fun j hj => ⟨[], [], hb, .nil, fun m H => by simpa using RVs.nil⟩⟩

theorem g_bt {W : Wd} {P : Program} {w : World} {mg : Str → Option Value} {base : Heap} {k : Nat} {x : Str} (h : mg x = none) : GOk W P w mg base k x .bt := h
theorem gl_nil {W : Wd} {P : Program} {w : World} {mg : Str → Option Value} {base : Heap} {k : Nat} : ∀ x gv, ([] : List (Str × GV)).lookup x = some gv → GOk W P w mg base k x gv := fun _ _ h => by cases h
theorem gl_cons {W : Wd} {P : Program} {w : World} {mg : Str → Option Value} {base : Heap} {k : Nat} {x : Str} {g : GV} {l : List (Str × GV)} (h : GOk W P w mg base k x g) (r : ∀ y gv, l.lookup y = some gv → GOk W P w mg base k y gv) : ∀ y gv, ((x, g) :: l).lookup y = some gv → GOk W P w mg base k y gv := fun y gv e => by
  by_cases hy : y = x
  · subst hy
    rw [List.lookup_cons_self] at e
    cases e
    exact h
  · have hy' : (y == x) = false := by simpa using hy
    rw [List.lookup_cons, hy'] at e
    exact r y gv e

/-! ### the end: the law's def at the script -/
theorem ints_rv {K : PySem.W.Frag} {m : List Addr} {H : Hp} : ∀ ns : List Int, RVs K m H (ns.map U.int) (ns.map V.int)
  | [] => .nil
  | n :: ns => .cons (by unfold RV; rfl) (ints_rv ns)
theorem sp_law {W : Wd} {r : GC} {H : Hp} {a : Addr} {ns : List Int} (hO : Only H) (hS : SqL W.K H a (ns.map V.int)) {h' : Hb} (hr : r [.ref 0] [.fro (ns.map U.int)] = .ok (.bl true) h') :
    spOf W 1 r [.ref a] H (fun v _ => v = .bl true) fun _ _ _ => False := by
  refine ⟨rfl, [a], [.ref 0], [.fro (ns.map U.int)], ⟨rfl, fun i j b h1 h2 n1 n2 => ?_, fun i o b h1 h2 => ?_⟩, .cons (by unfold RV; exact ⟨a, rfl, rfl⟩) .nil, ?_⟩
  · have hi : i = 0 := by
      cases i with
      | zero => rfl
      | succ i => simp at h1
    subst hi
    exact absurd rfl (n1 (ns.map U.int))
  · have hi : i = 0 := by
      cases i with
      | zero => rfl
      | succ i => simp at h1
    subst hi
    simp at h1 h2
    subst h1 h2
    refine ⟨ns.map V.int, ?_, ints_rv ns⟩
    rcases hS with (hS | ⟨o, hS⟩) | hS
    · rcases hO a with z | ⟨o, xs, z⟩
      · rw [z] at hS; cases hS
      · rw [z] at hS; cases hS
    · exact .inl ⟨o, hS⟩
    · exact .inr hS
  · rw [hr]
    intro m' H' v _ _ rv
    unfold RV at rv
    exact rv
theorem room0 : Room 60 callerA := ⟨rfl, by decide, by decide⟩
end Lz
namespace Lz
open PySem PySem.Spec PyProof.Rows L2
open Classical
/-! ### running by rewriting -/
section
variable {s : Sg} {h : Hb}
theorem run_def {n np : Nat} {b : Sv} {us : List U} (e : us.length = np) : runDef n np b us h = (b (us.map some ++ List.replicate (n - np) none) h).out := by unfold runDef; rw [if_pos e]
theorem run1 {n : Nat} {b : Sv} (x : U) : runDef n 1 b [x] h = (b (some x :: List.replicate (n - 1) none) h).out := run_def (us := [x]) rfl
theorem run2 {n : Nat} {b : Sv} (x y : U) : runDef n 2 b [x, y] h = (b (some x :: some y :: List.replicate (n - 2) none) h).out := run_def (us := [x, y]) rfl
theorem run3 {n : Nat} {b : Sv} (x y z : U) : runDef n 3 b [x, y, z] h = (b (some x :: some y :: some z :: List.replicate (n - 3) none) h).out := run_def (us := [x, y, z]) rfl
theorem run4 {n : Nat} {b : Sv} (x y z w : U) : runDef n 4 b [x, y, z, w] h = (b (some x :: some y :: some z :: some w :: List.replicate (n - 4) none) h).out := run_def (us := [x, y, z, w]) rfl
theorem run5 {n : Nat} {b : Sv} (x y z w v : U) : runDef n 5 b [x, y, z, w, v] h = (b (some x :: some y :: some z :: some w :: some v :: List.replicate (n - 5) none) h).out := run_def (us := [x, y, z, w, v]) rfl
@[simp] theorem out_rt (u : U) : (SR.rt u h).out = .ok u h := rfl
@[simp] theorem out_nx : (SR.nx s h).out = .ok .non h := rfl
@[simp] theorem out_ex (x : Ex) : (SR.ex x s h).out = .ex x h := rfl
def eVarK (o : Option (Option U)) (h : Hb) : Res U := match o with | some (some u) => .ok u h | _ => .bad
@[simp] theorem eVarK_some (u : U) : eVarK (some (some u)) h = .ok u h := rfl
@[simp] theorem eVar_run (i : Nat) : eVar i s h = eVarK s[i]? h := by
  unfold eVar eVarK
  cases s[i]? with
  | none => rfl
  | some o => cases o <;> rfl
@[simp] theorem eCon_run (u : U) : eCon u s h = .ok u h := rfl
@[simp] theorem e2_run (g : G2) (f f' : Ev) : e2 g f f' s h = (f s h).bind (e2k g f' s) := rfl
@[simp] theorem e2k_run (g : G2) (f' : Ev) (x : U) : e2k g f' s x h = (f' s h).bind (g x) := rfl
@[simp] theorem asB_run (f : Ev) : asB f s h = (f s h).bind asBk := rfl
@[simp] theorem asBk_run (k : Bool) : asBk (.bl k) h = .ok k h := rfl
@[simp] theorem eChain_run (g g' : G2) (a b c : Ev) : eChain g g' a b c s h = (a s h).bind (ch1 g g' b c s) := rfl
@[simp] theorem ch1_run (g g' : G2) (b c : Ev) (x : U) : ch1 g g' b c s x h = (b s h).bind (ch2 g g' c s x) := rfl
@[simp] theorem ch2_run (g g' : G2) (c : Ev) (x y : U) : ch2 g g' c s x y h = (g x y h).bind (ch3 g' c s y) := rfl
@[simp] theorem ch3_t (g' : G2) (c : Ev) (y : U) : ch3 g' c s y (.bl true) h = (c s h).bind (g' y) := rfl
@[simp] theorem ch3_f (g' : G2) (c : Ev) (y : U) : ch3 g' c s y (.bl false) h = .ok (.bl false) h := rfl
@[simp] theorem e1_run (g : G1) (f : Ev) : e1 g f s h = (f s h).bind g := rfl
@[simp] theorem bTru_run (f : Ev) : bTru f s h = (f s h).bind truK := rfl
@[simp] theorem truK_bl (b : Bool) : truK (.bl b) h = .ok b h := rfl
@[simp] theorem truK_int (i : Int) : truK (.int i) h = .ok (i != 0) h := rfl
@[simp] theorem truK_tup (xs : List U) : truK (.tup xs) h = .ok (!xs.isEmpty) h := rfl
@[simp] theorem truK_non : truK .non h = .ok false h := rfl
theorem truK_lst {a : Nat} {xs : List U} (e : h[a]? = some (.lst xs)) : truK (.ref a) h = .ok (!xs.isEmpty) h := by unfold truK truU; simp [e]
@[simp] theorem bNot_run (f : Eb) : bNot f s h = (f s h).bind bNotk := rfl
@[simp] theorem bNotk_run (k : Bool) : bNotk k h = .ok (!k) h := rfl
@[simp] theorem bAnd_run (f g : Eb) : bAnd f g s h = (f s h).bind (bAndk g s) := rfl
@[simp] theorem bAndk_t (g : Eb) : bAndk g s true h = g s h := rfl
@[simp] theorem bAndk_f (g : Eb) : bAndk g s false h = .ok false h := rfl
@[simp] theorem bOr_run (f g : Eb) : bOr f g s h = (f s h).bind (bOrk g s) := rfl
@[simp] theorem bOrk_t (g : Eb) : bOrk g s true h = .ok true h := rfl
@[simp] theorem bOrk_f (g : Eb) : bOrk g s false h = g s h := rfl
@[simp] theorem eAnd_run (f g : Ev) : eAnd f g s h = (f s h).bind (eAndk g s) := rfl
@[simp] theorem eAndk_t (g : Ev) : eAndk g s (.bl true) h = g s h := rfl
@[simp] theorem eAndk_f (g : Ev) : eAndk g s (.bl false) h = .ok (.bl false) h := rfl
@[simp] theorem eOr_run (f g : Ev) : eOr f g s h = (f s h).bind (eOrk g s) := rfl
@[simp] theorem eOrk_t (g : Ev) : eOrk g s (.bl true) h = .ok (.bl true) h := rfl
@[simp] theorem eOrk_f (g : Ev) : eOrk g s (.bl false) h = g s h := rfl
@[simp] theorem eNot_run (f : Ev) : eNot f s h = (f s h).bind eNotk := rfl
@[simp] theorem eNotk_run (k : Bool) : eNotk (.bl k) h = .ok (.bl (!k)) h := rfl
@[simp] theorem eIf_run (c : Eb) (f g : Ev) : eIf c f g s h = (c s h).bind (eIfk f g s) := rfl
@[simp] theorem eIfk_t (f g : Ev) : eIfk f g s true h = f s h := rfl
@[simp] theorem eIfk_f (f g : Ev) : eIfk f g s false h = g s h := rfl
@[simp] theorem aNil_run : aNil s h = .ok [] h := rfl
@[simp] theorem aCons_run (f : Ev) (g : Ea) : aCons f g s h = (f s h).bind (aC1 g s) := rfl
@[simp] theorem aC1_run (g : Ea) (x : U) : aC1 g s x h = (g s h).bind (aC2 x) := rfl
@[simp] theorem aC2_run (x : U) (xs : List U) : aC2 x xs h = .ok (x :: xs) h := rfl
theorem small_line {n : Nat} (e : n ≤ 10000000) : n ≤ sizeLine := by rw [sizeLine_eq]; omega
theorem small_line' {n : Nat} (e : n ≤ 10000000) : n < sizeLine := by rw [sizeLine_eq]; omega
@[simp] theorem eTup_run (g : Ea) : eTup g s h = (g s h).bind eTupk := rfl
@[simp] theorem eTupk_run {xs : List U} (e : xs.length ≤ 10000000) : eTupk xs h = .ok (.tup xs) h := if_pos (small_line e)
@[simp] theorem eLst_run (g : Ea) : eLst g s h = (g s h).bind eLstk := rfl
@[simp] theorem eLstk_run {xs : List U} (e : xs.length ≤ 10000000) : eLstk xs h = .ok (.ref h.length) (h ++ [.lst xs]) := if_pos (small_line e)
@[simp] theorem eC_run (g : GC) (f : Ea) : eC g f s h = (f s h).bind g := rfl
@[simp] theorem eM_run (g : GM) (f : Ev) (fs : Ea) : eM g f fs s h = (f s h).bind (eMk g fs s) := rfl
theorem eMk_lst {g : GM} {fs : Ea} {a : Nat} {xs : List U} (e : h[a]? = some (.lst xs)) : eMk g fs s (.ref a) h = (fs s h).bind (g (.ref a)) := by unfold eMk lstU; simp [e]
@[simp] theorem oNo_run : oNo s h = .ok none h := rfl
@[simp] theorem oSo_run (f : Ev) : oSo f s h = (f s h).bind oSok := rfl
@[simp] theorem oSok_run (i : Int) : oSok (.int i) h = .ok (some i) h := rfl
@[simp] theorem eSl_run (f : Ev) (l u : Eo) : eSl f l u s h = (f s h).bind (sl1 l u s) := rfl
@[simp] theorem sl1_run (l u : Eo) (x : U) : sl1 l u s x h = (l s h).bind (sl2 u s x) := rfl
@[simp] theorem sl2_run (u : Eo) (x : U) (l : Option Int) : sl2 u s x l h = (u s h).bind (vSl x l) := rfl
@[simp] theorem vSl_tup (us : List U) (lo hi : Option Int) : vSl (.tup us) lo hi h = .ok (.tup (cutU us lo hi)) h := rfl
/-! statements -/
@[simp] theorem sNil_run : sNil s h = .nx s h := rfl
@[simp] theorem sSeq_run (f g : Sv) : sSeq f g s h = (f s h).thn g := rfl
@[simp] theorem sBrk_run : sBrk s h = .bk s h := rfl
@[simp] theorem sCnt_run : sCnt s h = .ct s h := rfl
@[simp] theorem sExp_run (f : Ev) : sExp f s h = (f s h).thn s (sExpk s) := rfl
@[simp] theorem sExpk_run (u : U) : sExpk s u h = .nx s h := rfl
@[simp] theorem sRet_run (f : Ev) : sRet f s h = (f s h).thn s SR.rt := rfl
@[simp] theorem sRetN_run : sRetN s h = .rt .non h := rfl
@[simp] theorem sIf_run (c : Eb) (f g : Sv) : sIf c f g s h = (c s h).thn s (brS f g s) := rfl
@[simp] theorem brS_t (f g : Sv) : brS f g s true h = f s h := rfl
@[simp] theorem brS_f (f g : Sv) : brS f g s false h = g s h := rfl
@[simp] theorem gNm_run (i : Nat) (u : U) : gNm i u s h = .nx (s.set i (some u)) h := rfl
@[simp] theorem gIx_run (g : G3) (fo fi : Ev) (u : U) : gIx g fo fi u s h = (fo s h).thn s (gI1 g fi u s) := rfl
@[simp] theorem gI1_run (g : G3) (fi : Ev) (u o : U) : gI1 g fi u s o h = (fi s h).thn s (gI2 g u s o) := rfl
theorem gI2_some {g : G3} {u o i : U} {h' : Hb} (e : g o i u h = some h') : gI2 g u s o i h = .nx s h' := by unfold gI2; rw [e]
@[simp] theorem sAsg_run (f : Ev) (g : Tg) : sAsg f g s h = (f s h).thn s (sAsgk g s) := rfl
@[simp] theorem sAsgk_run (g : Tg) (u : U) : sAsgk g s u h = g u s h := rfl
@[simp] theorem sSet_run (i : Nat) (f : Ev) : sSet i f s h = (f s h).thn s (sSetk i s) := rfl
@[simp] theorem sSetk_run (i : Nat) (u : U) : sSetk i s u h = .nx (s.set i (some u)) h := rfl
@[simp] theorem sPar_run (i j : Nat) (f : Ea) : sPar i j f s h = (f s h).thn s (sPark i j s) := rfl
@[simp] theorem sPark_run (i j : Nat) (x y : U) : sPark i j s [x, y] h = .nx ((s.set i (some x)).set j (some y)) h := rfl
@[simp] theorem sAug_run (i : Nat) (g : G2) (f : Ev) : sAug i g f s h = sAug0 i g f s h s[i]? := rfl
@[simp] theorem sAug0_run (i : Nat) (g : G2) (f : Ev) (x : U) : sAug0 i g f s h (some (some x)) = (f s h).thn s (sAugk i g s x) := rfl
@[simp] theorem sAugk_run (i : Nat) (g : G2) (x y : U) : sAugk i g s x y h = (g x y h).thn s (sSetk i s) := rfl
@[simp] theorem gN_run (g : Tn) (u : U) : gN g u s h = (match g u s with | some s' => .nx s' h | none => .bad) := rfl
@[simp] theorem nNm_run (i : Nat) (u : U) : nNm i u s = some (s.set i (some u)) := rfl
@[simp] theorem nTp_run (n : Nat) (gs : List U → Sg → Option Sg) (us : List U) : nTp n gs (.tup us) s = if us.length = n then gs us s else none := rfl
@[simp] theorem nsNil_run : nsNil [] s = some s := rfl
@[simp] theorem nsCons_run (g : Tn) (gs : List U → Sg → Option Sg) (u : U) (r : List U) : nsCons g gs (u :: r) s = (g u s).bind (gs r) := rfl
@[simp] theorem sFor_run (f : Si) (g : Tg) (b : Sv) : sFor f g b s h = (f s h).thn s (sFork g b s) := rfl
@[simp] theorem sFork_run (g : Tg) (b : Sv) (src : Src) : sFork g b s src h = forL src.ok g b src.xs s h := rfl
@[simp] theorem iSeq_run (f : Ev) : iSeq f s h = (f s h).bind iSeqk := rfl
@[simp] theorem iSeqk_tup (xs : List U) : iSeqk (.tup xs) h = .ok ⟨xs, fun _ => True⟩ h := rfl
theorem iSeqk_lst {a : Nat} {xs : List U} (e : h[a]? = some (.lst xs)) : iSeqk (.ref a) h = .ok ⟨xs, fun h' => h'[a]? = some (.lst xs)⟩ h := by unfold iSeqk srcU; simp [e]
theorem iSeqk_fro {a : Nat} {xs : List U} (e : h[a]? = some (.fro xs)) : iSeqk (.ref a) h = .ok ⟨xs, fun h' => h'[a]? = some (.fro xs)⟩ h := by unfold iSeqk srcU; simp [e]
@[simp] theorem iRg1_run (f : Ea) : iRg1 f s h = (f s h).bind iRg1k := rfl
@[simp] theorem iRg1k_run {j : Int} (e : j < 4611686018427387904) (e0 : -4611686018427387904 ≤ j) : iRg1k [.int j] h = .ok ⟨rgU 0 j.toNat, fun _ => True⟩ h := by
  have hb : big62 j := ⟨e0, e⟩
  unfold iRg1k rgS1
  simp only [if_pos hb]
@[simp] theorem iRg2_run (f : Ea) : iRg2 f s h = (f s h).bind iRg2k := rfl
@[simp] theorem iRg2k_run {i j : Int} (d0 : -4611686018427387904 ≤ i) (d : i < 4611686018427387904) (e0 : -4611686018427387904 ≤ j) (e : j < 4611686018427387904) : iRg2k [.int i, .int j] h = .ok ⟨rgU i (j - i).toNat, fun _ => True⟩ h := by
  have hb : big62 i ∧ big62 j := ⟨⟨d0, d⟩, e0, e⟩
  unfold iRg2k rgS2
  simp only [if_pos hb]
@[simp] theorem iEn_run (f : Ev) : iEn f s h = (f s h).bind iEnk := rfl
theorem iEnk_lst {a : Nat} {xs : List U} (e : h[a]? = some (.lst xs)) : iEnk (.ref a) h = .ok ⟨enU xs, fun h' => h'[a]? = some (.lst xs)⟩ h := by unfold iEnk; simp [e]
@[simp] theorem eLc_run (fi : Si) (g : Tn) (own : List Nat) (tt : Eb) (fe : Ev) : eLc fi g own tt fe s h = (fi s h).bind (lcK g own tt fe s) := rfl
@[simp] theorem bYes_run : bYes s h = .ok true h := rfl
/-! values -/
theorem vIx_tup {xs : List U} {i : Int} {u : U} (e : L2.atI xs i = some u) : vIx (.tup xs) (.int i) h = .ok u h := by unfold vIx seqU; simp [e]
theorem vIx_lst {a : Nat} {xs : List U} {i : Int} {u : U} (q : h[a]? = some (.lst xs)) (e : L2.atI xs i = some u) : vIx (.ref a) (.int i) h = .ok u h := by unfold vIx seqU; simp [e, q]
theorem atI_of_nat {α : Type} {xs : List α} {k : Nat} {u : α} (e : xs[k]? = some u) : L2.atI xs (k : Int) = some u := atI_nat e
@[simp] theorem vIx_tup0 (x : U) (r : List U) : vIx (.tup (x :: r)) (.int 0) h = .ok x h := vIx_tup (atI_nat (j := 0) rfl)
@[simp] theorem vIx_tup1 (x y : U) (r : List U) : vIx (.tup (x :: y :: r)) (.int 1) h = .ok y h := vIx_tup (atI_nat (j := 1) rfl)
@[simp] theorem vIx_tup2 (x y z : U) (r : List U) : vIx (.tup (x :: y :: z :: r)) (.int 2) h = .ok z h := vIx_tup (atI_nat (j := 2) rfl)
@[simp] theorem cLen_tup (xs : List U) : cLen [.tup xs] h = .ok (.int xs.length) h := rfl
theorem cLen_lst {a : Nat} {xs : List U} (e : h[a]? = some (.lst xs)) : cLen [.ref a] h = .ok (.int xs.length) h := by unfold cLen seqU; simp [e]
theorem cLst_lst {a : Nat} {xs : List U} (e : h[a]? = some (.lst xs)) : cLst [.ref a] h = .ok (.ref h.length) (h ++ [.lst xs]) := by unfold cLst seqU; simp [e]
@[simp] theorem cLst_tup (xs : List U) : cLst [.tup xs] h = .ok (.ref h.length) (h ++ [.lst xs]) := rfl
theorem cTup_lst {a : Nat} {xs : List U} (e : h[a]? = some (.lst xs)) : cTup [.ref a] h = .ok (.tup xs) h := by unfold cTup lstU; simp [e]
theorem pIx_run {a : Nat} {xs : List U} {i : Int} {j : Nat} {u : U} (q : h[a]? = some (.lst xs)) (e : ixN xs.length i = some j) : pIx (.ref a) (.int i) u h = some (h.set a (.lst (xs.set j u))) := by unfold pIx; simp [q, e]
theorem mAppend_run {a : Nat} {xs : List U} {y : U} (q : h[a]? = some (.lst xs)) (e : xs.length ≤ 10000000) : mAppend (.ref a) [y] h = .ok .non (h.set a (.lst (xs ++ [y]))) := by unfold mAppend; simp [q, small_line' e]
@[simp] theorem isi_tup_tup (xs : List U) : isiU "tuple" (.tup xs) h = .ok (.bl true) h := rfl
@[simp] theorem isi_tup_int (i : Int) : isiU "tuple" (.int i) h = .ok (.bl false) h := rfl
@[simp] theorem isi_tup_bl (i : Bool) : isiU "tuple" (.bl i) h = .ok (.bl false) h := rfl
@[simp] theorem isi_tup_str (i : Str) : isiU "tuple" (.str i) h = .ok (.bl false) h := rfl
@[simp] theorem isi_tup_non : isiU "tuple" .non h = .ok (.bl false) h := rfl
@[simp] theorem isi_lst_tup (xs : List U) : isiU "list" (.tup xs) h = .ok (.bl false) h := rfl
@[simp] theorem isi_lst_int (i : Int) : isiU "list" (.int i) h = .ok (.bl false) h := rfl
@[simp] theorem isi_lst_bl (i : Bool) : isiU "list" (.bl i) h = .ok (.bl false) h := rfl
@[simp] theorem isi_lst_str (i : Str) : isiU "list" (.str i) h = .ok (.bl false) h := rfl
@[simp] theorem isi_lst_non : isiU "list" .non h = .ok (.bl false) h := rfl
theorem isi_tup_ref {a : Nat} {xs : List U} (e : h[a]? = some (.lst xs)) : isiU "tuple" (.ref a) h = .ok (.bl false) h := by unfold isiU tyU; simp [e]; rfl
theorem isi_lst_ref {a : Nat} {xs : List U} (e : h[a]? = some (.lst xs)) : isiU "list" (.ref a) h = .ok (.bl true) h := by unfold isiU tyU; simp [e]; rfl
@[simp] theorem isi_bl_tup (xs : List U) : isiU "bool" (.tup xs) h = .ok (.bl false) h := rfl
@[simp] theorem isi_bl_int (i : Int) : isiU "bool" (.int i) h = .ok (.bl false) h := rfl
@[simp] theorem isi_bl_bl (i : Bool) : isiU "bool" (.bl i) h = .ok (.bl true) h := rfl
@[simp] theorem isi_bl_str (i : Str) : isiU "bool" (.str i) h = .ok (.bl false) h := rfl
@[simp] theorem isi_bl_non : isiU "bool" .non h = .ok (.bl false) h := rfl
@[simp] theorem isi_str_tup (xs : List U) : isiU "str" (.tup xs) h = .ok (.bl false) h := rfl
@[simp] theorem isi_str_int (i : Int) : isiU "str" (.int i) h = .ok (.bl false) h := rfl
@[simp] theorem isi_str_bl (i : Bool) : isiU "str" (.bl i) h = .ok (.bl false) h := rfl
@[simp] theorem isi_str_str (i : Str) : isiU "str" (.str i) h = .ok (.bl true) h := rfl
@[simp] theorem isi_str_non : isiU "str" .non h = .ok (.bl false) h := rfl
@[simp] theorem isi_int_tup (xs : List U) : isiU "int" (.tup xs) h = .ok (.bl false) h := rfl
@[simp] theorem isi_int_int (i : Int) : isiU "int" (.int i) h = .ok (.bl true) h := rfl
@[simp] theorem isi_int_bl (i : Bool) : isiU "int" (.bl i) h = .ok (.bl true) h := rfl
@[simp] theorem isi_int_str (i : Str) : isiU "int" (.str i) h = .ok (.bl false) h := rfl
@[simp] theorem isi_int_non : isiU "int" .non h = .ok (.bl false) h := rfl
end
/-! ### loops by an invariant -/
/-- what is wanted of a statement's end -/
structure Wants where
  nx : Sg → Hb → Prop
  rt : U → Hb → Prop := fun _ _ => False
  bk : Sg → Hb → Prop := fun _ _ => False
  ct : Sg → Hb → Prop := fun _ _ => False
@[irreducible] def SR.is (r : SR) (D : Wants) : Prop := match r with
  | .nx s h => D.nx s h
  | .rt u h => D.rt u h
  | .bk s h => D.bk s h
  | .ct s h => D.ct s h
  | _ => False
@[simp] theorem is_nx (s : Sg) (h : Hb) (D : Wants) : (SR.nx s h).is D ↔ D.nx s h := by unfold SR.is; exact Iff.rfl
@[simp] theorem is_rt (u : U) (h : Hb) (D : Wants) : (SR.rt u h).is D ↔ D.rt u h := by unfold SR.is; exact Iff.rfl
@[simp] theorem is_bk (s : Sg) (h : Hb) (D : Wants) : (SR.bk s h).is D ↔ D.bk s h := by unfold SR.is; exact Iff.rfl
@[simp] theorem is_ct (s : Sg) (h : Hb) (D : Wants) : (SR.ct s h).is D ↔ D.ct s h := by unfold SR.is; exact Iff.rfl
@[simp] theorem is_ex (x : Ex) (s : Sg) (h : Hb) (D : Wants) : ¬ (SR.ex x s h).is D := by unfold SR.is; exact id
@[simp] theorem is_bad (D : Wants) : ¬ SR.bad.is D := by unfold SR.is; exact id
theorem is_thn {r : SR} {k : Sg → Hb → SR} {D : Wants} (q : r.is { D with nx := fun s h => (k s h).is D }) : (r.thn k).is D := by
  cases r with
  | nx s h => exact (is_nx _ _ _).mp q
  | rt u h => rw [is_rt] at q; exact (is_rt _ _ D).mpr q
  | bk s h => rw [is_bk] at q; exact (is_bk _ _ D).mpr q
  | ct s h => rw [is_ct] at q; exact (is_ct _ _ D).mpr q
  | ex x s h => exact (is_ex _ _ _ _ q).elim
  | bad => exact (is_bad _ q).elim
theorem is_mono {r : SR} {D D' : Wants} (q : r.is D) (h1 : ∀ s h, D.nx s h → D'.nx s h) (h2 : ∀ s h, D.rt s h → D'.rt s h) (h3 : ∀ s h, D.bk s h → D'.bk s h) (h4 : ∀ s h, D.ct s h → D'.ct s h) : r.is D' := by
  cases r with
  | nx s h => exact (is_nx _ _ _).mpr (h1 _ _ ((is_nx _ _ _).mp q))
  | rt u h => exact (is_rt _ _ _).mpr (h2 _ _ ((is_rt _ _ _).mp q))
  | bk s h => exact (is_bk _ _ _).mpr (h3 _ _ ((is_bk _ _ _).mp q))
  | ct s h => exact (is_ct _ _ _).mpr (h4 _ _ ((is_ct _ _ _).mp q))
  | ex x s h => exact (is_ex _ _ _ _ q).elim
  | bad => exact (is_bad _ q).elim
/-- a for loop: I by the turn, the slots, the heap -/
theorem for_inv {ok : Hb → Prop} {g : Tg} {b : Sv} {xs : List U} {D : Wants} (I : Nat → Sg → Hb → Prop) (hok : ∀ i s h, i ≤ xs.length → I i s h → ok h)
    (turn : ∀ i x s h, xs[i]? = some x → I i s h → ((g x s h).thn b).is { nx := I (i + 1), ct := I (i + 1), bk := D.nx, rt := D.rt }) (fin : ∀ s h, I xs.length s h → D.nx s h) :
    ∀ {s : Sg} {h : Hb}, I 0 s h → (forL ok g b xs s h).is D := by
  have key : ∀ (n i : Nat) (s : Sg) (h : Hb), i + n = xs.length → I i s h → (forL ok g b (xs.drop i) s h).is D := by
    intro n
    induction n with
    | zero =>
      intro i s h e hi
      have : xs.drop i = [] := List.drop_eq_nil_of_le (by omega)
      rw [this]
      unfold forL
      rw [if_pos (hok i s h (by omega) hi)]
      have ei : i = xs.length := by omega
      subst ei
      exact (is_nx _ _ _).mpr (fin s h hi)
    | succ n ih =>
      intro i s h e hi
      have lt : i < xs.length := by omega
      rw [List.drop_eq_getElem_cons lt]
      unfold forL
      rw [if_pos (hok i s h (by omega) hi)]
      have t := turn i xs[i] s h (List.getElem?_eq_getElem lt) hi
      cases q : (g xs[i] s h).thn b with
      | nx s2 h2 => rw [q, is_nx] at t; exact ih (i + 1) s2 h2 (by omega) t
      | ct s2 h2 => rw [q, is_ct] at t; exact ih (i + 1) s2 h2 (by omega) t
      | bk s2 h2 => rw [q, is_bk] at t; exact (is_nx _ _ D).mpr t
      | rt u h2 => rw [q, is_rt] at t; exact (is_rt _ _ D).mpr t
      | ex x s2 h2 => rw [q] at t; exact (is_ex _ _ _ _ t).elim
      | bad => rw [q] at t; exact (is_bad _ t).elim
  intro s h h0
  have := key xs.length 0 s h (by omega) h0
  rwa [List.drop_zero] at this
/-- a while loop: I and a measure -/
theorem while_inv {c : Eb} {b : Sv} {D : Wants} (I : Sg → Hb → Prop) (μ : Sg → Hb → Nat)
    (turn : ∀ s h, I s h → ∃ k h1, c s h = .ok k h1 ∧ (k = false → D.nx s h1) ∧ (k = true → (b s h1).is { nx := fun s2 h2 => I s2 h2 ∧ μ s2 h2 < μ s h, ct := fun s2 h2 => I s2 h2 ∧ μ s2 h2 < μ s h, bk := D.nx, rt := D.rt })) :
    ∀ {s : Sg} {h : Hb}, I s h → (sWhile c b s h).is D := by
  have key : ∀ (n : Nat) (s : Sg) (h : Hb), μ s h ≤ n → I s h → ∃ r, whileN c b (n + 1) s h = some r ∧ r.is D := by
    intro n
    induction n with
    | zero =>
      intro s h hn hi
      obtain ⟨k, h1, e, hf, ht⟩ := turn s h hi
      unfold whileN
      rw [e]
      cases k with
      | false => exact ⟨_, rfl, (is_nx _ _ _).mpr (hf rfl)⟩
      | true =>
        have t := ht rfl
        simp only []
        cases q : b s h1 with
        | nx s2 h2 => rw [q, is_nx] at t; have t2 : μ s2 h2 < μ s h := t.2; omega
        | ct s2 h2 => rw [q, is_ct] at t; have t2 : μ s2 h2 < μ s h := t.2; omega
        | bk s2 h2 => rw [q, is_bk] at t; exact ⟨_, rfl, (is_nx _ _ _).mpr t⟩
        | rt u h2 => rw [q, is_rt] at t; exact ⟨_, rfl, (is_rt _ _ _).mpr t⟩
        | ex x s2 h2 => rw [q] at t; exact (is_ex _ _ _ _ t).elim
        | bad => rw [q] at t; exact (is_bad _ t).elim
    | succ n ih =>
      intro s h hn hi
      obtain ⟨k, h1, e, hf, ht⟩ := turn s h hi
      unfold whileN
      rw [e]
      cases k with
      | false => exact ⟨_, rfl, (is_nx _ _ _).mpr (hf rfl)⟩
      | true =>
        have t := ht rfl
        simp only []
        cases q : b s h1 with
        | nx s2 h2 => rw [q, is_nx] at t; have t2 : μ s2 h2 < μ s h := t.2; exact ih s2 h2 (by omega) t.1
        | ct s2 h2 => rw [q, is_ct] at t; have t2 : μ s2 h2 < μ s h := t.2; exact ih s2 h2 (by omega) t.1
        | bk s2 h2 => rw [q, is_bk] at t; exact ⟨_, rfl, (is_nx _ _ _).mpr t⟩
        | rt u h2 => rw [q, is_rt] at t; exact ⟨_, rfl, (is_rt _ _ _).mpr t⟩
        | ex x s2 h2 => rw [q] at t; exact (is_ex _ _ _ _ t).elim
        | bad => rw [q] at t; exact (is_bad _ t).elim
  intro s h hi
  obtain ⟨r, e, q⟩ := key (μ s h) s h (Nat.le_refl _) hi
  rw [sWhile_of e]
  exact q
@[irreducible] def Res.is {α : Type} (r : Res α) (Q : α → Hb → Prop) : Prop := match r with
  | .ok a h => Q a h
  | _ => False
@[simp] theorem ris_ok {α : Type} (a : α) (h : Hb) (Q : α → Hb → Prop) : (Res.ok a h).is Q ↔ Q a h := by unfold Res.is; exact Iff.rfl
@[simp] theorem ris_exc {α : Type} (x : Ex) (h : Hb) (Q : α → Hb → Prop) : ¬ (Res.ex x h : Res α).is Q := by unfold Res.is; exact id
@[simp] theorem ris_bad {α : Type} (Q : α → Hb → Prop) : ¬ (Res.bad : Res α).is Q := by unfold Res.is; exact id
theorem ris_bind {α β : Type} {r : Res α} {k : α → Hb → Res β} {Q : β → Hb → Prop} (q : r.is fun a h => (k a h).is Q) : (r.bind k).is Q := by
  cases r with
  | ok a h => exact (ris_ok _ _ _).mp q
  | ex x h => exact (ris_exc _ _ _ q).elim
  | bad => exact (ris_bad _ q).elim
theorem ris_thn {α : Type} {r : Res α} {s : Sg} {k : α → Hb → SR} {D : Wants} (q : r.is fun a h => (k a h).is D) : (r.thn s k).is D := by
  cases r with
  | ok a h => exact (ris_ok _ _ _).mp q
  | ex x h => exact (ris_exc _ _ _ q).elim
  | bad => exact (ris_bad _ q).elim
theorem ris_out {r : SR} {Q : U → Hb → Prop} (q : r.is { nx := fun _ h => Q .non h, rt := Q }) : r.out.is Q := by
  cases r with
  | nx s h => exact (ris_ok _ _ _).mpr ((is_nx _ _ _).mp q)
  | rt u h => exact (ris_ok _ _ _).mpr ((is_rt _ _ _).mp q)
  | bk s h => exact ((is_bk _ _ _).mp q).elim
  | ct s h => exact ((is_ct _ _ _).mp q).elim
  | ex x s h => exact (is_ex _ _ _ _ q).elim
  | bad => exact (is_bad _ q).elim
theorem ris_mono {α : Type} {r : Res α} {Q Q' : α → Hb → Prop} (q : r.is Q) (m : ∀ a h, Q a h → Q' a h) : r.is Q' := by
  cases r with
  | ok a h => exact (ris_ok _ _ _).mpr (m a h ((ris_ok _ _ _).mp q))
  | ex x h => exact (ris_exc _ _ _ q).elim
  | bad => exact (ris_bad _ q).elim
theorem ris_ex {α : Type} {r : Res α} {Q : α → Hb → Prop} (q : r.is Q) : ∃ a h, r = .ok a h ∧ Q a h := by
  cases r with
  | ok a h => exact ⟨a, h, rfl, (ris_ok _ _ _).mp q⟩
  | ex x h => exact (ris_exc _ _ _ q).elim
  | bad => exact (ris_bad _ q).elim
theorem ris_of {α : Type} {r : Res α} {Q : α → Hb → Prop} {a : α} {h : Hb} (e : r = .ok a h) (q : Q a h) : r.is Q := by rw [e]; exact (ris_ok _ _ _).mpr q
/-- a comprehension: I by the turn, the list so far, the heap (at D stands the list so far) -/
theorem lc_inv {ok : Hb → Prop} {g : Tn} {own : List Nat} {tt : Eb} {fe : Ev} {D : Nat} {s : Sg} {xs : List U} {Q : Unit → Hb → Prop} (I : Nat → List U → Hb → Prop) (hok : ∀ i acc h, i ≤ xs.length → I i acc h → ok h)
    (hD : ∀ i acc h, I i acc h → h[D]? = some (.lst acc))
    (turn : ∀ i x acc h, xs[i]? = some x → I i acc h → ∃ s2, g x (wipeG s own) = some s2 ∧ (tt s2 h).is fun b h1 => if b = true then (fe s2 h1).is fun y h2 => h2[D]? = some (.lst acc) ∧ acc.length ≤ 10000000 ∧ I (i + 1) (acc ++ [y]) (h2.set D (.lst (acc ++ [y]))) else I (i + 1) acc h1)
    (fin : ∀ acc h, I xs.length acc h → Q () h) : ∀ {h : Hb}, I 0 [] h → (lcL ok g own tt fe D s xs h).is Q := by
  have key : ∀ (n i : Nat) (acc : List U) (h : Hb), i + n = xs.length → I i acc h → (lcL ok g own tt fe D s (xs.drop i) h).is Q := by
    intro n
    induction n with
    | zero =>
      intro i acc h e hi
      have : xs.drop i = [] := List.drop_eq_nil_of_le (by omega)
      rw [this]
      unfold lcL
      rw [if_pos (hok i acc h (by omega) hi)]
      have ei : i = xs.length := by omega
      subst ei
      exact (ris_ok _ _ _).mpr (fin acc h hi)
    | succ n ih =>
      intro i acc h e hi
      have lt : i < xs.length := by omega
      rw [List.drop_eq_getElem_cons lt]
      unfold lcL
      rw [if_pos (hok i acc h (by omega) hi)]
      obtain ⟨s2, eg, t⟩ := turn i xs[i] acc h (List.getElem?_eq_getElem lt) hi
      rw [eg]
      unfold lcT
      simp only []
      cases q : tt s2 h with
      | ex x h1 => rw [q] at t; exact (ris_exc _ _ _ t).elim
      | bad => rw [q] at t; exact (ris_bad _ t).elim
      | ok b h1 =>
        rw [q, ris_ok] at t
        simp only [calm_ok, bind_ok]
        have t : (if b = true then (fe s2 h1).is fun y h2 => h2[D]? = some (.lst acc) ∧ acc.length ≤ 10000000 ∧ I (i + 1) (acc ++ [y]) (h2.set D (.lst (acc ++ [y]))) else I (i + 1) acc h1) := t
        cases b with
        | false =>
          rw [if_neg Bool.false_ne_true] at t
          exact ih (i + 1) acc h1 (by omega) t
        | true =>
          rw [if_pos rfl] at t
          unfold lcB
          simp only []
          cases q2 : fe s2 h1 with
          | ex x h2 => rw [q2] at t; exact (ris_exc _ _ _ t).elim
          | bad => rw [q2] at t; exact (ris_bad _ t).elim
          | ok y h2 =>
            rw [q2, ris_ok] at t
            obtain ⟨t1, t2, t3⟩ := t
            simp only [calm_ok, bind_ok, lcA, t1]
            rw [if_pos (small_line' t2)]
            exact ih (i + 1) _ _ (by omega) t3
  intro h h0
  have := key xs.length 0 [] h (by omega) h0
  rwa [List.drop_zero] at this
end Lz
namespace Lz
open PySem PySem.Spec PyProof.Rows L2
open Classical
/-- a statement that rewriting leaves alone -/
structure Hid (p : Prop) : Prop where
  o : p
/-! ### frames: what stood stands, but for the places W -/
structure Fr (W : List Nat) (h h' : Hb) : Prop where
  len : h.length ≤ h'.length
  keep : ∀ i, i < h.length → i ∉ W → h'[i]? = h[i]?
theorem Fr.refl (W : List Nat) (h : Hb) : Fr W h h := ⟨Nat.le_refl _, fun _ _ _ => rfl⟩
theorem Fr.trans {W : List Nat} {h h1 h2 : Hb} (a : Fr W h h1) (b : Fr W h1 h2) : Fr W h h2 :=
  ⟨Nat.le_trans a.len b.len, fun i hi hw => (b.keep i (Nat.lt_of_lt_of_le hi a.len) hw).trans (a.keep i hi hw)⟩
theorem Fr.weak {W W' : List Nat} {h h' : Hb} (a : Fr W h h') (s : ∀ i ∈ W, i ∈ W') : Fr W' h h' := ⟨a.len, fun i hi hw => a.keep i hi fun m => hw (s i m)⟩
theorem Fr.nil {W : List Nat} {h h' : Hb} (a : Fr [] h h') : Fr W h h' := a.weak (by simp)
theorem Fr.at {W : List Nat} {h h' : Hb} (a : Fr W h h') {i : Nat} {o : O} (e : h[i]? = some o) (hw : i ∉ W) : h'[i]? = some o := by
  rw [a.keep i (List.getElem?_eq_some_iff.mp e).1 hw]; exact e
theorem Fr.at0 {h h' : Hb} (a : Fr [] h h') {i : Nat} {o : O} (e : h[i]? = some o) : h'[i]? = some o := a.at e (by simp)
theorem Fr.app {W : List Nat} (h G : Hb) : Fr W h (h ++ G) := ⟨by simp, fun i hi _ => by rw [List.getElem?_append_left hi]⟩
theorem Fr.set {W : List Nat} {h : Hb} {i : Nat} {o : O} (hi : i ∈ W ∨ h.length ≤ i) : Fr W h (h.set i o) := ⟨by simp, fun j hj hw => by
  by_cases e : i = j
  · subst e
    rcases hi with hi | hi
    · exact absurd hi hw
    · omega
  · rw [List.getElem?_set_ne e]⟩
/-- a place that is new to the first heap may be written behind it -/
theorem Fr.setNew {W : List Nat} {h h1 : Hb} {i : Nat} {o : O} (a : Fr W h h1) (hi : h.length ≤ i) : Fr W h (h1.set i o) := ⟨by rw [List.length_set]; exact a.len, fun j hj hw => by
  have e : i ≠ j := by omega
  rw [List.getElem?_set_ne e]; exact a.keep j hj hw⟩
theorem lt_of_at {h : Hb} {i : Nat} {o : O} (e : h[i]? = some o) : i < h.length := (List.getElem?_eq_some_iff.mp e).1

/-- a comprehension: S by the turn, the list so far, the heap; W the places that its turns may write -/
theorem lc_run {ok : Hb → Prop} {g : Tn} {own : List Nat} {tt : Eb} {fe : Ev} {s : Sg} {xs : List U} {h : Hb} {W : List Nat} (S : Nat → List U → Hb → Prop) (hW : ∀ i ∈ W, i < h.length) (hl : xs.length ≤ 10000000)
    (hok : ∀ i acc h', i ≤ xs.length → Fr W h h' → S i acc h' → ok h') (h0 : S 0 [] (h ++ [.lst []]))
    (turn : ∀ i x acc h', xs[i]? = some x → Fr W h h' → h'[h.length]? = some (.lst acc) → S i acc h' → ∃ s2, g x (wipeG s own) = some s2 ∧ (tt s2 h').is fun k h1 => Fr W h' h1 ∧ (k = false → S (i + 1) acc h1) ∧
      (k = true → (fe s2 h1).is fun y h2 => Fr W h1 h2 ∧ S (i + 1) (acc ++ [y]) (h2.set h.length (.lst (acc ++ [y]))))) :
    (lcL ok g own tt fe h.length s xs (h ++ [.lst []])).is fun _ h' => Fr W h h' ∧ ∃ acc, h'[h.length]? = some (.lst acc) ∧ acc.length ≤ xs.length ∧ S xs.length acc h' := by
  have nW : h.length ∉ W := fun m => Nat.lt_irrefl _ (hW _ m)
  refine lc_inv (I := fun i acc h' => Fr W h h' ∧ h'[h.length]? = some (.lst acc) ∧ acc.length ≤ i ∧ S i acc h') (fun i acc h' hi q => hok i acc h' hi q.1 q.2.2.2) (fun i acc h' q => q.2.1) (fun i x acc h' hx q => ?_) (fun acc h' q => ⟨q.1, acc, q.2.1, q.2.2.1, q.2.2.2⟩)
    ⟨Fr.app _ _, by simp, Nat.le_refl _, h0⟩
  obtain ⟨f, d, l, q⟩ := q
  have hi : i < xs.length := (List.getElem?_eq_some_iff.mp hx).1
  obtain ⟨s2, e, t⟩ := turn i x acc h' hx f d q
  refine ⟨s2, e, ris_mono t fun k h1 ⟨f1, t1, t2⟩ => ?_⟩
  cases k with
  | false =>
    rw [if_neg Bool.false_ne_true]
    exact ⟨f.trans f1, f1.at d nW, by omega, t1 rfl⟩
  | true =>
    rw [if_pos rfl]
    refine ris_mono (t2 rfl) fun y h2 ⟨f2, t3⟩ => ?_
    have d2 := f2.at (f1.at d nW) nW
    exact ⟨d2, by omega, ((f.trans f1).trans f2).setNew (Nat.le_refl _), by rw [List.getElem?_set_self (lt_of_at d2)], by simp; omega, t3⟩
/-- a comprehension without a test, whose turns write nothing: its list -/
theorem lc_map {ok : Hb → Prop} {g : Tn} {own : List Nat} {fe : Ev} {s : Sg} {xs : List U} {h : Hb} (f : Nat → U) (hl : xs.length ≤ 10000000) (hok : ∀ h', Fr [] h h' → ok h')
    (turn : ∀ i x h', xs[i]? = some x → Fr [] h h' → ∃ s2, g x (wipeG s own) = some s2 ∧ (fe s2 h').is fun y h2 => y = f i ∧ Fr [] h' h2) :
    (lcL ok g own bYes fe h.length s xs (h ++ [.lst []])).is fun _ h' => Fr [] h h' ∧ h'[h.length]? = some (.lst ((List.range xs.length).map f)) := by
  refine ris_mono (lc_run (W := []) (fun i acc _ => acc = (List.range i).map f) (by simp) hl (fun i acc h' _ fr _ => hok h' fr) rfl (fun i x acc h' hx fr d e => ?_)) fun _ h' ⟨fr, acc, d, _, e⟩ => ⟨fr, by rw [d, e]⟩
  obtain ⟨s2, e1, t⟩ := turn i x h' hx fr
  refine ⟨s2, e1, ?_⟩
  simp only [bYes_run, ris_ok]
  refine ⟨Fr.refl _ _, by simp, fun _ => ris_mono t fun y h2 ⟨ey, fr2⟩ => ⟨fr2, ?_⟩⟩
  rw [List.range_succ, List.map_append, ← e, ey]; rfl
/-- with a test -/
theorem lc_filter {ok : Hb → Prop} {g : Tn} {own : List Nat} {tt : Eb} {fe : Ev} {s : Sg} {xs : List U} {h : Hb} (p : Nat → Bool) (f : Nat → U) (hl : xs.length ≤ 10000000) (hok : ∀ h', Fr [] h h' → ok h')
    (turn : ∀ i x h', xs[i]? = some x → Fr [] h h' → ∃ s2, g x (wipeG s own) = some s2 ∧ (tt s2 h').is fun k h1 => k = p i ∧ Fr [] h' h1 ∧ (p i = true → (fe s2 h1).is fun y h2 => y = f i ∧ Fr [] h1 h2)) :
    (lcL ok g own tt fe h.length s xs (h ++ [.lst []])).is fun _ h' => Fr [] h h' ∧ h'[h.length]? = some (.lst (((List.range xs.length).filter p).map f)) := by
  refine ris_mono (lc_run (W := []) (fun i acc _ => acc = ((List.range i).filter p).map f) (by simp) hl (fun i acc h' _ fr _ => hok h' fr) rfl (fun i x acc h' hx fr d e => ?_)) fun _ h' ⟨fr, acc, d, _, e⟩ => ⟨fr, by rw [d, e]⟩
  obtain ⟨s2, e1, t⟩ := turn i x h' hx fr
  refine ⟨s2, e1, ris_mono t fun k h1 ⟨ek, fr1, t1⟩ => ⟨fr1, fun hk => ?_, fun hk => ?_⟩⟩
  · rw [List.range_succ, List.filter_append, List.map_append, ← e]
    have : p i = false := by rw [← ek]; exact hk
    simp [this]
  · have pi : p i = true := by rw [← ek]; exact hk
    refine ris_mono (t1 pi) fun y h2 ⟨ey, fr2⟩ => ⟨fr2, ?_⟩
    rw [List.range_succ, List.filter_append, List.map_append, ← e]
    simp [pi, ey]
/-- a comprehension whose turns leave the heap as it is -/
theorem lc_pure {ok : Hb → Prop} {g : Tn} {own : List Nat} {tt : Eb} {fe : Ev} {s : Sg} {xs : List U} {h : Hb} (p : Nat → Bool) (f : Nat → U) (hl : xs.length ≤ 10000000) (hok : ∀ h', Fr [] h h' → ok h')
    (turn : ∀ i x h', xs[i]? = some x → Fr [] h h' → ∃ s2, g x (wipeG s own) = some s2 ∧ tt s2 h' = .ok (p i) h' ∧ (p i = true → fe s2 h' = .ok (f i) h')) :
    (lcL ok g own tt fe h.length s xs (h ++ [.lst []])).is fun _ h' => h' = h ++ [.lst (((List.range xs.length).filter p).map f)] := by
  refine ris_mono (lc_run (W := []) (fun i acc h' => h' = h ++ [.lst acc] ∧ acc = ((List.range i).filter p).map f) (by simp) hl (fun i acc h' _ fr _ => hok h' fr) ⟨rfl, rfl⟩ (fun i x acc h' hx fr d e => ?_)) fun _ h' ⟨fr, acc, d, _, e1, e2⟩ => by rw [e1, e2]
  obtain ⟨s2, e1, t, t1⟩ := turn i x h' hx fr
  refine ⟨s2, e1, ?_⟩
  rw [t, ris_ok]
  have es : (List.range (i + 1)).filter p = (List.range i).filter p ++ [i].filter p := by rw [List.range_succ, List.filter_append]
  refine ⟨Fr.refl _ _, fun hk => ⟨e.1, ?_⟩, fun hk => ?_⟩
  · rw [es, e.2]; simp [hk]
  · rw [t1 hk, ris_ok]
    refine ⟨Fr.refl _ _, ?_, ?_⟩
    · rw [e.1]; simp
    · rw [es, e.2]; simp [hk]
theorem lcE_run (D : Nat) (u : Unit) (h : Hb) : lcE D u h = .ok (.ref D) h := rfl
/-- an expression that is a comprehension -/
theorem lc_is {g : Tn} {own : List Nat} {tt : Eb} {fe : Ev} {s : Sg} {src : Src} {h : Hb} {Q : U → Hb → Prop} (q : (lcL src.ok g own tt fe h.length s src.xs (h ++ [.lst []])).is fun _ h' => Q (.ref h.length) h') : (lcK g own tt fe s src h).is Q := by
  unfold lcK
  exact ris_bind (ris_mono q fun _ h' t => (ris_ok _ _ _).mpr t)
end Lz
namespace Lz
open PySem PySem.Spec PyProof.Rows L2
/-! ### the same data: numbers, texts, truth values, None, tuples and lists of them -/
def SameD (h : Hb) : Nat → U → U → Prop
  | n + 1, .tup xs, .tup ys => xs.length = ys.length ∧ xs.length ≤ 10000000 ∧ ∀ (i : Nat) (x y : U), xs[i]? = some x → ys[i]? = some y → SameD h n x y
  | n + 1, .ref a, .ref b => ∃ xs ys, h[a]? = some (.lst xs) ∧ h[b]? = some (.lst ys) ∧ xs.length = ys.length ∧ xs.length ≤ 10000000 ∧ ∀ (i : Nat) (x y : U), xs[i]? = some x → ys[i]? = some y → SameD h n x y
  | _ + 1, .non, .non => True
  | _ + 1, .bl a, .bl b => a = b
  | _ + 1, .int a, .int b => a = b
  | _ + 1, .str a, .str b => a = b
  | _, _, _ => False
theorem SameD.fr {h h' : Hb} (f : Fr [] h h') : ∀ (n : Nat) (a b : U), SameD h n a b → SameD h' n a b
  | n + 1, .tup xs, .tup ys, q => by
    unfold SameD at q ⊢
    exact ⟨q.1, q.2.1, fun i x y h1 h2 => SameD.fr f n x y (q.2.2 i x y h1 h2)⟩
  | n + 1, .ref a, .ref b, q => by
    unfold SameD at q ⊢
    obtain ⟨xs, ys, h1, h2, h3, h4, h5⟩ := q
    exact ⟨xs, ys, f.at0 h1, f.at0 h2, h3, h4, fun i x y h1 h2 => SameD.fr f n x y (h5 i x y h1 h2)⟩
  | n + 1, .non, .non, q => by unfold SameD; trivial
  | n + 1, .bl a, .bl b, q => by unfold SameD at q ⊢; exact q
  | n + 1, .int a, .int b, q => by unfold SameD at q ⊢; exact q
  | n + 1, .str a, .str b, q => by unfold SameD at q ⊢; exact q
  | 0, _, _, q => by unfold SameD at q; exact q.elim
  | n + 1, .tup _, .non, q => by unfold SameD at q; exact q.elim
  | n + 1, .tup _, .bl _, q => by unfold SameD at q; exact q.elim
  | n + 1, .tup _, .int _, q => by unfold SameD at q; exact q.elim
  | n + 1, .tup _, .str _, q => by unfold SameD at q; exact q.elim
  | n + 1, .tup _, .ref _, q => by unfold SameD at q; exact q.elim
  | n + 1, .ref _, .non, q => by unfold SameD at q; exact q.elim
  | n + 1, .ref _, .bl _, q => by unfold SameD at q; exact q.elim
  | n + 1, .ref _, .int _, q => by unfold SameD at q; exact q.elim
  | n + 1, .ref _, .str _, q => by unfold SameD at q; exact q.elim
  | n + 1, .ref _, .tup _, q => by unfold SameD at q; exact q.elim
  | n + 1, .non, .bl _, q => by unfold SameD at q; exact q.elim
  | n + 1, .non, .int _, q => by unfold SameD at q; exact q.elim
  | n + 1, .non, .str _, q => by unfold SameD at q; exact q.elim
  | n + 1, .non, .ref _, q => by unfold SameD at q; exact q.elim
  | n + 1, .non, .tup _, q => by unfold SameD at q; exact q.elim
  | n + 1, .bl _, .non, q => by unfold SameD at q; exact q.elim
  | n + 1, .bl _, .int _, q => by unfold SameD at q; exact q.elim
  | n + 1, .bl _, .str _, q => by unfold SameD at q; exact q.elim
  | n + 1, .bl _, .ref _, q => by unfold SameD at q; exact q.elim
  | n + 1, .bl _, .tup _, q => by unfold SameD at q; exact q.elim
  | n + 1, .int _, .non, q => by unfold SameD at q; exact q.elim
  | n + 1, .int _, .bl _, q => by unfold SameD at q; exact q.elim
  | n + 1, .int _, .str _, q => by unfold SameD at q; exact q.elim
  | n + 1, .int _, .ref _, q => by unfold SameD at q; exact q.elim
  | n + 1, .int _, .tup _, q => by unfold SameD at q; exact q.elim
  | n + 1, .str _, .non, q => by unfold SameD at q; exact q.elim
  | n + 1, .str _, .bl _, q => by unfold SameD at q; exact q.elim
  | n + 1, .str _, .int _, q => by unfold SameD at q; exact q.elim
  | n + 1, .str _, .ref _, q => by unfold SameD at q; exact q.elim
  | n + 1, .str _, .tup _, q => by unfold SameD at q; exact q.elim
/-- no list in it, and not too deep -/
def Tree : Nat → U → Prop
  | 0, _ => False
  | n + 1, .tup xs => xs.length ≤ 10000000 ∧ ∀ x ∈ xs, Tree n x
  | _ + 1, .ref _ => False
  | _ + 1, _ => True
theorem Tree.same {h : Hb} : ∀ (n : Nat) (a : U), Tree n a → SameD h n a a
  | 0, a, q => by unfold Tree at q; exact q.elim
  | n + 1, .tup xs, q => by
    unfold Tree at q; unfold SameD
    refine ⟨rfl, q.1, fun i x y h1 h2 => ?_⟩
    rw [h1] at h2; cases h2
    exact Tree.same n x (q.2 x (List.mem_of_getElem? h1))
  | n + 1, .ref _, q => by unfold Tree at q; exact q.elim
  | n + 1, .non, q => by unfold SameD; trivial
  | n + 1, .bl _, q => by unfold SameD; rfl
  | n + 1, .int _, q => by unfold SameD; rfl
  | n + 1, .str _, q => by unfold SameD; rfl
theorem boolsU_map {f : Nat → Bool} : ∀ l : List Nat, boolsU (l.map fun i => U.bl (f i)) = some (l.map f)
  | [] => rfl
  | x :: l => by
    show (boolsU (l.map fun i => U.bl (f i))).map _ = _
    rw [boolsU_map l]; rfl
theorem cAll_run {h : Hb} {a : Nat} {l : List Nat} {f : Nat → Bool} (e : h[a]? = some (.lst (l.map fun i => U.bl (f i)))) : cAll [.ref a] h = .ok (.bl (l.all f)) h := by
  unfold cAll cB lstU
  simp only [e, Option.bind_some]
  rw [boolsU_map]
  simp [List.all_map]
theorem cAny_run {h : Hb} {a : Nat} {l : List Nat} {f : Nat → Bool} (e : h[a]? = some (.lst (l.map fun i => U.bl (f i)))) : cAny [.ref a] h = .ok (.bl (l.any f)) h := by
  unfold cAny cB lstU
  simp only [e, Option.bind_some]
  rw [boolsU_map]
  simp [List.any_map]
end Lz
namespace My
open PySem PySem.Spec PyProof.Rows L2 Lz
def topS (i : Nat) : Stmt := PySem.Challenge.pw_quaybest_k33_rows_and_packings.main.body.getD i (.Pass ⟨0, 0, 0, 0⟩)
/-! apart -/
abbrev s_apart : Stmt := topS 1
def N_apart : List Str := ["table", "first", "second", "degrees", "distances"]
theorem sc_apart : FnScope N_apart ["table", "first", "second"] (defScope s_apart) := ⟨rfl, rfl, rfl, by decide +kernel, rfl, by decide +kernel, by decide +kernel⟩
noncomputable def b_apart : Sv :=
  (sSeq
   (sAsg (eVar 0) (gN (nTp 2 (nsCons (nNm 3) (nsCons (nNm 4) nsNil)))))
  (sRet (eC cMax (aCons (eCon (.int 1)) (aCons (e2 vIx (eVar 4) (e2 vIx (e2 vIx (eVar 3) (eVar 1)) (eVar 2))) aNil)))))
noncomputable def r_apart : GC := runDef 5 3 b_apart
noncomputable def c_apart : Lz.Ctx := ⟨N_apart, defScope s_apart, N_apart, [("max", .bt)]⟩
theorem e_apart : blockC (compS 20 (c_apart)) (defBody s_apart) = some (b_apart) := by kernel_rfl
/-! violations -/
abbrev s_violations : Stmt := topS 2
def N_violations : List Str := ["table", "row", "found", "i", "j"]
theorem sc_violations : FnScope N_violations ["table", "row"] (defScope s_violations) := ⟨rfl, rfl, rfl, by decide +kernel, rfl, by decide +kernel, by decide +kernel⟩
noncomputable def b_violations : Sv :=
  (sSeq
   (sSet 2 (eLst aNil))
  (sSeq
   (sFor (iRg1 (aCons (eC cLen (aCons (eVar 1) aNil)) aNil)) (gN (nNm 3))
     (sFor (iRg2 (aCons (e2 vAdd (eVar 3) (eCon (.int 1))) (aCons (eC cLen (aCons (eVar 1) aNil)) aNil))) (gN (nNm 4))
       (sIf (asB (e2 vLt (eC cAbs (aCons (e2 vSub (e2 vIx (e2 vIx (eVar 1) (eVar 3)) (eCon (.int 1))) (e2 vIx (e2 vIx (eVar 1) (eVar 4)) (eCon (.int 1)))) aNil)) (eC r_apart (aCons (eVar 0) (aCons (e2 vIx (e2 vIx (eVar 1) (eVar 3)) (eCon (.int 0))) (aCons (e2 vIx (e2 vIx (eVar 1) (eVar 4)) (eCon (.int 0))) aNil))))))
         (sExp (eM mAppend (eVar 2) (aCons (eTup (aCons (eVar 3) (aCons (eVar 4) aNil))) aNil)))
         sNil)))
  (sRet (eC cTup (aCons (eVar 2) aNil)))))
noncomputable def r_violations : GC := runDef 5 2 b_violations
noncomputable def c_violations : Lz.Ctx := ⟨N_violations, defScope s_violations, N_violations, [("apart", .fn r_apart 3 []), ("abs", .bt), ("len", .bt), ("range", .bt), ("tuple", .bt)]⟩
theorem e_violations : blockC (compS 20 (c_violations)) (defBody s_violations) = some (b_violations) := by kernel_rfl
/-! next_position -/
abbrev s_next_position : Stmt := topS 3
def N_next_position : List Str := ["table", "classes", "positions", "kind", "k"]
theorem sc_next_position : FnScope N_next_position ["table", "classes", "positions", "kind"] (defScope s_next_position) := ⟨rfl, rfl, rfl, by decide +kernel, rfl, by decide +kernel, by decide +kernel⟩
noncomputable def b_next_position : Sv :=
  (sRet (eC cMax (aCons (e2 vAdd (eLst (aCons (eCon (.int 0)) aNil)) (eLc (iRg1 (aCons (eC cLen (aCons (eVar 2) aNil)) aNil)) (nNm 4) [4] bYes (e2 vAdd (e2 vIx (eVar 2) (eVar 4)) (eC r_apart (aCons (eVar 0) (aCons (e2 vIx (eVar 1) (eVar 4)) (aCons (eVar 3) aNil))))))) aNil)))
noncomputable def r_next_position : GC := runDef 5 4 b_next_position
noncomputable def c_next_position : Lz.Ctx := ⟨N_next_position, defScope s_next_position, N_next_position, [("apart", .fn r_apart 3 []), ("len", .bt), ("max", .bt), ("range", .bt)]⟩
theorem e_next_position : blockC (compS 20 (c_next_position)) (defBody s_next_position) = some (b_next_position) := by kernel_rfl
/-! pack -/
abbrev s_pack : Stmt := topS 4
def N_pack : List Str := ["table", "classes", "positions", "kind"]
theorem sc_pack : FnScope N_pack ["table", "classes"] (defScope s_pack) := ⟨rfl, rfl, rfl, by decide +kernel, rfl, by decide +kernel, by decide +kernel⟩
noncomputable def b_pack : Sv :=
  (sSeq
   (sSet 2 (eLst aNil))
  (sSeq
   (sFor (iSeq (eVar 1)) (gN (nNm 3))
     (sExp (eM mAppend (eVar 2) (aCons (eC r_next_position (aCons (eVar 0) (aCons (eVar 1) (aCons (eVar 2) (aCons (eVar 3) aNil))))) aNil))))
  (sRet (eC cTup (aCons (eVar 2) aNil)))))
noncomputable def r_pack : GC := runDef 4 2 b_pack
noncomputable def c_pack : Lz.Ctx := ⟨N_pack, defScope s_pack, N_pack, [("next_position", .fn r_next_position 4 []), ("tuple", .bt)]⟩
theorem e_pack : blockC (compS 20 (c_pack)) (defBody s_pack) = some (b_pack) := by kernel_rfl
/-! critical_chain -/
abbrev s_critical_chain : Stmt := topS 5
def N_critical_chain : List Str := ["table", "classes", "box", "positions", "found", "last", "k"]
theorem sc_critical_chain : FnScope N_critical_chain ["table", "classes", "box"] (defScope s_critical_chain) := ⟨rfl, rfl, rfl, by decide +kernel, rfl, by decide +kernel, by decide +kernel⟩
noncomputable def b_critical_chain : Sv :=
  (sSeq
   (sSet 3 (eC r_pack (aCons (eVar 0) (aCons (eVar 1) aNil))))
  (sSeq
   (sSet 4 (eLst (aCons (eVar 2) aNil)))
  (sSeq
   (sWhile (asB (e2 vGt (e2 vIx (eVar 4) (e1 vNeg (eCon (.int 1)))) (eCon (.int 0))))
     (sSeq
      (sSet 5 (e2 vIx (eVar 4) (e1 vNeg (eCon (.int 1)))))
     (sFor (iRg1 (aCons (eVar 5) aNil)) (gN (nNm 6))
       (sIf (asB (e2 vEq (e2 vSub (e2 vIx (eVar 3) (eVar 5)) (e2 vIx (eVar 3) (eVar 6))) (eC r_apart (aCons (eVar 0) (aCons (e2 vIx (eVar 1) (eVar 6)) (aCons (e2 vIx (eVar 1) (eVar 5)) aNil))))))
         (sSeq
          (sExp (eM mAppend (eVar 4) (aCons (eVar 6) aNil)))
         sBrk)
         sNil))))
  (sRet (eC cTup (aCons (e1 vRev (eVar 4)) aNil))))))
noncomputable def r_critical_chain : GC := runDef 7 3 b_critical_chain
noncomputable def c_critical_chain : Lz.Ctx := ⟨N_critical_chain, defScope s_critical_chain, N_critical_chain, [("apart", .fn r_apart 3 []), ("pack", .fn r_pack 2 []), ("range", .bt), ("tuple", .bt)]⟩
theorem e_critical_chain : blockC (compS 20 (c_critical_chain)) (defBody s_critical_chain) = some (b_critical_chain) := by kernel_rfl
/-! triangle_violation -/
abbrev s_triangle_violation : Stmt := topS 6
def N_triangle_violation : List Str := ["table", "many", "a", "b", "c"]
theorem sc_triangle_violation : FnScope N_triangle_violation ["table"] (defScope s_triangle_violation) := ⟨rfl, rfl, rfl, by decide +kernel, rfl, by decide +kernel, by decide +kernel⟩
noncomputable def b_triangle_violation : Sv :=
  (sSeq
   (sSet 1 (eC cLen (aCons (e2 vIx (eVar 0) (eCon (.int 0))) aNil)))
  (sSeq
   (sFor (iRg1 (aCons (eVar 1) aNil)) (gN (nNm 2))
     (sFor (iRg1 (aCons (eVar 1) aNil)) (gN (nNm 3))
       (sFor (iRg1 (aCons (eVar 1) aNil)) (gN (nNm 4))
         (sIf (asB (e2 vGt (eC r_apart (aCons (eVar 0) (aCons (eVar 2) (aCons (eVar 4) aNil)))) (e2 vAdd (eC r_apart (aCons (eVar 0) (aCons (eVar 2) (aCons (eVar 3) aNil)))) (eC r_apart (aCons (eVar 0) (aCons (eVar 3) (aCons (eVar 4) aNil)))))))
           (sRet (eTup (aCons (eVar 2) (aCons (eVar 3) (aCons (eVar 4) aNil)))))
           sNil))))
  (sRet (eCon .non))))
noncomputable def r_triangle_violation : GC := runDef 5 1 b_triangle_violation
noncomputable def c_triangle_violation : Lz.Ctx := ⟨N_triangle_violation, defScope s_triangle_violation, N_triangle_violation, [("apart", .fn r_apart 3 []), ("len", .bt), ("range", .bt)]⟩
theorem e_triangle_violation : blockC (compS 20 (c_triangle_violation)) (defBody s_triangle_violation) = some (b_triangle_violation) := by kernel_rfl
/-! _law_pool -/
abbrev s_law_pool : Stmt := topS 8
def N_law_pool : List Str := ["_law_script", "_law_cell"]
theorem sc_law_pool : FnScope N_law_pool ["_law_script"] (defScope s_law_pool) := ⟨rfl, rfl, rfl, by decide +kernel, rfl, by decide +kernel, by decide +kernel⟩
noncomputable def b_law_pool : Sv :=
  (sRet (eLst (aCons (eLc (iSeq (eVar 0)) (nNm 1) [1] bYes (eIf (asB (e2 vGe (eVar 1) (eCon (.int 0)))) (e2 vMul (eCon (.int 2)) (eVar 1)) (e2 vSub (e2 vMul (e1 vNeg (eCon (.int 2))) (eVar 1)) (eCon (.int 1))))) (aCons (eCon (.int 0)) (aCons (eCon (.int 0)) (aCons (eCon (.int 17)) aNil))))))
noncomputable def r_law_pool : GC := runDef 2 1 b_law_pool
noncomputable def c_law_pool : Lz.Ctx := ⟨N_law_pool, defScope s_law_pool, N_law_pool, []⟩
theorem e_law_pool : blockC (compS 20 (c_law_pool)) (defBody s_law_pool) = some (b_law_pool) := by kernel_rfl
/-! _law_take -/
abbrev s_law_take : Stmt := topS 9
def N_law_take : List Str := ["_law_pool_here", "_law_many", "_law_digit", "_law_cell", "_law_mixed"]
theorem sc_law_take : FnScope N_law_take ["_law_pool_here", "_law_many"] (defScope s_law_take) := ⟨rfl, rfl, rfl, by decide +kernel, rfl, by decide +kernel, by decide +kernel⟩
noncomputable def b_law_take (r : GC) : Sv :=
  (sSeq
   (sIf (asB (e2 vGt (e2 vIx (eVar 0) (eCon (.int 2))) (eCon (.int 0))))
     (sSeq
      (sSet 2 (e2 vMod (eC cInt (aCons (e2 vIx (eVar 0) (eCon (.int 2))) aNil)) (eVar 1)))
     (sSeq
      (sAsg (e2 vDiv (e2 vIx (eVar 0) (eCon (.int 2))) (eVar 1)) (gIx pIx (eVar 0) (eCon (.int 2))))
     (sRet (eVar 2))))
     sNil)
  (sSeq
   (sSet 3 (eCon (.int 0)))
  (sSeq
   (sIf (asB (e2 vLt (e2 vIx (eVar 0) (eCon (.int 1))) (eC cLen (aCons (e2 vIx (eVar 0) (eCon (.int 0))) aNil))))
     (sSet 3 (e2 vIx (e2 vIx (eVar 0) (eCon (.int 0))) (e2 vIx (eVar 0) (eCon (.int 1)))))
     sNil)
  (sSeq
   (sAsg (e2 vAdd (e2 vIx (eVar 0) (eCon (.int 1))) (eCon (.int 1))) (gIx pIx (eVar 0) (eCon (.int 1))))
  (sSeq
   (sIf (asB (e2 vGe (eVar 3) (e2 vPow (eCon (.int 10)) (eCon (.int 18)))))
     (sSeq
      (sAsg (e2 vDiv (eVar 3) (eCon (.int 2))) (gIx pIx (eVar 0) (eCon (.int 2))))
     (sRet (eC r (aCons (eVar 0) (aCons (eVar 1) aNil)))))
     sNil)
  (sSeq
   (sAsg (e2 vMod (eC cInt (aCons (e2 vAdd (e2 vAdd (e2 vMul (e2 vIx (eVar 0) (eCon (.int 3))) (eCon (.int 48271))) (e2 vMul (eVar 3) (eCon (.int 69621)))) (e2 vMul (e2 vIx (eVar 0) (eCon (.int 1))) (eCon (.int 613)))) aNil)) (eCon (.int 2147483647))) (gIx pIx (eVar 0) (eCon (.int 3))))
  (sSeq
   (sSet 4 (e2 vMod (eC cInt (aCons (e2 vAdd (e2 vAdd (e2 vMul (e2 vIx (eVar 0) (eCon (.int 3))) (e2 vIx (eVar 0) (eCon (.int 3)))) (e2 vMul (e2 vIx (eVar 0) (eCon (.int 3))) (eCon (.int 7919)))) (eCon (.int 104729))) aNil)) (eCon (.int 1000000007))))
  (sRet (e2 vMod (eC cInt (aCons (e2 vDiv (eVar 4) (eCon (.int 3))) aNil)) (eVar 1))))))))))
noncomputable def r_law_take : Nat → GC
  | 0 => noRun
  | n + 1 => runDef 5 2 (b_law_take (r_law_take n))
noncomputable def c_law_take (r : GC) : Lz.Ctx := ⟨N_law_take, defScope s_law_take, N_law_take, [("_law_take", .fn r 2 []), ("int", .bt), ("len", .bt)]⟩
theorem e_law_take (r : GC) : blockC (compS 20 (c_law_take r)) (defBody s_law_take) = some (b_law_take r) := by kernel_rfl
/-! _law_same -/
abbrev s_law_same : Stmt := topS 10
def N_law_same : List Str := ["_law_actual", "_law_due", "_law_k"]
theorem sc_law_same : FnScope N_law_same ["_law_actual", "_law_due"] (defScope s_law_same) := ⟨rfl, rfl, rfl, by decide +kernel, rfl, by decide +kernel, by decide +kernel⟩
noncomputable def b_law_same (r : GC) : Sv :=
  (sSeq
   (sIf (asB (e2 vIs (eVar 1) (eCon .non)))
     (sRet (e2 vIs (eVar 0) (eCon .non)))
     sNil)
  (sSeq
   (sIf (bOr (asB (e2 vNe (e1 (isiU "tuple") (eVar 1)) (e1 (isiU "tuple") (eVar 0)))) (asB (e2 vNe (e1 (isiU "list") (eVar 1)) (e1 (isiU "list") (eVar 0)))))
     (sRet (eCon (.bl false)))
     sNil)
  (sSeq
   (sIf (bOr (bTru (e1 (isiU "tuple") (eVar 1))) (bTru (e1 (isiU "list") (eVar 1))))
     (sRet (eAnd (e2 vEq (eC cLen (aCons (eVar 0) aNil)) (eC cLen (aCons (eVar 1) aNil))) (eC cAll (aCons (eLc (iRg1 (aCons (eC cLen (aCons (eVar 1) aNil)) aNil)) (nNm 2) [2] bYes (eC r (aCons (e2 vIx (eVar 0) (eVar 2)) (aCons (e2 vIx (eVar 1) (eVar 2)) aNil)))) aNil))))
     sNil)
  (sSeq
   (sIf (bOr (asB (e2 vNe (e1 (isiU "bool") (eVar 1)) (e1 (isiU "bool") (eVar 0)))) (asB (e2 vNe (e1 (isiU "str") (eVar 1)) (e1 (isiU "str") (eVar 0)))))
     (sRet (eCon (.bl false)))
     sNil)
  (sRet (eAnd (e2 vEq (e1 (isiU "int") (eVar 1)) (e1 (isiU "int") (eVar 0))) (e2 vEq (eVar 0) (eVar 1))))))))
noncomputable def r_law_same : Nat → GC
  | 0 => noRun
  | n + 1 => runDef 3 2 (b_law_same (r_law_same n))
noncomputable def c_law_same (r : GC) : Lz.Ctx := ⟨N_law_same, defScope s_law_same, N_law_same, [("_law_same", .fn r 2 []), ("all", .bt), ("bool", .bt), ("int", .bt), ("isinstance", .bt), ("len", .bt), ("list", .bt), ("range", .bt), ("str", .bt), ("tuple", .bt)]⟩
theorem e_law_same (r : GC) : blockC (compS 20 (c_law_same r)) (defBody s_law_same) = some (b_law_same r) := by kernel_rfl
/-! _law_table -/
abbrev s_law_table : Stmt := topS 11
def N_law_table : List Str := ["_law_pool_here", "_law_many", "_law_k", "_law_degrees", "_law_a", "_law_b", "_law_degree", "_law_distances", "_law_row"]
theorem sc_law_table : FnScope N_law_table ["_law_pool_here"] (defScope s_law_table) := ⟨rfl, rfl, rfl, by decide +kernel, rfl, by decide +kernel, by decide +kernel⟩
noncomputable def b_law_table : Sv :=
  (sSeq
   (sSet 1 (e2 vAdd (eCon (.int 1)) (eC (r_law_take 3) (aCons (eVar 0) (aCons (eCon (.int 5)) aNil)))))
  (sSeq
   (sSet 3 (eLc (iRg1 (aCons (eVar 1) aNil)) (nNm 2) [2] bYes (e2 vMul (eLst (aCons (eCon (.int 0)) aNil)) (eVar 1))))
  (sSeq
   (sFor (iRg1 (aCons (eVar 1) aNil)) (gN (nNm 4))
     (sFor (iRg1 (aCons (e2 vAdd (eVar 4) (eCon (.int 1))) aNil)) (gN (nNm 5))
       (sSeq
        (sSet 6 (eC (r_law_take 3) (aCons (eVar 0) (aCons (eCon (.int 4)) aNil))))
       (sSeq
        (sAsg (eVar 6) (gIx pIx (e2 vIx (eVar 3) (eVar 4)) (eVar 5)))
       (sAsg (eVar 6) (gIx pIx (e2 vIx (eVar 3) (eVar 5)) (eVar 4)))))))
  (sSeq
   (sSet 7 (eLst (aCons (eC (r_law_take 3) (aCons (eVar 0) (aCons (eCon (.int 3)) aNil))) aNil)))
  (sSeq
   (sFor (iRg1 (aCons (eCon (.int 3)) aNil)) (gN (nNm 2))
     (sExp (eM mAppend (eVar 7) (aCons (e2 vAdd (e2 vIx (eVar 7) (e1 vNeg (eCon (.int 1)))) (eC (r_law_take 3) (aCons (eVar 0) (aCons (eCon (.int 5)) aNil)))) aNil))))
  (sRet (eTup (aCons (eC cTup (aCons (eLc (iSeq (eVar 3)) (nNm 8) [8] bYes (eC cTup (aCons (eVar 8) aNil))) aNil)) (aCons (eC cTup (aCons (eVar 7) aNil)) aNil)))))))))
noncomputable def r_law_table : GC := runDef 9 1 b_law_table
noncomputable def c_law_table : Lz.Ctx := ⟨N_law_table, defScope s_law_table, N_law_table, [("_law_take", .fn (r_law_take 3) 2 []), ("range", .bt), ("tuple", .bt)]⟩
theorem e_law_table : blockC (compS 20 (c_law_table)) (defBody s_law_table) = some (b_law_table) := by kernel_rfl
/-! _law_classes -/
abbrev s_law_classes : Stmt := topS 12
def N_law_classes : List Str := ["_law_pool_here", "_law_table_here", "_law_least_here", "_law_many", "_law_k"]
theorem sc_law_classes : FnScope N_law_classes ["_law_pool_here", "_law_table_here", "_law_least_here", "_law_many"] (defScope s_law_classes) := ⟨rfl, rfl, rfl, by decide +kernel, rfl, by decide +kernel, by decide +kernel⟩
noncomputable def b_law_classes : Sv :=
  (sRet (eC cTup (aCons (eLc (iRg1 (aCons (e2 vAdd (eVar 2) (eC (r_law_take 3) (aCons (eVar 0) (aCons (eVar 3) aNil)))) aNil)) (nNm 4) [4] bYes (eC (r_law_take 3) (aCons (eVar 0) (aCons (eC cLen (aCons (e2 vIx (eVar 1) (eCon (.int 0))) aNil)) aNil)))) aNil)))
noncomputable def r_law_classes : GC := runDef 5 4 b_law_classes
noncomputable def c_law_classes : Lz.Ctx := ⟨N_law_classes, defScope s_law_classes, N_law_classes, [("_law_take", .fn (r_law_take 3) 2 []), ("len", .bt), ("range", .bt), ("tuple", .bt)]⟩
theorem e_law_classes : blockC (compS 20 (c_law_classes)) (defBody s_law_classes) = some (b_law_classes) := by kernel_rfl
/-! _law_apart -/
abbrev s_law_apart : Stmt := topS 13
def N_law_apart : List Str := ["_law_table_here", "_law_a", "_law_b"]
theorem sc_law_apart : FnScope N_law_apart ["_law_table_here", "_law_a", "_law_b"] (defScope s_law_apart) := ⟨rfl, rfl, rfl, by decide +kernel, rfl, by decide +kernel, by decide +kernel⟩
noncomputable def b_law_apart : Sv :=
  (sRet (eC cMax (aCons (eCon (.int 1)) (aCons (e2 vIx (e2 vIx (eVar 0) (eCon (.int 1))) (e2 vIx (e2 vIx (e2 vIx (eVar 0) (eCon (.int 0))) (eVar 1)) (eVar 2))) aNil))))
noncomputable def r_law_apart : GC := runDef 3 3 b_law_apart
noncomputable def c_law_apart : Lz.Ctx := ⟨N_law_apart, defScope s_law_apart, N_law_apart, [("max", .bt)]⟩
theorem e_law_apart : blockC (compS 20 (c_law_apart)) (defBody s_law_apart) = some (b_law_apart) := by kernel_rfl
/-! _law_close -/
abbrev s_law_close : Stmt := topS 14
def N_law_close : List Str := ["_law_table_here", "_law_row", "_law_found", "_law_i", "_law_j"]
theorem sc_law_close : FnScope N_law_close ["_law_table_here", "_law_row"] (defScope s_law_close) := ⟨rfl, rfl, rfl, by decide +kernel, rfl, by decide +kernel, by decide +kernel⟩
noncomputable def b_law_close : Sv :=
  (sSeq
   (sSet 2 (eLst aNil))
  (sSeq
   (sFor (iRg1 (aCons (eC cLen (aCons (eVar 1) aNil)) aNil)) (gN (nNm 3))
     (sFor (iRg2 (aCons (e2 vAdd (eVar 3) (eCon (.int 1))) (aCons (eC cLen (aCons (eVar 1) aNil)) aNil))) (gN (nNm 4))
       (sIf (asB (e2 vLt (eC cAbs (aCons (e2 vSub (e2 vIx (e2 vIx (eVar 1) (eVar 3)) (eCon (.int 1))) (e2 vIx (e2 vIx (eVar 1) (eVar 4)) (eCon (.int 1)))) aNil)) (eC r_law_apart (aCons (eVar 0) (aCons (e2 vIx (e2 vIx (eVar 1) (eVar 3)) (eCon (.int 0))) (aCons (e2 vIx (e2 vIx (eVar 1) (eVar 4)) (eCon (.int 0))) aNil))))))
         (sExp (eM mAppend (eVar 2) (aCons (eTup (aCons (eVar 3) (aCons (eVar 4) aNil))) aNil)))
         sNil)))
  (sRet (eVar 2))))
noncomputable def r_law_close : GC := runDef 5 2 b_law_close
noncomputable def c_law_close : Lz.Ctx := ⟨N_law_close, defScope s_law_close, N_law_close, [("_law_apart", .fn r_law_apart 3 []), ("abs", .bt), ("len", .bt), ("range", .bt)]⟩
theorem e_law_close : blockC (compS 20 (c_law_close)) (defBody s_law_close) = some (b_law_close) := by kernel_rfl
/-! _law_least -/
abbrev s_law_least : Stmt := topS 15
def N_law_least : List Str := ["_law_table_here", "_law_classes_here", "_law_positions", "_law_kind", "_law_place", "_law_turn", "_law_j"]
theorem sc_law_least : FnScope N_law_least ["_law_table_here", "_law_classes_here", "_law_positions", "_law_kind"] (defScope s_law_least) := ⟨rfl, rfl, rfl, by decide +kernel, rfl, by decide +kernel, by decide +kernel⟩
noncomputable def b_law_least : Sv :=
  (sSeq
   (sSet 4 (eCon (.int 0)))
  (sSeq
   (sFor (iRg1 (aCons (eCon (.int 2000)) aNil)) (gN (nNm 5))
     (sSeq
      (sIf (bTru (eC cAll (aCons (eLc (iRg1 (aCons (eC cLen (aCons (eVar 2) aNil)) aNil)) (nNm 6) [6] bYes (e2 vGe (e2 vSub (eVar 4) (e2 vIx (eVar 2) (eVar 6))) (eC r_law_apart (aCons (eVar 0) (aCons (e2 vIx (eVar 1) (eVar 6)) (aCons (eVar 3) aNil)))))) aNil)))
        sBrk
        sNil)
     (sSet 4 (e2 vAdd (eVar 4) (eCon (.int 1))))))
  (sRet (eVar 4))))
noncomputable def r_law_least : GC := runDef 7 4 b_law_least
noncomputable def c_law_least : Lz.Ctx := ⟨N_law_least, defScope s_law_least, N_law_least, [("_law_apart", .fn r_law_apart 3 []), ("all", .bt), ("len", .bt), ("range", .bt)]⟩
theorem e_law_least : blockC (compS 20 (c_law_least)) (defBody s_law_least) = some (b_law_least) := by kernel_rfl
/-! _law_is_chain -/
abbrev s_law_is_chain : Stmt := topS 16
def N_law_is_chain : List Str := ["_law_table_here", "_law_classes_here", "_law_positions", "_law_chain", "_law_box", "_law_whole", "_law_k", "_law_one", "_law_other", "_law_due", "_law_j"]
theorem sc_law_is_chain : FnScope N_law_is_chain ["_law_table_here", "_law_classes_here", "_law_positions", "_law_chain", "_law_box"] (defScope s_law_is_chain) := ⟨rfl, rfl, rfl, by decide +kernel, rfl, by decide +kernel, by decide +kernel⟩
noncomputable def b_law_is_chain : Sv :=
  (sSeq
   (sIf (bOr (bNot (bTru (e1 (isiU "tuple") (eVar 3)))) (bOr (bNot (bTru (eVar 3))) (bOr (asB (e2 vNe (e2 vIx (eVar 3) (eCon (.int 0))) (eCon (.int 0)))) (asB (e2 vNe (e2 vIx (eVar 3) (e1 vNeg (eCon (.int 1)))) (eVar 4))))))
     (sRet (eCon (.bl false)))
     sNil)
  (sSeq
   (sSet 5 (eCon (.int 0)))
  (sSeq
   (sFor (iRg2 (aCons (eCon (.int 1)) (aCons (eC cLen (aCons (eVar 3) aNil)) aNil))) (gN (nNm 6))
     (sSeq
      (sSet 7 (e2 vIx (eVar 3) (e2 vSub (eVar 6) (eCon (.int 1)))))
     (sSeq
      (sSet 8 (e2 vIx (eVar 3) (eVar 6)))
     (sSeq
      (sSet 9 (eLc (iRg1 (aCons (eVar 8) aNil)) (nNm 10) [10] (asB (e2 vEq (e2 vSub (e2 vIx (eVar 2) (eVar 8)) (e2 vIx (eVar 2) (eVar 10))) (eC r_law_apart (aCons (eVar 0) (aCons (e2 vIx (eVar 1) (eVar 10)) (aCons (e2 vIx (eVar 1) (eVar 8)) aNil)))))) (eVar 10)))
     (sSeq
      (sIf (bNot (bTru (eC (r_law_same 8) (aCons (eVar 7) (aCons (e2 vIx (eVar 9) (eCon (.int 0))) aNil)))))
        (sRet (eCon (.bl false)))
        sNil)
     (sSet 5 (e2 vAdd (eVar 5) (eC r_law_apart (aCons (eVar 0) (aCons (e2 vIx (eVar 1) (eVar 7)) (aCons (e2 vIx (eVar 1) (eVar 8)) aNil)))))))))))
  (sRet (e2 vEq (eVar 5) (e2 vIx (eVar 2) (eVar 4)))))))
noncomputable def r_law_is_chain : GC := runDef 11 5 b_law_is_chain
noncomputable def c_law_is_chain : Lz.Ctx := ⟨N_law_is_chain, defScope s_law_is_chain, N_law_is_chain, [("_law_apart", .fn r_law_apart 3 []), ("_law_same", .fn (r_law_same 8) 2 []), ("isinstance", .bt), ("len", .bt), ("range", .bt), ("tuple", .bt)]⟩
theorem e_law_is_chain : blockC (compS 20 (c_law_is_chain)) (defBody s_law_is_chain) = some (b_law_is_chain) := by kernel_rfl
/-! _law_triangle -/
abbrev s_law_triangle : Stmt := topS 17
def N_law_triangle : List Str := ["_law_table_here", "_law_many", "_law_a", "_law_b", "_law_c"]
theorem sc_law_triangle : FnScope N_law_triangle ["_law_table_here"] (defScope s_law_triangle) := ⟨rfl, rfl, rfl, by decide +kernel, rfl, by decide +kernel, by decide +kernel⟩
noncomputable def b_law_triangle : Sv :=
  (sSeq
   (sSet 1 (eC cLen (aCons (e2 vIx (eVar 0) (eCon (.int 0))) aNil)))
  (sSeq
   (sFor (iRg1 (aCons (eVar 1) aNil)) (gN (nNm 2))
     (sFor (iRg1 (aCons (eVar 1) aNil)) (gN (nNm 3))
       (sFor (iRg1 (aCons (eVar 1) aNil)) (gN (nNm 4))
         (sIf (asB (e2 vGt (eC r_law_apart (aCons (eVar 0) (aCons (eVar 2) (aCons (eVar 4) aNil)))) (e2 vAdd (eC r_law_apart (aCons (eVar 0) (aCons (eVar 2) (aCons (eVar 3) aNil)))) (eC r_law_apart (aCons (eVar 0) (aCons (eVar 3) (aCons (eVar 4) aNil)))))))
           (sRet (eTup (aCons (eVar 2) (aCons (eVar 3) (aCons (eVar 4) aNil)))))
           sNil))))
  (sRet (eCon .non))))
noncomputable def r_law_triangle : GC := runDef 5 1 b_law_triangle
noncomputable def c_law_triangle : Lz.Ctx := ⟨N_law_triangle, defScope s_law_triangle, N_law_triangle, [("_law_apart", .fn r_law_apart 3 []), ("len", .bt), ("range", .bt)]⟩
theorem e_law_triangle : blockC (compS 20 (c_law_triangle)) (defBody s_law_triangle) = some (b_law_triangle) := by kernel_rfl
/-! law -/
abbrev s_law : Stmt := topS 18
def N_law : List Str := ["_law_script", "_law_pool_here", "_law_table_here", "_law_classes_here", "_law_row", "_law_positions", "_law_k", "_law_back", "_law_box", "_law_a", "_law_kind"]
theorem sc_law : FnScope N_law ["_law_script"] (defScope s_law) := ⟨rfl, rfl, rfl, by decide +kernel, rfl, by decide +kernel, by decide +kernel⟩
noncomputable def b_law : Sv :=
  (sSeq
   (sSet 1 (eC r_law_pool (aCons (eVar 0) aNil)))
  (sSeq
   (sSet 2 (eC r_law_table (aCons (eVar 1) aNil)))
  (sSeq
   (sSet 3 (eC r_law_classes (aCons (eVar 1) (aCons (eVar 2) (aCons (eCon (.int 0)) (aCons (eCon (.int 11)) aNil))))))
  (sSeq
   (sSet 4 (eC cTup (aCons (eLc (iSeq (eC r_law_classes (aCons (eVar 1) (aCons (eVar 2) (aCons (eCon (.int 0)) (aCons (eCon (.int 9)) aNil)))))) (nNm 10) [10] bYes (eTup (aCons (eVar 10) (aCons (eC (r_law_take 3) (aCons (eVar 1) (aCons (eCon (.int 30)) aNil))) aNil)))) aNil)))
  (sSeq
   (sIf (bNot (bTru (eC (r_law_same 8) (aCons (eC r_violations (aCons (eVar 2) (aCons (eVar 4) aNil))) (aCons (eC cTup (aCons (eC r_law_close (aCons (eVar 2) (aCons (eVar 4) aNil))) aNil)) aNil)))))
     (sRet (eCon (.bl false)))
     sNil)
  (sSeq
   (sSet 5 (eLst aNil))
  (sSeq
   (sFor (iRg1 (aCons (eC cLen (aCons (eVar 3) aNil)) aNil)) (gN (nNm 6))
     (sExp (eM mAppend (eVar 5) (aCons (eC r_law_least (aCons (eVar 2) (aCons (eVar 3) (aCons (eVar 5) (aCons (e2 vIx (eVar 3) (eVar 6)) aNil))))) aNil))))
  (sSeq
   (sIf (bNot (bTru (eC (r_law_same 8) (aCons (eC r_pack (aCons (eVar 2) (aCons (eC cLst (aCons (eVar 3) aNil)) aNil))) (aCons (eC cTup (aCons (eVar 5) aNil)) aNil)))))
     (sRet (eCon (.bl false)))
     sNil)
  (sSeq
   (sSet 7 (eC r_pack (aCons (eVar 2) (aCons (e1 vRev (eVar 3)) aNil))))
  (sSeq
   (sIf (bAnd (bTru (eVar 3)) (asB (e2 vNe (e2 vIx (eVar 7) (e1 vNeg (eCon (.int 1)))) (e2 vIx (eVar 5) (e1 vNeg (eCon (.int 1)))))))
     (sRet (eCon (.bl false)))
     sNil)
  (sSeq
   (sFor (iRg1 (aCons (eC cLen (aCons (eVar 3) aNil)) aNil)) (gN (nNm 8))
     (sIf (bNot (bTru (eC r_law_is_chain (aCons (eVar 2) (aCons (eVar 3) (aCons (eVar 5) (aCons (eC r_critical_chain (aCons (eVar 2) (aCons (eVar 3) (aCons (eVar 8) aNil)))) (aCons (eVar 8) aNil))))))))
       (sRet (eCon (.bl false)))
       sNil))
  (sSeq
   (sFor (iRg1 (aCons (eC cLen (aCons (e2 vIx (eVar 2) (eCon (.int 0))) aNil)) aNil)) (gN (nNm 9))
     (sIf (bNot (bTru (eC (r_law_same 8) (aCons (eC r_apart (aCons (eVar 2) (aCons (eVar 9) (aCons (eCon (.int 0)) aNil)))) (aCons (eC r_law_apart (aCons (eVar 2) (aCons (eVar 9) (aCons (eCon (.int 0)) aNil)))) aNil)))))
       (sRet (eCon (.bl false)))
       sNil))
  (sRet (eC (r_law_same 8) (aCons (eC r_triangle_violation (aCons (eVar 2) aNil)) (aCons (eC r_law_triangle (aCons (eVar 2) aNil)) aNil))))))))))))))))
noncomputable def r_law : GC := runDef 11 1 b_law
noncomputable def c_law : Lz.Ctx := ⟨N_law, defScope s_law, N_law, [("_law_apart", .fn r_law_apart 3 []), ("_law_classes", .fn r_law_classes 4 []), ("_law_close", .fn r_law_close 2 []), ("_law_is_chain", .fn r_law_is_chain 5 []), ("_law_least", .fn r_law_least 4 []), ("_law_pool", .fn r_law_pool 1 []), ("_law_same", .fn (r_law_same 8) 2 []), ("_law_table", .fn r_law_table 1 []), ("_law_take", .fn (r_law_take 3) 2 []), ("_law_triangle", .fn r_law_triangle 1 []), ("apart", .fn r_apart 3 []), ("critical_chain", .fn r_critical_chain 3 []), ("pack", .fn r_pack 2 []), ("triangle_violation", .fn r_triangle_violation 1 []), ("violations", .fn r_violations 2 []), ("len", .bt), ("list", .bt), ("range", .bt), ("tuple", .bt)]⟩
theorem e_law : blockC (compS 20 (c_law)) (defBody s_law) = some (b_law) := by kernel_rfl
/-! ## the pool and its draws -/
structure PoolAt (h : Hb) (P C : Nat) (cells : List Int) (a b c : Int) : Prop where
  p : h[P]? = some (.lst [.ref C, .int a, .int b, .int c])
  q : h[C]? = some (.lst (cells.map U.int))
  ne : C ≠ P
  a0 : 0 ≤ a
  b0 : 0 ≤ b
  c0 : 0 ≤ c
  c1 : c < 2147483647
  s0 : ∀ x ∈ cells, 0 ≤ x
  s1 : cells.length ≤ 1000
theorem set_set_eq {α : Type} (l : List α) (i : Nat) (x y : α) : (l.set i x).set i y = l.set i y := by
  rw [List.set_set]
theorem PoolAt.put {h : Hb} {P C : Nat} {cells : List Int} {a b c a' b' c' : Int} (p : PoolAt h P C cells a b c) (ha : 0 ≤ a') (hb : 0 ≤ b') (hc : 0 ≤ c') (hc1 : c' < 2147483647) : PoolAt (h.set P (.lst [.ref C, .int a', .int b', .int c'])) P C cells a' b' c' := by
  have lt : P < h.length := (List.getElem?_eq_some_iff.mp p.p).1
  refine ⟨by rw [List.getElem?_set_self lt], ?_, p.ne, ha, hb, hc, hc1, p.s0, p.s1⟩
  rw [List.getElem?_set_ne (Ne.symm p.ne)]; exact p.q
theorem take1 {h : Hb} {P C : Nat} {cells : List Int} {a b c : Int} (p : PoolAt h P C cells a b c) (hb : 0 < b) {m : Int} (m0 : 0 < m) (m1 : m < 1073741824) (n : Nat) :
    r_law_take (n + 1) [.ref P, .int m] h = .ok (.int (b % m)) (h.set P (.lst [.ref C, .int a, .int (b / m), .int c])) := by
  have hP := p.p
  have i2 : vIx (.ref P) (.int 2) h = .ok (.int b) h := vIx_lst hP (atI_nat (j := 2) rfl)
  have hm : m ≠ 0 := by omega
  have cd : cDiv b m := .inl ⟨hm, by omega, m1⟩
  have px : ∀ u, pIx (.ref P) (.int 2) u h = some (h.set P (.lst [.ref C, .int a, u, .int c])) := fun u => pIx_run hP (j := 2) rfl
  unfold r_law_take
  rw [run2]
  simp [b_law_take, i2, hb, hm, cd, gI2_some (px _), Int.fdiv_eq_ediv_of_nonneg b (Int.le_of_lt m0), Int.fmod_eq_emod_of_nonneg b (Int.le_of_lt m0)]
/-- the cell that a draw reads -/
def cellOf (cells : List Int) (a : Int) : Int := if a < cells.length then (cells[a.toNat]?).getD 0 else 0
theorem cellOf_nn {h : Hb} {P C : Nat} {cells : List Int} {a b c : Int} (p : PoolAt h P C cells a b c) : 0 ≤ cellOf cells a := by
  unfold cellOf
  split
  · cases e : cells[a.toNat]? with
    | none => exact Int.le_refl 0
    | some x => exact p.s0 x (List.mem_of_getElem? e)
  · exact Int.le_refl 0
theorem law_take_ok {h : Hb} {P C : Nat} {cells : List Int} {a b c : Int} (p : PoolAt h P C cells a b c) {m : Int} (m0 : 0 < m) (m1 : m < 1073741824) (n : Nat) :
    ∃ d a' b' c', r_law_take (n + 2) [.ref P, .int m] h = .ok (.int d) (h.set P (.lst [.ref C, .int a', .int b', .int c'])) ∧ 0 ≤ d ∧ d < m ∧ PoolAt (h.set P (.lst [.ref C, .int a', .int b', .int c'])) P C cells a' b' c' := by
  by_cases hb : 0 < b
  · exact ⟨b % m, a, b / m, c, take1 p hb m0 m1 (n + 1), Int.emod_nonneg _ (by omega), Int.emod_lt_of_pos _ m0, p.put p.a0 (Int.ediv_nonneg p.b0 (Int.le_of_lt m0)) p.c0 p.c1⟩
  · have b0 : b = 0 := by have := p.b0; omega
    subst b0
    have hP := p.p
    have hC := p.q
    have lt : P < h.length := (List.getElem?_eq_some_iff.mp hP).1
    have hm : m ≠ 0 := by omega
    have i0 : vIx (.ref P) (.int 0) h = .ok (.ref C) h := vIx_lst hP (atI_nat (j := 0) rfl)
    have i1 : vIx (.ref P) (.int 1) h = .ok (.int a) h := vIx_lst hP (atI_nat (j := 1) rfl)
    have i2 : vIx (.ref P) (.int 2) h = .ok (.int 0) h := vIx_lst hP (atI_nat (j := 2) rfl)
    have lc : cLen [.ref C] h = .ok (.int cells.length) h := by rw [cLen_lst hC, List.length_map]
    have p1 : ∀ u, pIx (.ref P) (.int 1) u h = some (h.set P (.lst [.ref C, u, .int 0, .int c])) := fun u => pIx_run hP (j := 1) rfl
    have cn := cellOf_nn p
    have ic : a < cells.length → vIx (.ref C) (.int a) h = .ok (.int (cellOf cells a)) h := fun ha => by
      have a0 := p.a0
      have ea : ((a.toNat : Nat) : Int) = a := by omega
      have la : a.toNat < cells.length := by omega
      refine vIx_lst hC ?_
      rw [← ea]
      refine atI_nat ?_
      rw [List.getElem?_map, List.getElem?_eq_getElem la]
      unfold cellOf
      rw [ea, if_pos ha, List.getElem?_eq_getElem la]
      rfl
    -- behind the first two steps
    generalize hz : cellOf cells a = z at ic cn
    have hz0 : ¬ a < cells.length → z = 0 := fun ha => by rw [← hz]; unfold cellOf; rw [if_neg ha]
    let h1 := h.set P (.lst [.ref C, .int (a + 1), .int 0, .int c])
    have q1 : PoolAt h1 P C cells (a + 1) 0 c := p.put (by have := p.a0; omega) (Int.le_refl 0) p.c0 p.c1
    have e1 : h1[P]? = some (.lst [.ref C, .int (a + 1), .int 0, .int c]) := q1.p
    by_cases big : 1000000000000000000 ≤ z
    · -- a great cell: its half gives digits
      have p2 : ∀ u, pIx (.ref P) (.int 2) u h1 = some (h1.set P (.lst [.ref C, .int (a + 1), u, .int c])) := fun u => pIx_run e1 (j := 2) rfl
      let h2 := h1.set P (.lst [.ref C, .int (a + 1), .int (z / 2), .int c])
      have q2 : PoolAt h2 P C cells (a + 1) (z / 2) c := q1.put (by have := p.a0; omega) (by omega) p.c0 p.c1
      have t := take1 q2 (by omega) m0 m1 n
      have fin : ∀ x y : O, (h1.set P x).set P y = h.set P y := fun x y => by simp [h1]
      refine ⟨z / 2 % m, a + 1, z / 2 / m, c, ?_, Int.emod_nonneg _ (by omega), Int.emod_lt_of_pos _ m0, ?_⟩
      · have e2 : h2.set P (.lst [.ref C, .int (a + 1), .int (z / 2 / m), .int c]) = h.set P (.lst [.ref C, .int (a + 1), .int (z / 2 / m), .int c]) := fin _ _
        rw [e2] at t
        show r_law_take (n + 1 + 1) [.ref P, .int m] h = _
        rw [show r_law_take (n + 1 + 1) = runDef 5 2 (b_law_take (r_law_take (n + 1))) from rfl, run2]
        have f2 : z.fdiv 2 = z / 2 := Int.fdiv_eq_ediv_of_nonneg z (by decide)
        have cd2 : cDiv z 2 := .inl ⟨by decide, by decide, by decide⟩
        by_cases ha : a < cells.length
        · simp [b_law_take, i0, i1, i2, lc, ha, ic ha, gI2_some (p1 _), big, cd2, f2, gI2_some (p2 _), h1, h2] at t ⊢
          simp [gI2_some (p2 _), h1, t]
        · have := hz0 ha
          omega
      · have e2 : h2.set P (.lst [.ref C, .int (a + 1), .int (z / 2 / m), .int c]) = h.set P (.lst [.ref C, .int (a + 1), .int (z / 2 / m), .int c]) := fin _ _
        rw [← e2]
        exact q2.put (by have := p.a0; omega) (Int.ediv_nonneg (by omega) (Int.le_of_lt m0)) p.c0 p.c1
    · let x := c * 48271 + z * 69621 + (a + 1) * 613
      have hx : x.fmod 2147483647 = x % 2147483647 := Int.fmod_eq_emod_of_nonneg x (by decide)
      generalize hc2 : x % 2147483647 = c2 at hx
      have c20 : 0 ≤ c2 := by rw [← hc2]; exact Int.emod_nonneg _ (by decide)
      have c21 : c2 < 2147483647 := by rw [← hc2]; exact Int.emod_lt_of_pos _ (by decide)
      have p3 : ∀ u, pIx (.ref P) (.int 3) u h1 = some (h1.set P (.lst [.ref C, .int (a + 1), .int 0, u])) := fun u => pIx_run e1 (j := 3) rfl
      have j1 : vIx (.ref P) (.int 1) h1 = .ok (.int (a + 1)) h1 := vIx_lst e1 (atI_nat (j := 1) rfl)
      have j3 : vIx (.ref P) (.int 3) h1 = .ok (.int c) h1 := vIx_lst e1 (atI_nat (j := 3) rfl)
      have fin : ∀ x y : O, (h1.set P x) = h.set P x := fun x y => by simp [h1]
      let h2 := h.set P (.lst [.ref C, .int (a + 1), .int 0, .int c2])
      have q2 : PoolAt h2 P C cells (a + 1) 0 c2 := p.put (by have := p.a0; omega) (Int.le_refl 0) c20 c21
      have k3 : vIx (.ref P) (.int 3) h2 = .ok (.int c2) h2 := vIx_lst q2.p (atI_nat (j := 3) rfl)
      have cm : cMul c2 c2 := .inl ⟨by omega, by omega⟩
      let y := c2 * c2 + c2 * 7919 + 104729
      have hy : y.fmod 1000000007 = y % 1000000007 := Int.fmod_eq_emod_of_nonneg y (by decide)
      generalize hy2 : y % 1000000007 = y2 at hy
      have y20 : 0 ≤ y2 := by rw [← hy2]; exact Int.emod_nonneg _ (by decide)
      have f3 : y2.fdiv 3 = y2 / 3 := Int.fdiv_eq_ediv_of_nonneg y2 (by decide)
      have cd3 : cDiv y2 3 := .inl ⟨by decide, by decide, by decide⟩
      have fm : (y2 / 3).fmod m = y2 / 3 % m := Int.fmod_eq_emod_of_nonneg _ (Int.le_of_lt m0)
      refine ⟨y2 / 3 % m, a + 1, 0, c2, ?_, Int.emod_nonneg _ (by omega), Int.emod_lt_of_pos _ m0, q2⟩
      show r_law_take (n + 1 + 1) [.ref P, .int m] h = _
      rw [show r_law_take (n + 1 + 1) = runDef 5 2 (b_law_take (r_law_take (n + 1))) from rfl, run2]
      have hx' : (c * 48271 + z * 69621 + (a + 1) * 613).fmod 2147483647 = c2 := hx
      have hy' : (c2 * c2 + c2 * 7919 + 104729).fmod 1000000007 = y2 := hy
      have nb : ¬ (1000000000000000000 : Int) ≤ z := big
      by_cases ha : a < cells.length
      · simp [b_law_take, i0, i1, i2, lc, ha, ic ha, gI2_some (p1 _), nb]
        simp [h1] at j1 j3 p3
        simp [j1, j3, hx', gI2_some (p3 _)]
        simp [h2] at k3
        simp [k3, cm, hy', cd3, f3, hm, fm]
      · have z0 := hz0 ha
        subst z0
        simp [b_law_take, i0, i1, i2, lc, ha, gI2_some (p1 _)]
        simp [h1] at j1 j3 p3
        have hx2 : (c * 48271 + (a + 1) * 613).fmod 2147483647 = c2 := by rw [← hx']; congr 1; omega
        simp [j1, j3, hx', hx2, gI2_some (p3 _)]
        simp [h2] at k3
        simp [k3, cm, hy', cd3, f3, hm, fm]
/-! ## the pool -/
def poolCell (k : Int) : Int := if 0 ≤ k then 2 * k else -2 * k - 1
theorem law_pool_ok {ns : List Int} (hn : ns.length ≤ 63) : ∃ cells, cells.length ≤ 63 ∧ r_law_pool [.ref 0] [.fro (ns.map U.int)] = .ok (.ref 2) [.fro (ns.map U.int), .lst (cells.map U.int), .lst [.ref 1, .int 0, .int 0, .int 17]] ∧
    PoolAt [.fro (ns.map U.int), .lst (cells.map U.int), .lst [.ref 1, .int 0, .int 0, .int 17]] 2 1 cells 0 0 17 := by
  let f : Nat → U := fun i => .int (poolCell (ns.getD i 0))
  have e0 : ([O.fro (ns.map U.int)] : Hb)[0]? = some (.fro (ns.map U.int)) := rfl
  let cells : List Int := (List.range ns.length).map fun i => poolCell (ns.getD i 0)
  have ec : ((List.range ns.length).filter fun _ => true).map f = cells.map U.int := by rw [List.filter_eq_self.mpr (by simp)]; simp [cells, f, List.map_map]
  have lcell : cells.length = ns.length := by simp [cells]
  refine ⟨cells, by omega, ?_, ?_⟩
  · unfold r_law_pool
    rw [run1]
    simp only [b_law_pool, sRet_run, eLst_run, aCons_run, eLc_run, iSeq_run, eVar_run, List.getElem?_cons_zero, eVarK_some, bind_ok, iSeqk_fro e0]
    have lc := lc_pure (ok := fun h' => h'[0]? = some (.fro (ns.map U.int))) (g := nNm 1) (own := [1]) (tt := bYes) (fe := (eIf (asB (e2 vGe (eVar 1) (eCon (.int 0)))) (e2 vMul (eCon (.int 2)) (eVar 1)) (e2 vSub (e2 vMul (e1 vNeg (eCon (.int 2))) (eVar 1)) (eCon (.int 1))))) (s := some (U.ref 0) :: List.replicate 1 none)
      (xs := ns.map U.int) (h := [.fro (ns.map U.int)]) (fun _ => true) f (by simp; omega) (fun h' fr => fr.at0 e0) (fun i x h' hx fr => by
        rw [List.getElem?_map] at hx
        obtain ⟨k, hk, rfl⟩ := Option.map_eq_some_iff.mp hx
        refine ⟨_, rfl, ?_, fun _ => ?_⟩
        · simp
        · have hf : f i = .int (poolCell k) := by simp [f, hk]
          rw [hf, poolCell]
          by_cases h0 : 0 ≤ k
          · simp [wipeG, h0]
          · simp [wipeG, h0])
    obtain ⟨u, h1, e1, d⟩ := ris_ex lc
    subst d
    rw [List.length_map, ec] at e1
    simp only [lcK, Src.ok, Src.xs] at e1 ⊢
    have e2 : ([O.fro (List.map U.int ns)] : Hb).length = 1 := rfl
    rw [e1]
    simp [lcE_run]
  · refine ⟨rfl, rfl, by decide, by decide, by decide, by decide, by decide, fun x hx => ?_, by omega⟩
    simp only [cells, List.mem_map] at hx
    obtain ⟨i, _, rfl⟩ := hx
    unfold poolCell
    split <;> omega
/-! ## the same -/
theorem rgU0_inv {n : Nat} {i : Nat} {x : U} (e : (rgU 0 n)[i]? = some x) : x = .int (i : Int) ∧ i < n := by
  have hi : i < n := by have := (List.getElem?_eq_some_iff.mp e).1; rwa [rgU_length] at this
  rw [rgU_get hi] at e
  cases e
  exact ⟨by simp, hi⟩
theorem same_loop {n : Nat} (ih : ∀ (a d : U) (h : Hb), SameD h n a d → (r_law_same n [a, d] h).is fun u h' => u = .bl true ∧ Fr [] h h') {a d : U} {h : Hb} {xs ys : List U} (le : xs.length = ys.length) (ll : xs.length ≤ 10000000)
    (ha : ∀ (i : Nat) (x : U) h', Fr [] h h' → xs[i]? = some x → vIx a (.int i) h' = .ok x h') (hd : ∀ (i : Nat) (x : U) h', Fr [] h h' → ys[i]? = some x → vIx d (.int i) h' = .ok x h')
    (q : ∀ (i : Nat) (x y : U), xs[i]? = some x → ys[i]? = some y → SameD h n x y) :
    ((iRg1k [U.int ys.length] h).bind (lcK (nNm 2) [2] bYes (eC (r_law_same n) (aCons (e2 vIx (eVar 0) (eVar 2)) (aCons (e2 vIx (eVar 1) (eVar 2)) aNil))) [some a, some d, none])).is fun u h' => Fr [] h h' ∧ ∃ r, u = .ref r ∧ h'[r]? = some (.lst ((List.range ys.length).map fun i => U.bl ((fun _ => true) i))) := by
  rw [iRg1k_run (by omega) (by omega), bind_ok]
  refine lc_is (ris_mono (lc_map (fun i => U.bl true) (by rw [rgU_length]; omega) (fun h' fr => trivial) fun i x h' hx fr => ?_) fun _ h' ⟨fr, e⟩ => ⟨fr, _, rfl, by rw [e, rgU_length]; simp⟩)
  obtain ⟨rfl, hi⟩ := rgU0_inv hx
  have hi' : i < ys.length := by omega
  have hix : i < xs.length := by omega
  refine ⟨_, rfl, ?_⟩
  have e1 := ha i _ h' fr (List.getElem?_eq_getElem hix)
  have e2 := hd i _ h' fr (List.getElem?_eq_getElem hi')
  simp [wipeG, e1, e2]
  exact ih _ _ _ ((q i _ _ (List.getElem?_eq_getElem hix) (List.getElem?_eq_getElem hi')).fr fr)
theorem same_end {h h' : Hb} {r : Nat} {n : Nat} (fr : Fr [] h h') (e : h'[r]? = some (.lst ((List.range n).map fun i => U.bl ((fun _ => true) i)))) : (cAll [.ref r] h').is fun u h'' => u = .bl true ∧ Fr [] h h'' := by
  rw [cAll_run e, ris_ok]
  refine ⟨?_, fr⟩
  simp
theorem law_same_ok (n : Nat) : ∀ (a d : U) (h : Hb), SameD h n a d → (r_law_same n [a, d] h).is fun u h' => u = .bl true ∧ Fr [] h h' := by
  induction n with
  | zero => intro a d h q; unfold SameD at q; exact q.elim
  | succ n ih =>
    intro a d h q
    unfold r_law_same
    rw [run2]
    cases a with
    | non =>
      cases d with
      | non => simp [b_law_same, Fr.refl]
      | _ => unfold SameD at q; exact q.elim
    | bl b =>
      cases d with
      | bl b' => unfold SameD at q; subst q; simp [b_law_same, Fr.refl]
      | _ => unfold SameD at q; exact q.elim
    | int b =>
      cases d with
      | int b' => unfold SameD at q; subst q; simp [b_law_same, Fr.refl]
      | _ => unfold SameD at q; exact q.elim
    | str b =>
      cases d with
      | str b' => unfold SameD at q; subst q; simp [b_law_same, Fr.refl]
      | _ => unfold SameD at q; exact q.elim
    | tup xs =>
      cases d with
      | tup ys =>
        unfold SameD at q
        obtain ⟨q1, q2, q3⟩ := q
        have hA : ∀ (i : Nat) (x : U) h', Fr [] h h' → xs[i]? = some x → vIx (.tup xs) (.int i) h' = .ok x h' := fun i x h' _ e => vIx_tup (atI_nat e)
        have hB : ∀ (i : Nat) (x : U) h', Fr [] h h' → ys[i]? = some x → vIx (.tup ys) (.int i) h' = .ok x h' := fun i x h' _ e => vIx_tup (atI_nat e)
        have lo := same_loop ih (a := .tup xs) (d := .tup ys) (h := h) (xs := xs) (ys := ys) q1 q2 hA hB q3
        obtain ⟨u, h', e, fr, r, rfl, er⟩ := ris_ex lo
        obtain ⟨u2, h2, e2, rfl, fr2⟩ := ris_ex (same_end fr er)
        have hl : (ys.length : Int) < 4611686018427387904 := by omega
        have hl2 : (-4611686018427387904 : Int) ≤ ys.length := by omega
        rw [iRg1k_run hl hl2, bind_ok, Int.toNat_natCast] at e
        simp [b_law_same, q1, iRg1k_run hl hl2, e, e2, fr2]
      | _ => unfold SameD at q; exact q.elim
    | ref i =>
      cases d with
      | ref j =>
        unfold SameD at q
        obtain ⟨xs, ys, q1, q2, q3, q4, q5⟩ := q
        have hA : ∀ (k : Nat) (x : U) h', Fr [] h h' → xs[k]? = some x → vIx (.ref i) (.int k) h' = .ok x h' := fun i x h' fr e => vIx_lst (fr.at0 q1) (atI_nat e)
        have hB : ∀ (k : Nat) (x : U) h', Fr [] h h' → ys[k]? = some x → vIx (.ref j) (.int k) h' = .ok x h' := fun i x h' fr e => vIx_lst (fr.at0 q2) (atI_nat e)
        have lo := same_loop ih (a := .ref i) (d := .ref j) (h := h) (xs := xs) (ys := ys) q3 q4 hA hB q5
        obtain ⟨u, h', e, fr, r, rfl, er⟩ := ris_ex lo
        obtain ⟨u2, h2, e2, rfl, fr2⟩ := ris_ex (same_end fr er)
        have hl : (ys.length : Int) < 4611686018427387904 := by omega
        have hl2 : (-4611686018427387904 : Int) ≤ ys.length := by omega
        rw [iRg1k_run hl hl2, bind_ok, Int.toNat_natCast] at e
        simp [b_law_same, isi_tup_ref q1, isi_lst_ref q1, isi_tup_ref q2, isi_lst_ref q2, cLen_lst q1, cLen_lst q2, q3, iRg1k_run hl hl2, e, e2, fr2]
      | _ => unfold SameD at q; exact q.elim
/-! ## the pool, shortly -/
structure Pool (h : Hb) (P C : Nat) : Prop where
  ex : ∃ cells a b c, PoolAt h P C cells a b c
theorem Pool.lp {h : Hb} {P C : Nat} (p : Pool h P C) : P < h.length := by obtain ⟨_, _, _, _, q⟩ := p.ex; exact lt_of_at q.p
theorem Pool.lc {h : Hb} {P C : Nat} (p : Pool h P C) : C < h.length := by obtain ⟨_, _, _, _, q⟩ := p.ex; exact lt_of_at q.q
theorem Pool.fr {W : List Nat} {h h' : Hb} {P C : Nat} (p : Pool h P C) (f : Fr W h h') (w1 : P ∉ W) (w2 : C ∉ W) : Pool h' P C := by
  obtain ⟨cells, a, b, c, q⟩ := p.ex
  exact ⟨cells, a, b, c, f.at q.p w1, f.at q.q w2, q.ne, q.a0, q.b0, q.c0, q.c1, q.s0, q.s1⟩
theorem Pool.fr0 {h h' : Hb} {P C : Nat} (p : Pool h P C) (f : Fr [] h h') : Pool h' P C := p.fr f (by simp) (by simp)
theorem take_ok {h : Hb} {P C : Nat} (p : Pool h P C) (m : Int) (m0 : 0 < m) (m1 : m < 1073741824) (n : Nat) :
    ∃ d h', r_law_take (n + 2) [.ref P, .int m] h = .ok (.int d) h' ∧ 0 ≤ d ∧ d < m ∧ Pool h' P C ∧ Fr [P] h h' ∧ h'.length = h.length := by
  obtain ⟨cells, a, b, c, q⟩ := p.ex
  obtain ⟨d, a', b', c', e, d0, d1, q'⟩ := law_take_ok q m0 m1 n
  exact ⟨d, _, e, d0, d1, ⟨_, _, _, _, q'⟩, Fr.set (.inl (by simp)), by simp⟩
/-! ## the table -/
structure Tab (T : U) (n : Nat) (ap : Nat → Nat → Int) : Prop where
  rows : ∃ (rs : List U) (ds : U), T = .tup [.tup rs, ds] ∧ rs.length = n
  n1 : 1 ≤ n
  n5 : n ≤ 5
  a1 : ∀ a b, a < n → b < n → 1 ≤ ap a b
  a2 : ∀ a b, a < n → b < n → ap a b ≤ 20
  sy : ∀ a b, a < n → b < n → ap a b = ap b a
  run1 : ∀ a b (h : Hb), a < n → b < n → r_apart [T, .int (a : Nat), .int (b : Nat)] h = .ok (.int (ap a b)) h
  run2 : ∀ a b (h : Hb), a < n → b < n → r_law_apart [T, .int (a : Nat), .int (b : Nat)] h = .ok (.int (ap a b)) h
def rowU (n : Nat) (deg : Nat → Nat → Int) (a : Nat) : List U := (List.range n).map fun b => .int (deg a b)
theorem rowU_get {n : Nat} {deg : Nat → Nat → Int} {a b : Nat} (hb : b < n) : (rowU n deg a)[b]? = some (.int (deg a b)) := by simp [rowU, hb]
theorem rowU_len {n : Nat} {deg : Nat → Nat → Int} {a : Nat} : (rowU n deg a).length = n := by simp [rowU]
theorem rowU_set {n : Nat} {deg : Nat → Nat → Int} {a b : Nat} {v : Int} : (rowU n deg a).set b (.int v) = (List.range n).map fun x => .int (if x = b then v else deg a x) := by
  apply List.ext_getElem?
  intro i
  rw [List.getElem?_set]
  by_cases hi : i < n
  · by_cases e : b = i
    · subst e; simp [rowU, hi]
    · have : ¬ i = b := fun q => e q.symm
      simp [rowU, hi, e, this]
  · have h1 : (rowU n deg a)[i]? = none := List.getElem?_eq_none (by rw [rowU_len]; omega)
    have h2 : ¬ i < (rowU n deg a).length := by rw [rowU_len]; omega
    simp only [h1, h2, if_false, ite_self]
    simp [hi]
    intro q; rw [rowU_len]; omega
structure Mat (h : Hb) (L D : Nat) (refs : List Nat) (n : Nat) (deg : Nat → Nat → Int) : Prop where
  dl : h[D]? = some (.lst (refs.map U.ref))
  len : refs.length = n
  nd : ∀ (i j : Nat) (r : Nat), refs[i]? = some r → refs[j]? = some r → i = j
  row : ∀ (a r : Nat), refs[a]? = some r → h[r]? = some (.lst (rowU n deg a))
  lo : ∀ r ∈ refs, L ≤ r ∧ r ≠ D
  ld : L ≤ D
theorem Mat.fr {h h' : Hb} {L D : Nat} {refs : List Nat} {n : Nat} {deg : Nat → Nat → Int} (m : Mat h L D refs n deg) {W : List Nat} (f : Fr W h h') (w : ∀ x ∈ W, x < L) : Mat h' L D refs n deg :=
  ⟨f.at m.dl fun q => by have := w _ q; have := m.ld; omega, m.len, m.nd, fun a r e => f.at (m.row a r e) fun q => by have := w _ q; have := (m.lo r (List.mem_of_getElem? e)).1; omega, m.lo, m.ld⟩
theorem Mat.put {h : Hb} {L D : Nat} {refs : List Nat} {n : Nat} {deg : Nat → Nat → Int} (m : Mat h L D refs n deg) {a b r : Nat} {v : Int} (e : refs[a]? = some r) :
    Mat (h.set r (.lst ((rowU n deg a).set b (.int v)))) L D refs n (fun x y => if x = a ∧ y = b then v else deg x y) := by
  have lr := lt_of_at (m.row a r e)
  refine ⟨?_, m.len, m.nd, fun x q ex => ?_, m.lo, m.ld⟩
  · rw [List.getElem?_set_ne (m.lo r (List.mem_of_getElem? e)).2]; exact m.dl
  · by_cases hx : x = a
    · subst hx
      rw [e] at ex; cases ex
      rw [List.getElem?_set_self lr, rowU_set]
      simp [rowU]
    · have hq : r ≠ q := fun z => hx (m.nd x a q ex (z ▸ e))
      rw [List.getElem?_set_ne hq, m.row x q ex]
      simp [rowU, hx]
theorem tab_of {n : Nat} {deg : Nat → Nat → Int} {ds : List Int} (n1 : 1 ≤ n) (n5 : n ≤ 5) (d0 : ∀ a b, a < n → b < n → 0 ≤ deg a b ∧ deg a b < 4) (sy : ∀ a b, a < n → b < n → deg a b = deg b a)
    (dl : ds.length = 4) (db : ∀ x ∈ ds, x ≤ 20) : ∃ ap, Tab (.tup [.tup ((List.range n).map fun a => .tup (rowU n deg a)), .tup (ds.map U.int)]) n ap := by
  have look : ∀ a b, a < n → b < n → ∃ x, ds[(deg a b).toNat]? = some x ∧ x ≤ 20 := fun a b ha hb => by
    have := d0 a b ha hb
    have l : (deg a b).toNat < ds.length := by omega
    exact ⟨_, List.getElem?_eq_getElem l, db _ (List.getElem_mem l)⟩
  refine ⟨fun a b => if (ds[(deg a b).toNat]?).getD 0 > 1 then (ds[(deg a b).toNat]?).getD 0 else 1, ⟨⟨_, _, rfl, by simp⟩, n1, n5, fun a b ha hb => ?_, fun a b ha hb => ?_, fun a b ha hb => ?_, fun a b h ha hb => ?_, fun a b h ha hb => ?_⟩⟩
  · split <;> omega
  · obtain ⟨x, e, hx⟩ := look a b ha hb
    simp only [e, Option.getD_some]; split <;> omega
  · rw [sy a b ha hb]
  · obtain ⟨x, e, hx⟩ := look a b ha hb
    have := d0 a b ha hb
    have i1 : vIx (.tup ((List.range n).map fun a => .tup (rowU n deg a))) (.int (a : Nat)) h = .ok (.tup (rowU n deg a)) h := vIx_tup (atI_nat (by simp [ha]))
    have i2 : vIx (.tup (rowU n deg a)) (.int (b : Nat)) h = .ok (.int (deg a b)) h := vIx_tup (atI_nat (rowU_get hb))
    have ed : deg a b = (((deg a b).toNat : Nat) : Int) := by omega
    have i3 : vIx (.tup (ds.map U.int)) (.int (deg a b)) h = .ok (.int x) h := by rw [ed]; exact vIx_tup (atI_nat (by simp [e]))
    unfold r_apart
    rw [run3]
    simp [b_apart, i1, i2, i3, e]
  · obtain ⟨x, e, hx⟩ := look a b ha hb
    have := d0 a b ha hb
    have i1 : vIx (.tup ((List.range n).map fun a => .tup (rowU n deg a))) (.int (a : Nat)) h = .ok (.tup (rowU n deg a)) h := vIx_tup (atI_nat (by simp [ha]))
    have i2 : vIx (.tup (rowU n deg a)) (.int (b : Nat)) h = .ok (.int (deg a b)) h := vIx_tup (atI_nat (rowU_get hb))
    have ed : deg a b = (((deg a b).toNat : Nat) : Int) := by omega
    have i3 : vIx (.tup (ds.map U.int)) (.int (deg a b)) h = .ok (.int x) h := by rw [ed]; exact vIx_tup (atI_nat (by simp [e]))
    unfold r_law_apart
    rw [run3]
    simp [b_law_apart, i1, i2, i3, e]
theorem vMul_lst {h : Hb} {a : Nat} {xs : List U} {n : Nat} (e : h[a]? = some (.lst xs)) (hn : n ≤ 1000) (hx : xs.length ≤ 1000) : vMul (.ref a) (.int (n : Nat)) h = .ok (.ref h.length) (h ++ [.lst (List.replicate n xs).flatten]) := by
  have hm : xs.length * n ≤ 1000 * 1000 := Nat.mul_le_mul hx hn
  have hs : xs.length * n ≤ sizeLine := by rw [sizeLine_eq]; omega
  unfold vMul
  simp only [e, Int.toNat_natCast]
  rw [if_pos ⟨by omega, by omega, hs⟩]
theorem ixN_nat {n j : Nat} (h : j < n) : ixN n (j : Int) = some j := by
  unfold ixN
  rw [if_pos (by omega), if_pos (by omega)]; simp
theorem law_table_ok {h : Hb} {P C : Nat} (p : Pool h P C) : (r_law_table [.ref P] h).is fun T h' => Pool h' P C ∧ Fr [P] h h' ∧ ∃ n ap, Tab T n ap := by
  obtain ⟨d, h1, e1, d0, d1, p1, f1, l1⟩ := take_ok p 5 (by decide) (by decide) 1
  obtain ⟨n, hn⟩ : ∃ n : Nat, 1 + d = (n : Int) := ⟨(1 + d).toNat, by omega⟩
  have n1 : 1 ≤ n := by omega
  have n5 : n ≤ 5 := by omega
  have b1 : ((n : Nat) : Int) < 4611686018427387904 := by omega
  have b2 : (-4611686018427387904 : Int) ≤ (n : Nat) := by omega
  unfold r_law_table
  rw [run1]
  refine ris_out ?_
  simp [b_law_table, e1, hn, iRg1k_run b1 b2, lcK]
  have st2 := lc_run (ok := fun _ => True) (g := nNm 2) (own := [2]) (tt := bYes) (fe := e2 vMul (eLst (aCons (eCon (.int 0)) aNil)) (eVar 1)) (s := [some (U.ref P), some (U.int n), none, none, none, none, none, none, none]) (xs := rgU 0 n) (h := h1) (W := [])
    (fun i acc h' => ∃ refs : List Nat, acc = refs.map U.ref ∧ refs.length = i ∧ (∀ (i j : Nat) (r : Nat), refs[i]? = some r → refs[j]? = some r → i = j) ∧ (∀ (a r : Nat), refs[a]? = some r → h'[r]? = some (.lst (rowU n (fun _ _ => 0) a))) ∧ ∀ r ∈ refs, h1.length ≤ r ∧ r ≠ h1.length)
    (by simp) (by rw [rgU_length]; omega) (fun _ _ _ _ _ _ => trivial) ⟨[], by simp⟩ (fun i x acc h' hx fr dl ⟨refs, q1, q2, q3, q4, q5⟩ => by
      obtain ⟨rfl, hi⟩ := rgU0_inv hx
      refine ⟨_, rfl, ?_⟩
      simp only [bYes_run, ris_ok]
      refine ⟨Fr.refl _ _, by simp, fun _ => ?_⟩
      have e0 : (h' ++ [O.lst [U.int 0]])[h'.length]? = some (.lst [U.int 0]) := by simp
      have lh : h1.length < h'.length := lt_of_at dl
      simp [wipeG, vMul_lst e0 (n := n) (by omega) (by simp)]
      refine ⟨Fr.app _ _, refs ++ [h'.length + 1], by simp [q1], by simp [q2], fun i j r ei ej => ?_, fun a r ea => ?_, fun r hr => ?_⟩
      · have old : ∀ k : Nat, refs[k]? = some r → r < h'.length := fun k ek => lt_of_at (q4 k r ek)
        rw [List.getElem?_append] at ei ej
        split at ei
        · have := old _ ei
          split at ej
          · exact q3 i j r ei ej
          · have := List.mem_of_getElem? ej; simp at this; omega
        · have hr := List.mem_of_getElem? ei; simp at hr
          have := (List.getElem?_eq_some_iff.mp ei).1
          split at ej
          · have := old _ ej; omega
          · have := (List.getElem?_eq_some_iff.mp ej).1; simp at *; omega
      · have hne : h1.length ≠ r ∧ (h' ++ [O.lst [U.int 0], O.lst (List.replicate n (U.int 0))])[r]? = some (.lst (rowU n (fun _ _ => 0) a)) := by
          rw [List.getElem?_append] at ea
          split at ea
          · have := q4 a r ea
            exact ⟨fun z => (q5 r (List.mem_of_getElem? ea)).2 z.symm, by rw [List.getElem?_append_left (lt_of_at this)]; exact this⟩
          · have hr := List.mem_of_getElem? ea; simp at hr
            subst hr
            refine ⟨by omega, ?_⟩
            rw [List.getElem?_append_right (by omega)]
            simp [rowU]
            rw [List.map_const', List.length_range]
        rw [List.getElem?_set_ne hne.1]; exact hne.2
      · rcases List.mem_append.mp hr with hr | hr
        · exact q5 r hr
        · simp at hr; omega)
  obtain ⟨_, h2, e2, f2, acc, da, _, refs, rfl, r2, r3, r4, r5⟩ := ris_ex st2
  have m2 : Mat h2 h1.length h1.length refs n (fun _ _ => 0) := ⟨da, by rw [r2, rgU_length], r3, r4, r5, Nat.le_refl _⟩
  have p2 := p1.fr0 f2
  simp [e2, lcE_run, iRg1k_run b1 b2]
  have lP := p1.lp
  have lC := p1.lc
  generalize hD : h1.length = D at *
  refine is_thn ?_
  obtain ⟨I, hI⟩ : ∃ I : Nat → Sg → Hb → Prop, ∀ i s h', I i s h' ↔ ∃ x4 x5 x6 deg, s = [some (U.ref P), some (U.int n), none, some (U.ref D), x4, x5, x6, none, none] ∧ Mat h' D D refs n deg ∧ Pool h' P C ∧ Fr [P] h1 h' ∧ (∀ a b, 0 ≤ deg a b ∧ deg a b < 4) ∧ ∀ a b, deg a b = deg b a := ⟨_, fun _ _ _ => Iff.rfl⟩
  refine for_inv I (fun _ _ _ _ _ => trivial) (fun i x s h' hx iv => ?_) (fun s h' iv => ?_) ((hI _ _ _).mpr ⟨none, none, none, _, rfl, m2, p2, f2.nil, fun _ _ => by simp, fun _ _ => rfl⟩)
  · obtain ⟨x4, x5, x6, deg, es, m, pp, ff, dg, sy⟩ := (hI _ _ _).mp iv
    obtain ⟨rfl, hi⟩ := rgU0_inv hx
    subst es
    have c1 : ((i : Nat) : Int) + 1 < 4611686018427387904 := by omega
    have c2 : (-4611686018427387904 : Int) ≤ (i : Nat) + 1 := by omega
    simp [iRg1k_run c1 c2]
    obtain ⟨J, hJ⟩ : ∃ J : Nat → Sg → Hb → Prop, ∀ j s h', J j s h' ↔ ∃ x5 x6 deg, s = [some (U.ref P), some (U.int n), none, some (U.ref D), some (U.int i), x5, x6, none, none] ∧ Mat h' D D refs n deg ∧ Pool h' P C ∧ Fr [P] h1 h' ∧ (∀ a b, 0 ≤ deg a b ∧ deg a b < 4) ∧ ∀ a b, deg a b = deg b a := ⟨_, fun _ _ _ => Iff.rfl⟩
    refine for_inv J (fun _ _ _ _ _ => trivial) (fun j x s h' hx hj => ?_) (fun s h' hj => ?_) ((hJ _ _ _).mpr ⟨_, _, _, rfl, m, pp, ff, dg, sy⟩)
    · obtain ⟨x5, x6, deg, es, m, pp, ff, dg, sy⟩ := (hJ _ _ _).mp hj
      obtain ⟨rfl, hj⟩ := rgU0_inv hx
      subst es
      have hj : j < n := by omega
      obtain ⟨d', h3, e3, q0, q1, p3, f3, l3⟩ := take_ok pp 4 (by decide) (by decide) 1
      have m3 := m.fr f3 (by simp; omega)
      obtain ⟨ri, eri⟩ : ∃ r, refs[i]? = some r := ⟨_, List.getElem?_eq_getElem (by rw [m.len]; exact hi)⟩
      obtain ⟨rj, erj⟩ : ∃ r, refs[j]? = some r := ⟨_, List.getElem?_eq_getElem (by rw [m.len]; exact hj)⟩
      have v1 : vIx (.ref D) (.int i) h3 = .ok (.ref ri) h3 := vIx_lst m3.dl (atI_nat (by simp [eri]))
      have s1 := pIx_run (u := .int d') (m3.row i ri eri) (i := (j : Int)) (j := j) (by rw [rowU_len]; exact ixN_nat hj)
      have m4 := m3.put (b := j) (v := d') eri
      have v2 : vIx (.ref D) (.int j) _ = .ok (.ref rj) _ := vIx_lst m4.dl (atI_nat (by simp [erj]))
      have s2 := pIx_run (u := .int d') (m4.row j rj erj) (i := (i : Int)) (j := i) (by rw [rowU_len]; exact ixN_nat hi)
      have m5 := m4.put (b := i) (v := d') erj
      have lo : ∀ r, r ∈ refs → r ≠ P ∧ r ≠ C := fun r hr => by have := (m.lo r hr).1; omega
      have li := m.lo ri (List.mem_of_getElem? eri)
      have lj := m.lo rj (List.mem_of_getElem? erj)
      simp [e3, v1, gI2_some s1, v2, gI2_some s2]
      refine (hJ _ _ _).mpr ⟨_, _, _, rfl, m5, (p3.fr (Fr.set (W := [ri]) (.inl (by simp))) (by simp; omega) (by simp; omega)).fr (Fr.set (W := [rj]) (.inl (by simp))) (by simp; omega) (by simp; omega), ?_, fun a b => ?_, fun a b => ?_⟩
      · exact ((ff.trans f3).setNew (by omega)).setNew (by omega)
      · have := dg a b
        split
        · omega
        · split <;> omega
      · rw [sy a b]
        simp only [show (b = j ∧ a = i) ↔ (a = i ∧ b = j) from And.comm, show (b = i ∧ a = j) ↔ (a = j ∧ b = i) from And.comm]
        split <;> split <;> rfl
    · obtain ⟨x5, x6, deg, es, m, pp, ff, dg, sy⟩ := (hJ _ _ _).mp hj
      exact (hI _ _ _).mpr ⟨_, _, _, _, es, m, pp, ff, dg, sy⟩
  · obtain ⟨x4, x5, x6, deg, es, m, pp, ff, dg, sy⟩ := (hI _ _ _).mp iv
    subst es
    obtain ⟨d', h3, e3, q0, q1, p3, f3, l3⟩ := take_ok pp 3 (by decide) (by decide) 1
    have m3 := m.fr f3 (by simp; omega)
    have p4 := p3.fr0 (Fr.app h3 [O.lst [U.int d']])
    have m4 := m3.fr (Fr.app (W := []) h3 [O.lst [U.int d']]) (by simp)
    have lP3 := p3.lp
    have lC3 := p3.lc
    have lD3 := lt_of_at m3.dl
    have lr3 : ∀ r ∈ refs, r < h3.length := fun r hr => by
      obtain ⟨k, ek⟩ := List.mem_iff_getElem?.mp hr
      exact lt_of_at (m3.row k r ek)
    simp [e3]
    have g4 : Fr [P] h1 (h3 ++ [O.lst [U.int d']]) := (ff.trans f3).trans (Fr.app _ _)
    have dl0 : (h3 ++ [O.lst [U.int d']])[h3.length]? = some (.lst ([d'].map U.int)) := by simp
    generalize hG : h3.length = G at *
    generalize (h3 ++ [O.lst [U.int d']]) = h4 at *
    refine is_thn ?_
    obtain ⟨K, hK⟩ : ∃ K : Nat → Sg → Hb → Prop, ∀ i s h', K i s h' ↔ ∃ (x2 : Option U) (ds : List Int), s = [some (U.ref P), some (U.int n), x2, some (U.ref D), x4, x5, x6, some (U.ref G), none] ∧ Mat h' D D refs n deg ∧ Pool h' P C ∧ Fr [P] h1 h' ∧ h'[G]? = some (.lst (ds.map U.int)) ∧ ds.length = i + 1 ∧ ∀ x ∈ ds, x ≤ 2 + 4 * (i : Int) := ⟨_, fun _ _ _ => Iff.rfl⟩
    refine for_inv K (fun _ _ _ _ _ => trivial) (fun i x s h' hx iv => ?_) (fun s h' iv => ?_) ((hK _ _ _).mpr ⟨_, _, rfl, m4, p4, g4, dl0, rfl, by simp; omega⟩)
    · obtain ⟨x2, ds, es, m, pp, ff, dl, ln, bd⟩ := (hK _ _ _).mp iv
      obtain ⟨rfl, hi⟩ := rgU0_inv hx
      subst es
      obtain ⟨d', h5, e5, q0, q1, p5, f5, l5⟩ := take_ok pp 5 (by decide) (by decide) 1
      have hG5 := f5.at dl (by simp; omega)
      obtain ⟨z, ez⟩ : ∃ z, ds[i]? = some z := ⟨_, List.getElem?_eq_getElem (by omega)⟩
      have v1 : vIx (.ref G) (.int (-1)) h' = .ok (.int z) h' := vIx_lst dl (by
        unfold atI
        have : ixN (ds.map U.int).length (-1) = some i := by unfold ixN; rw [if_neg (by omega), List.length_map, if_pos (by omega)]; simp; omega
        rw [this]; simp [ez])
      have zb := bd z (List.mem_of_getElem? ez)
      have ap := mAppend_run (y := .int (z + d')) hG5 (by rw [List.length_map]; omega)
      have lG := lt_of_at hG5
      simp [eMk_lst dl, v1, e5, ap]
      have mm := m.fr f5 (by simp; omega)
      refine (hK _ _ _).mpr ⟨_, ds ++ [z + d'], rfl, ?_, p5.fr (Fr.set (W := [G]) (.inl (by simp))) (by simp; omega) (by simp; omega), (ff.trans f5).setNew (by omega), ?_, by simp; omega, ?_⟩
      · refine ⟨?_, mm.len, mm.nd, fun a r e => ?_, mm.lo, mm.ld⟩
        · rw [List.getElem?_set_ne (by omega)]; exact mm.dl
        · rw [List.getElem?_set_ne (by have := lr3 r (List.mem_of_getElem? e); omega)]; exact mm.row a r e
      · rw [List.getElem?_set_self lG]; simp
      · intro x hx
        rcases List.mem_append.mp hx with hx | hx
        · have := bd x hx; omega
        · simp at hx; omega
    · obtain ⟨x2, ds, es, m, pp, ff, dl, ln, bd⟩ := (hK _ _ _).mp iv
      subst es
      have lc := lc_pure (ok := fun h'' => h''[D]? = some (.lst (refs.map U.ref))) (g := nNm 8) (own := [8]) (tt := bYes) (fe := eC cTup (aCons (eVar 8) aNil)) (s := [some (U.ref P), some (U.int n), x2, some (U.ref D), x4, x5, x6, some (U.ref G), none])
        (xs := refs.map U.ref) (h := h') (fun _ => true) (fun a => .tup (rowU n deg a)) (by rw [List.length_map, m.len]; omega) (fun h'' fr => fr.at0 m.dl) (fun i x h'' hx fr => by
          rw [List.getElem?_map] at hx
          obtain ⟨r, er, rfl⟩ := Option.map_eq_some_iff.mp hx
          refine ⟨_, rfl, by simp, fun _ => ?_⟩
          have := fr.at0 (m.row i r er)
          simp [wipeG, cTup_lst this])
      obtain ⟨_, h6, e6, rfl⟩ := ris_ex lc
      have ef : (List.range (refs.map U.ref).length).filter (fun _ => true) = List.range n := by rw [List.filter_eq_self.mpr (by simp), List.length_map, m.len]
      rw [ef] at e6
      have cl : (h' ++ [O.lst ((List.range n).map fun a => .tup (rowU n deg a))])[h'.length]? = some (.lst ((List.range n).map fun a => .tup (rowU n deg a))) := by simp
      have dl' := (Fr.app (W := []) h' [O.lst ((List.range n).map fun a => .tup (rowU n deg a))]).at0 dl
      simp [iSeqk_lst m.dl, lcK, e6, lcE_run, cTup_lst cl, cTup_lst dl']
      exact ⟨pp.fr0 (Fr.app _ _), f1.trans (ff.trans (Fr.app _ _)), n, tab_of n1 n5 (fun a b _ _ => dg a b) (fun a b _ _ => sy a b) (by rw [ln, rgU_length]) (fun x hx => by have := bd x hx; rw [rgU_length] at this; omega)⟩
def natU (c : Nat) : U := .int (c : Nat)
theorem law_classes_ok {h : Hb} {P C n : Nat} {T : U} {ap : Nat → Nat → Int} (p : Pool h P C) (tb : Tab T n ap) (m : Int) (m0 : 0 < m) (m1 : m ≤ 1000) : (r_law_classes [.ref P, T, .int 0, .int m] h).is fun u h' => Pool h' P C ∧ Fr [P] h h' ∧ ∃ cs : List Nat, u = .tup (cs.map natU) ∧ (cs.length : Int) < m ∧ ∀ c ∈ cs, c < n := by
  obtain ⟨d, h1, e1, d0, d1, p1, f1, l1⟩ := take_ok p m m0 (by omega) 1
  obtain ⟨k, rfl⟩ : ∃ k : Nat, d = (k : Int) := ⟨d.toNat, by omega⟩
  have b1 : ((k : Nat) : Int) < 4611686018427387904 := by omega
  have b2 : (-4611686018427387904 : Int) ≤ (k : Nat) := by omega
  obtain ⟨rs, ds, eT, lr⟩ := tb.rows
  have n1 := tb.n1
  have n5 := tb.n5
  unfold r_law_classes
  rw [run4]
  simp [b_law_classes, e1, iRg1k_run b1 b2, lcK]
  have lP := p1.lp
  have lC := p1.lc
  have lc := lc_run (ok := fun _ => True) (g := nNm 4) (own := [4]) (tt := bYes) (fe := eC (r_law_take 3) (aCons (eVar 0) (aCons (eC cLen (aCons (e2 vIx (eVar 1) (eCon (.int 0))) aNil)) aNil))) (s := [some (.ref P), some T, some (.int 0), some (.int m), none]) (xs := rgU 0 k) (h := h1) (W := [P])
    (fun i acc h' => Pool h' P C ∧ ∃ cs : List Nat, acc = cs.map natU ∧ cs.length = i ∧ ∀ c ∈ cs, c < n) (by simp; omega) (by rw [rgU_length]; omega) (fun _ _ _ _ _ _ => trivial) ⟨p1.fr0 (Fr.app _ _), [], by simp⟩ (fun i x acc h' hx fr dl ⟨pp, cs, q1, q2, q3⟩ => by
      obtain ⟨rfl, hi⟩ := rgU0_inv hx
      refine ⟨_, rfl, ?_⟩
      simp only [bYes_run, ris_ok]
      refine ⟨Fr.refl _ _, by simp, fun _ => ?_⟩
      obtain ⟨d, h2, e2, d0, d1, p2, f2, l2⟩ := take_ok pp (n : Int) (by omega) (by omega) 1
      have hl := lt_of_at dl
      subst eT
      simp [wipeG, lr, e2]
      refine ⟨f2, p2.fr (Fr.set (W := [h1.length]) (.inl (by simp))) (by simp; omega) (by simp; omega), cs ++ [d.toNat], ?_, by simp [q2], ?_⟩
      · simp [q1, natU]; omega
      · intro c hc
        rcases List.mem_append.mp hc with hc | hc
        · exact q3 c hc
        · simp at hc; omega)
  obtain ⟨_, h2, e2, f2, acc, da, _, p2, cs, rfl, q2, q3⟩ := ris_ex lc
  simp [e2, lcE_run, cTup_lst da]
  exact ⟨p2, f1.trans f2, cs, rfl, by rw [q2, rgU_length]; omega, q3⟩
/-- the row of pairs -/
def pairU (x : Nat × Int) : U := .tup [.int (x.1 : Nat), .int x.2]
/-- the pairs that are too close: what both find -/
def closeIn (cond : Nat → Nat → Bool) (i : Nat) (k : Nat) : List U := ((List.range k).filter fun j => cond i (i + 1 + j)).map fun j => .tup [.int (i : Nat), .int ((i + 1 + j : Nat) : Int)]
def closeAll (cond : Nat → Nat → Bool) (n i : Nat) : List U := (List.range i).flatMap fun i => closeIn cond i (n - (i + 1))
theorem closeAll_tree (cond : Nat → Nat → Bool) (n i : Nat) : ∀ x ∈ closeAll cond n i, Lz.Tree 2 x := by
  intro x hx
  simp only [closeAll, closeIn, List.mem_flatMap, List.mem_map] at hx
  obtain ⟨i, _, j, _, rfl⟩ := hx
  simp [Lz.Tree]
theorem closeIn_len (cond : Nat → Nat → Bool) (i k : Nat) : (closeIn cond i k).length ≤ k := by
  unfold closeIn
  rw [List.length_map]
  exact Nat.le_trans (List.length_filter_le _ _) (by simp)
theorem closeAll_len (cond : Nat → Nat → Bool) (n : Nat) : ∀ i, (closeAll cond n i).length ≤ i * n
  | 0 => by simp [closeAll]
  | i + 1 => by
    have h1 := closeAll_len cond n i
    have h2 := closeIn_len cond i (n - (i + 1))
    have e : closeAll cond n (i + 1) = closeAll cond n i ++ closeIn cond i (n - (i + 1)) := by simp [closeAll, List.range_succ]
    rw [e, List.length_append, Nat.add_mul]
    omega

def at_ (row : List (Nat × Int)) (i : Nat) : Nat × Int := (row[i]?).getD (0, 0)
theorem row_get {row : List (Nat × Int)} {i : Nat} (hi : i < row.length) : (row.map pairU)[i]? = some (.tup [.int ((at_ row i).1 : Nat), .int (at_ row i).2]) := by
  simp [at_, hi, pairU]
theorem close_loop {A : GC} {T : U} {n : Nat} {ap : Nat → Nat → Int} (ha : ∀ a b (h : Hb), a < n → b < n → A [T, .int (a : Nat), .int (b : Nat)] h = .ok (.int (ap a b)) h) {row : List (Nat × Int)} (rl : row.length ≤ 100) (rc : ∀ i, i < row.length → (at_ row i).1 < n) {h : Hb} {F : Nat} (hF : h[F]? = some (.lst [])) :
    (forL (fun _ => True) (gN (nNm 3)) (sFor (iRg2 (aCons (e2 vAdd (eVar 3) (eCon (.int 1))) (aCons (eC cLen (aCons (eVar 1) aNil)) aNil))) (gN (nNm 4))
       (sIf (asB (e2 vLt (eC cAbs (aCons (e2 vSub (e2 vIx (e2 vIx (eVar 1) (eVar 3)) (eCon (.int 1))) (e2 vIx (e2 vIx (eVar 1) (eVar 4)) (eCon (.int 1)))) aNil)) (eC A (aCons (eVar 0) (aCons (e2 vIx (e2 vIx (eVar 1) (eVar 3)) (eCon (.int 0))) (aCons (e2 vIx (e2 vIx (eVar 1) (eVar 4)) (eCon (.int 0))) aNil))))))
         (sExp (eM mAppend (eVar 2) (aCons (eTup (aCons (eVar 3) (aCons (eVar 4) aNil))) aNil)))
         sNil)) (rgU 0 row.length) [some T, some (.tup (row.map pairU)), some (.ref F), none, none] h).is
      { nx := fun s h' => (∃ x3 x4, s = [some T, some (.tup (row.map pairU)), some (.ref F), x3, x4]) ∧ Fr [F] h h' ∧ h'[F]? = some (.lst (closeAll (fun i j => decide ((if (at_ row i).2 - (at_ row j).2 < 0 then -((at_ row i).2 - (at_ row j).2) else (at_ row i).2 - (at_ row j).2) < ap (at_ row i).1 (at_ row j).1)) row.length row.length)) } := by
  generalize hc : (fun i j => decide ((if (at_ row i).2 - (at_ row j).2 < 0 then -((at_ row i).2 - (at_ row j).2) else (at_ row i).2 - (at_ row j).2) < ap (at_ row i).1 (at_ row j).1)) = cond
  obtain ⟨I, hI⟩ : ∃ I : Nat → Sg → Hb → Prop, ∀ i s h', I i s h' ↔ ∃ x3 x4, s = [some T, some (.tup (row.map pairU)), some (.ref F), x3, x4] ∧ Fr [F] h h' ∧ h'[F]? = some (.lst (closeAll cond row.length i)) := ⟨_, fun _ _ _ => Iff.rfl⟩
  refine for_inv I (fun _ _ _ _ _ => trivial) (fun i x s h' hx iv => ?_) (fun s h' iv => ?_) ((hI _ _ _).mpr ⟨_, _, rfl, Fr.refl _ _, by simp [closeAll, hF]⟩)
  · obtain ⟨x3, x4, es, ff, hf⟩ := (hI _ _ _).mp iv
    obtain ⟨rfl, hi⟩ := rgU0_inv hx
    subst es
    have c1 : ((i : Nat) : Int) + 1 < 4611686018427387904 := by omega
    have c2 : (-4611686018427387904 : Int) ≤ (i : Nat) + 1 := by omega
    have c3 : ((row.length : Nat) : Int) < 4611686018427387904 := by omega
    have c4 : (-4611686018427387904 : Int) ≤ (row.length : Nat) := by omega
    have c5 : ((row.length : Int) - ((i : Int) + 1)).toNat = row.length - (i + 1) := by omega
    simp [iRg2k_run c2 c1 c4 c3, c5]
    have e0 : closeAll cond row.length i = closeAll cond row.length i ++ closeIn cond i 0 := by simp [closeIn]
    obtain ⟨J, hJ⟩ : ∃ J : Nat → Sg → Hb → Prop, ∀ j s h', J j s h' ↔ ∃ x4, s = [some T, some (.tup (row.map pairU)), some (.ref F), some (.int (i : Nat)), x4] ∧ Fr [F] h h' ∧ h'[F]? = some (.lst (closeAll cond row.length i ++ closeIn cond i j)) := ⟨_, fun _ _ _ => Iff.rfl⟩
    refine for_inv J (fun _ _ _ _ _ => trivial) (fun j x s h' hx jv => ?_) (fun s h' jv => ?_) ((hJ _ _ _).mpr ⟨_, rfl, ff, by rw [← e0]; exact hf⟩)
    · obtain ⟨x4, es, ff, hf⟩ := (hJ _ _ _).mp jv
      have hj : j < row.length - (i + 1) := by have := (List.getElem?_eq_some_iff.mp hx).1; rwa [rgU_length] at this
      rw [rgU_get hj] at hx
      cases hx
      subst es
      have hj2 : i + 1 + j < row.length := by omega
      have v1 : vIx (.tup (row.map pairU)) (.int (i : Nat)) h' = .ok (.tup [.int ((at_ row i).1 : Nat), .int (at_ row i).2]) h' := vIx_tup (atI_nat (row_get hi))
      have v2 : vIx (.tup (row.map pairU)) (.int ((i : Int) + 1 + (j : Int))) h' = .ok (.tup [.int ((at_ row (i + 1 + j)).1 : Nat), .int (at_ row (i + 1 + j)).2]) h' := by
        have := atI_nat (row_get hj2)
        rw [show (((i + 1 + j : Nat)) : Int) = (i : Int) + 1 + (j : Int) by omega] at this
        exact vIx_tup this
      have aa := ha (at_ row i).1 (at_ row (i + 1 + j)).1 h' (rc i hi) (rc _ hj2)
      have es : closeIn cond i (j + 1) = closeIn cond i j ++ if cond i (i + 1 + j) = true then [.tup [.int (i : Nat), .int ((i + 1 + j : Nat) : Int)]] else [] := by
        unfold closeIn
        rw [List.range_succ, List.filter_append, List.map_append]
        by_cases z : cond i (i + 1 + j) = true
        · simp [z]
        · simp [z]
      have ll : (closeAll cond row.length i ++ closeIn cond i j).length ≤ 10000000 := by
        have h1 := closeAll_len cond row.length i
        have h2 := closeIn_len cond i j
        have h3 : i * row.length ≤ 100 * 100 := Nat.mul_le_mul (by omega) rl
        rw [List.length_append]; omega
      have app := mAppend_run (y := .tup [.int (i : Nat), .int ((i : Int) + 1 + (j : Int))]) hf ll
      have lF := lt_of_at hf
      have hcc : decide ((if (at_ row i).2 - (at_ row (i + 1 + j)).2 < 0 then -((at_ row i).2 - (at_ row (i + 1 + j)).2) else (at_ row i).2 - (at_ row (i + 1 + j)).2) < ap (at_ row i).1 (at_ row (i + 1 + j)).1) = cond i (i + 1 + j) := by rw [← hc]
      simp [v1, v2, aa]
      rw [hcc]
      cases hb : cond i (i + 1 + j) with
      | false =>
        rw [hb] at es
        simp
        exact (hJ _ _ _).mpr ⟨_, rfl, ff, by rw [es]; simpa using hf⟩
      | true =>
        rw [hb] at es
        simp [eMk_lst hf, app]
        exact (hJ _ _ _).mpr ⟨_, rfl, ff.trans (Fr.set (.inl (by simp))), by rw [List.getElem?_set_self lF, es]; simp⟩
    · obtain ⟨x4, es, ff, hf⟩ := (hJ _ _ _).mp jv
      rw [rgU_length] at hf
      exact (hI _ _ _).mpr ⟨_, _, es, ff, by rw [hf]; simp [closeAll, List.range_succ]⟩
  · obtain ⟨x3, x4, es, ff, hf⟩ := (hI _ _ _).mp iv
    rw [rgU_length] at hf
    exact ⟨⟨_, _, es⟩, ff, hf⟩

def condOf (ap : Nat → Nat → Int) (row : List (Nat × Int)) (i j : Nat) : Bool := decide ((if (at_ row i).2 - (at_ row j).2 < 0 then -((at_ row i).2 - (at_ row j).2) else (at_ row i).2 - (at_ row j).2) < ap (at_ row i).1 (at_ row j).1)
theorem violations_ok {T : U} {n : Nat} {ap : Nat → Nat → Int} (tb : Tab T n ap) {row : List (Nat × Int)} (rl : row.length ≤ 100) (rc : ∀ i, i < row.length → (at_ row i).1 < n) (h : Hb) :
    (r_violations [T, .tup (row.map pairU)] h).is fun u h' => Fr [] h h' ∧ u = .tup (closeAll (condOf ap row) row.length row.length) := by
  have b1 : ((row.length : Nat) : Int) < 4611686018427387904 := by omega
  have b2 : (-4611686018427387904 : Int) ≤ (row.length : Nat) := by omega
  unfold r_violations
  rw [run2]
  refine ris_out ?_
  simp [b_violations, iRg1k_run b1 b2]
  refine is_thn (is_mono (close_loop tb.run1 rl rc (h := h ++ [O.lst []]) (F := h.length) (by simp)) (fun s h' ⟨⟨x3, x4, es⟩, ff, hf⟩ => ?_) (fun _ _ q => q.elim) (fun _ _ q => q.elim) (fun _ _ q => q.elim))
  subst es
  simp [cTup_lst hf]
  refine ⟨⟨?_, fun i hi _ => ?_⟩, rfl⟩
  · have := ff.len; simp at this; omega
  · rw [ff.keep i (by simp; omega) (by simp; omega), List.getElem?_append_left hi]
theorem law_close_ok {T : U} {n : Nat} {ap : Nat → Nat → Int} (tb : Tab T n ap) {row : List (Nat × Int)} (rl : row.length ≤ 100) (rc : ∀ i, i < row.length → (at_ row i).1 < n) (h : Hb) :
    (r_law_close [T, .tup (row.map pairU)] h).is fun u h' => Fr [] h h' ∧ ∃ F, u = .ref F ∧ h'[F]? = some (.lst (closeAll (condOf ap row) row.length row.length)) := by
  have b1 : ((row.length : Nat) : Int) < 4611686018427387904 := by omega
  have b2 : (-4611686018427387904 : Int) ≤ (row.length : Nat) := by omega
  unfold r_law_close
  rw [run2]
  refine ris_out ?_
  simp [b_law_close, iRg1k_run b1 b2]
  refine is_thn (is_mono (close_loop tb.run2 rl rc (h := h ++ [O.lst []]) (F := h.length) (by simp)) (fun s h' ⟨⟨x3, x4, es⟩, ff, hf⟩ => ?_) (fun _ _ q => q.elim) (fun _ _ q => q.elim) (fun _ _ q => q.elim))
  subst es
  simp
  refine ⟨⟨?_, fun i hi _ => ?_⟩, hf⟩
  · have := ff.len; simp at this; omega
  · rw [ff.keep i (by simp; omega) (by simp; omega), List.getElem?_append_left hi]
/-! ## helpers -/
theorem Fr.fresh {h h' : Hb} {G : Hb} (f : Fr [h.length] (h ++ G) h') : Fr [] h h' := ⟨by have := f.len; rw [List.length_append] at this; omega, fun i hi _ => by
  rw [f.keep i (by rw [List.length_append]; omega) (by simp; omega), List.getElem?_append_left hi]⟩
structure SeqAt (h : Hb) (u : U) (xs : List U) : Prop where
  o : u = .tup xs ∨ ∃ a, u = .ref a ∧ h[a]? = some (.lst xs)
theorem SeqAt.fr {W : List Nat} {h h' : Hb} {u : U} {xs : List U} (q : SeqAt h u xs) (f : Fr W h h') (w : ∀ a, u = .ref a → a ∉ W) : SeqAt h' u xs := by
  rcases q.o with e | ⟨a, e, q⟩
  · exact ⟨.inl e⟩
  · exact ⟨.inr ⟨a, e, f.at q (w a e)⟩⟩
theorem SeqAt.fr0 {h h' : Hb} {u : U} {xs : List U} (q : SeqAt h u xs) (f : Fr [] h h') : SeqAt h' u xs := q.fr f (by simp)
theorem SeqAt.lt {h : Hb} {u : U} {xs : List U} (q : SeqAt h u xs) {a : Nat} (e : u = .ref a) : a < h.length := by
  rcases q.o with e' | ⟨b, e', q⟩
  · rw [e] at e'; cases e'
  · rw [e] at e'; cases e'; exact lt_of_at q
theorem SeqAt.ix {h : Hb} {u : U} {xs : List U} (q : SeqAt h u xs) {i : Nat} {x : U} (e : xs[i]? = some x) : vIx u (.int (i : Nat)) h = .ok x h := by
  rcases q.o with rfl | ⟨a, rfl, z⟩
  · exact vIx_tup (atI_nat e)
  · exact vIx_lst z (atI_nat e)
theorem SeqAt.len {h : Hb} {u : U} {xs : List U} (q : SeqAt h u xs) : cLen [u] h = .ok (.int xs.length) h := by
  rcases q.o with rfl | ⟨a, rfl, z⟩
  · exact cLen_tup _
  · exact cLen_lst z
theorem SeqAt.it {h : Hb} {u : U} {xs : List U} (q : SeqAt h u xs) : ∃ ok, iSeqk u h = .ok ⟨xs, ok⟩ h ∧ ∀ h', SeqAt h' u xs → ok h' := by
  rcases q.o with rfl | ⟨a, rfl, y⟩
  · exact ⟨_, iSeqk_tup _, fun _ _ => trivial⟩
  · refine ⟨_, iSeqk_lst y, fun h' z => ?_⟩
    rcases z.o with e | ⟨b, e, z⟩
    · cases e
    · cases e; exact z
theorem vAdd_lst {h : Hb} {a b : Nat} {xs ys : List U} (e1 : h[a]? = some (.lst xs)) (e2 : h[b]? = some (.lst ys)) (l : xs.length + ys.length ≤ 10000000) : vAdd (.ref a) (.ref b) h = .ok (.ref h.length) (h ++ [.lst (xs ++ ys)]) := by
  unfold vAdd
  simp only [e1, e2]
  exact if_pos (small_line l)
theorem intsU_map : ∀ l : List Int, intsU (l.map U.int) = some l
  | [] => rfl
  | x :: l => by
    show (intsU (l.map U.int)).map _ = _
    rw [intsU_map l]; rfl
theorem cMax_lst {h : Hb} {a : Nat} {x : Int} {xs : List Int} (e : h[a]? = some (.lst ((x :: xs).map U.int))) : cMax [.ref a] h = .ok (.int (xs.foldl (fun a b => if b > a then b else a) x)) h := by
  unfold cMax lstU
  simp only [e, Option.bind_some, intsU_map, maxI]
theorem cMin_lst {h : Hb} {a : Nat} {x : Int} {xs : List Int} (e : h[a]? = some (.lst ((x :: xs).map U.int))) : cMin [.ref a] h = .ok (.int (xs.foldl (fun a b => if b < a then b else a) x)) h := by
  unfold cMin lstU
  simp only [e, Option.bind_some, intsU_map, minI]
theorem range_all (n : Nat) : (List.range n).filter (fun _ => true) = List.range n := List.filter_eq_self.mpr (by simp)
def maxF (x : Int) (xs : List Int) : Int := xs.foldl (fun a b => if b > a then b else a) x
def reach (ap : Nat → Nat → Int) (cs : List Nat) (ps : List Int) (kind : Nat) : List Int := (List.range ps.length).map fun k => ps.getD k 0 + ap (cs.getD k 0) kind
def nextPos (ap : Nat → Nat → Int) (cs : List Nat) (ps : List Int) (kind : Nat) : Int := maxF 0 (reach ap cs ps kind)
theorem natU_get {cs : List Nat} {i : Nat} (h : i < cs.length) : (cs.map natU)[i]? = some (.int ((cs.getD i 0 : Nat) : Int)) := by simp [natU, h]
theorem getD_lt {cs : List Nat} {n i : Nat} (hc : ∀ c ∈ cs, c < n) (h : i < cs.length) : cs.getD i 0 < n := by
  simp [h]; exact hc _ (List.getElem_mem h)
theorem intU_get {ps : List Int} {i : Nat} (h : i < ps.length) : (ps.map U.int)[i]? = some (.int (ps.getD i 0)) := by simp [h]
theorem next_position_ok {T : U} {n : Nat} {ap : Nat → Nat → Int} (tb : Tab T n ap) {h : Hb} {u : U} {cs : List Nat} {F : Nat} {ps : List Int} {kind : Nat} (hu : SeqAt h u (cs.map natU)) (hF : h[F]? = some (.lst (ps.map U.int))) (hc : ∀ c ∈ cs, c < n) (hk : kind < n) (le : ps.length ≤ cs.length) (l1 : cs.length ≤ 100) :
    (r_next_position [T, u, .ref F, .int (kind : Nat)] h).is fun v h' => Fr [] h h' ∧ v = .int (nextPos ap cs ps kind) := by
  have b1 : ((ps.length : Nat) : Int) < 4611686018427387904 := by omega
  have b2 : (-4611686018427387904 : Int) ≤ (ps.length : Nat) := by omega
  unfold r_next_position
  rw [run4]
  have hF1 := (Fr.app (W := []) h [O.lst [.int 0]]).at0 hF
  have lc := lc_pure (ok := fun _ => True) (g := nNm 4) (own := [4]) (tt := bYes) (fe := e2 vAdd (e2 vIx (eVar 2) (eVar 4)) (eC r_apart (aCons (eVar 0) (aCons (e2 vIx (eVar 1) (eVar 4)) (aCons (eVar 3) aNil))))) (s := [some T, some u, some (.ref F), some (.int (kind : Nat)), none])
    (xs := rgU 0 ps.length) (h := h ++ [O.lst [.int 0]]) (fun _ => true) (fun k => .int (ps.getD k 0 + ap (cs.getD k 0) kind)) (by rw [rgU_length]; omega) (fun _ _ => trivial) (fun i x h' hx fr => by
      obtain ⟨rfl, hi⟩ := rgU0_inv hx
      refine ⟨_, rfl, by simp, fun _ => ?_⟩
      have i1 := vIx_lst (fr.at0 hF1) (atI_nat (intU_get hi))
      have i2 := (hu.fr0 ((Fr.app (W := []) h [O.lst [.int 0]]).trans fr)).ix (natU_get (i := i) (by omega))
      have aa := tb.run1 (cs.getD i 0) kind h' (getD_lt hc (by omega)) hk
      simp only [wipeG, List.foldl_cons, List.foldl_nil, List.set_cons_succ, List.set_cons_zero, e2_run, eVar_run, List.getElem?_cons_zero, List.getElem?_cons_succ, eVarK_some, bind_ok, e2k_run, i1, eC_run, aCons_run, aC1_run, i2, aNil_run, aC2_run, aa, vAdd_int])
  obtain ⟨_, h1, e1, rfl⟩ := ris_ex lc
  rw [rgU_length, range_all] at e1
  generalize hR : (List.range ps.length).map (fun k => U.int (ps.getD k 0 + ap (cs.getD k 0) kind)) = R at e1
  have eR : R = (reach ap cs ps kind).map U.int := by rw [← hR]; simp [reach, List.map_map]
  have lR : R.length = ps.length := by rw [← hR]; simp
  have g1 : (h ++ [O.lst [.int 0]] ++ [O.lst R])[h.length]? = some (.lst [.int 0]) := by simp
  have g2 : (h ++ [O.lst [.int 0]] ++ [O.lst R])[(h ++ [O.lst [.int 0]]).length]? = some (.lst R) := by simp
  have ad := vAdd_lst g1 g2 (by simp; omega)
  have g3 : (h ++ [O.lst [.int 0]] ++ [O.lst R] ++ [O.lst ([.int 0] ++ R)])[(h ++ [O.lst [.int 0]] ++ [O.lst R]).length]? = some (.lst ((0 :: reach ap cs ps kind).map U.int)) := by rw [eR]; simp
  have mx := cMax_lst g3
  simp only [b_next_position, sRet_run, eC_run, aCons_run, e2_run, eLst_run, eCon_run, bind_ok, aC1_run, aNil_run, aC2_run]
  rw [eLstk_run (by simp), bind_ok]
  simp only [e2k_run, eLc_run, iRg1_run, aCons_run, eC_run, eVar_run, List.cons_append, List.nil_append, List.getElem?_cons_zero, List.getElem?_cons_succ, eVarK_some, bind_ok, aC1_run, aNil_run, aC2_run, cLen_lst hF1, List.length_map, iRg1k_run b1 b2, Int.toNat_natCast, lcK, Nat.reduceSub, List.replicate_succ, List.replicate_zero]
  rw [e1, bind_ok, lcE_run, bind_ok, ad, bind_ok, aC1_run, aNil_run, bind_ok, aC2_run, bind_ok, mx, thn_ok, out_rt, ris_ok]
  exact ⟨((Fr.app _ _).trans (Fr.app _ _)).trans (Fr.app _ _), rfl⟩
def packL (ap : Nat → Nat → Int) (cs : List Nat) : Nat → List Int
  | 0 => []
  | k + 1 => packL ap cs k ++ [nextPos ap cs (packL ap cs k) (cs.getD k 0)]
theorem packL_len (ap : Nat → Nat → Int) (cs : List Nat) : ∀ k, (packL ap cs k).length = k
  | 0 => rfl
  | k + 1 => by unfold packL; rw [List.length_append, packL_len ap cs k]; rfl
theorem pack_ok {T : U} {n : Nat} {ap : Nat → Nat → Int} (tb : Tab T n ap) {h : Hb} {u : U} {cs : List Nat} (hu : SeqAt h u (cs.map natU)) (hc : ∀ c ∈ cs, c < n) (l1 : cs.length ≤ 100) :
    (r_pack [T, u] h).is fun v h' => Fr [] h h' ∧ v = .tup ((packL ap cs cs.length).map U.int) := by
  unfold r_pack
  rw [run2]
  refine ris_out ?_
  obtain ⟨ok, e0, hok⟩ := (hu.fr0 (Fr.app (W := []) h [O.lst []])).it
  simp [b_pack, e0]
  have hl : ∀ a, u = .ref a → a ≠ h.length := fun a ea => by have := hu.lt ea; omega
  obtain ⟨I, hI⟩ : ∃ I : Nat → Sg → Hb → Prop, ∀ i s h', I i s h' ↔ ∃ x3, s = [some T, some u, some (.ref h.length), x3] ∧ Fr [] h h' ∧ h'[h.length]? = some (.lst ((packL ap cs i).map U.int)) := ⟨_, fun _ _ _ => Iff.rfl⟩
  refine is_thn ?_
  refine for_inv I (fun i s h' _ iv => ?_) (fun i x s h' hx iv => ?_) (fun s h' iv => ?_) ((hI _ _ _).mpr ⟨_, rfl, Fr.app _ _, by simp [packL]⟩)
  · obtain ⟨x3, es, ff, hf⟩ := (hI _ _ _).mp iv
    exact hok _ (hu.fr0 ff)
  · obtain ⟨x3, es, ff, hf⟩ := (hI _ _ _).mp iv
    have hi : i < cs.length := by have := (List.getElem?_eq_some_iff.mp hx).1; rwa [List.length_map] at this
    rw [natU_get hi] at hx
    cases hx
    subst es
    obtain ⟨v, h2, e2, f2, rfl⟩ := ris_ex (next_position_ok tb (hu.fr0 ff) hf hc (getD_lt hc hi) (by rw [packL_len]; omega) l1)
    have hf2 := f2.at0 hf
    have app := mAppend_run (y := .int (nextPos ap cs (packL ap cs i) (cs.getD i 0))) hf2 (by rw [List.length_map, packL_len]; omega)
    have lf := lt_of_at hf2
    have ep : packL ap cs (i + 1) = packL ap cs i ++ [nextPos ap cs (packL ap cs i) (cs.getD i 0)] := rfl
    generalize cs.getD i 0 = kk at *
    simp [eMk_lst hf, e2, app]
    exact (hI _ _ _).mpr ⟨_, rfl, (ff.trans f2).setNew (Nat.le_refl _), by rw [List.getElem?_set_self lf, ep]; simp⟩
  · obtain ⟨x3, es, ff, hf⟩ := (hI _ _ _).mp iv
    subst es
    rw [List.length_map] at hf
    simp [cTup_lst hf]
    exact ff

/-! what packing is -/
theorem maxF_ge {x : Int} {xs : List Int} : x ≤ maxF x xs ∧ (∀ y ∈ xs, y ≤ maxF x xs) ∧ (maxF x xs = x ∨ maxF x xs ∈ xs) := maxI_fold xs x
def P_ (ap : Nat → Nat → Int) (cs : List Nat) (k : Nat) : Int := nextPos ap cs (packL ap cs k) (cs.getD k 0)
theorem packL_get (ap : Nat → Nat → Int) (cs : List Nat) : ∀ {k i : Nat}, i < k → (packL ap cs k).getD i 0 = P_ ap cs i
  | 0, i, h => by omega
  | k + 1, i, h => by
    unfold packL
    by_cases e : i < k
    · have := packL_get ap cs e
      rw [List.getD_eq_getElem?_getD, List.getElem?_append_left (by rw [packL_len]; exact e), ← List.getD_eq_getElem?_getD]
      exact this
    · have : i = k := by omega
      subst this
      rw [List.getD_eq_getElem?_getD, List.getElem?_append_right (by rw [packL_len]; omega), packL_len]
      simp [P_]
theorem P_nonneg (ap : Nat → Nat → Int) (cs : List Nat) (k : Nat) : 0 ≤ P_ ap cs k := maxF_ge.1
theorem P_ge (ap : Nat → Nat → Int) (cs : List Nat) {j k : Nat} (h : j < k) : P_ ap cs j + ap (cs.getD j 0) (cs.getD k 0) ≤ P_ ap cs k := by
  have := (maxF_ge (x := 0) (xs := reach ap cs (packL ap cs k) (cs.getD k 0))).2.1 (P_ ap cs j + ap (cs.getD j 0) (cs.getD k 0)) (by
    unfold reach
    rw [packL_len]
    exact List.mem_map.mpr ⟨j, List.mem_range.mpr h, by rw [packL_get ap cs h]⟩)
  exact this
theorem P_hit (ap : Nat → Nat → Int) (cs : List Nat) (k : Nat) : P_ ap cs k = 0 ∨ ∃ j, j < k ∧ P_ ap cs k = P_ ap cs j + ap (cs.getD j 0) (cs.getD k 0) := by
  rcases (maxF_ge (x := 0) (xs := reach ap cs (packL ap cs k) (cs.getD k 0))).2.2 with h | h
  · exact .inl h
  · have h : P_ ap cs k ∈ reach ap cs (packL ap cs k) (cs.getD k 0) := h
    unfold reach at h
    rw [packL_len] at h
    obtain ⟨j, hj, e⟩ := List.mem_map.mp h
    have hj := List.mem_range.mp hj
    rw [packL_get ap cs hj] at e
    exact .inr ⟨j, hj, e.symm⟩

/-- a chain of boxes from i to k, with what its distances add up to -/
inductive Ch (ap : Nat → Nat → Int) (cs : List Nat) : Nat → Nat → Int → Prop
  | one (i : Nat) : Ch ap cs i i 0
  | step {i j : Nat} {w : Int} (k : Nat) : Ch ap cs i j w → j < k → Ch ap cs i k (w + ap (cs.getD j 0) (cs.getD k 0))
theorem Ch.front {ap : Nat → Nat → Int} {cs : List Nat} {i j k : Nat} {w : Int} (c : Ch ap cs j k w) : i < j → Ch ap cs i k (ap (cs.getD i 0) (cs.getD j 0) + w) := by
  intro h
  induction c with
  | one => 
    have := (Ch.one (ap := ap) (cs := cs) i).step _ h
    rw [Int.zero_add] at this
    rw [Int.add_zero]; exact this
  | step k c lt ih =>
    have := ih.step _ lt
    rwa [Int.add_assoc] at this
theorem Ch.le {ap : Nat → Nat → Int} {cs : List Nat} {i k : Nat} {w : Int} (c : Ch ap cs i k w) : w ≤ P_ ap cs k := by
  induction c with
  | one => exact P_nonneg ap cs _
  | step k c lt ih => have := P_ge ap cs lt; omega
theorem Ch.hit (ap : Nat → Nat → Int) (cs : List Nat) (k : Nat) : ∃ i, i ≤ k ∧ Ch ap cs i k (P_ ap cs k) := by
  induction k using Nat.strongRecOn with
  | _ k ih =>
    rcases P_hit ap cs k with h | ⟨j, hj, e⟩
    · exact ⟨k, Nat.le_refl _, by rw [h]; exact .one _⟩
    · obtain ⟨i, hi, c⟩ := ih j hj
      exact ⟨i, by omega, by rw [e]; exact c.step _ hj⟩
theorem getD_rev {cs : List Nat} {i : Nat} (h : i < cs.length) : cs.reverse.getD (cs.length - 1 - i) 0 = cs.getD i 0 := by
  rw [List.getD_eq_getElem?_getD, List.getD_eq_getElem?_getD, List.getElem?_reverse (by omega)]
  congr 2
  omega
theorem Ch.rev {ap : Nat → Nat → Int} {cs : List Nat} {i k : Nat} {w : Int} (sy : ∀ a b, a < cs.length → b < cs.length → ap (cs.getD a 0) (cs.getD b 0) = ap (cs.getD b 0) (cs.getD a 0)) (c : Ch ap cs i k w) : k < cs.length → Ch ap cs.reverse (cs.length - 1 - k) (cs.length - 1 - i) w := by
  induction c with
  | one => intro _; exact .one _
  | step k c lt ih =>
    intro h
    have := (ih (by omega)).front (i := cs.length - 1 - k) (by omega)
    rw [getD_rev h, getD_rev (by omega), sy _ _ h (by omega), Int.add_comm] at this
    exact this
theorem P_mono {ap : Nat → Nat → Int} {cs : List Nat} (nn : ∀ a b, a < cs.length → b < cs.length → 0 ≤ ap (cs.getD a 0) (cs.getD b 0)) {j k : Nat} (h : j ≤ k) (hk : k < cs.length) : P_ ap cs j ≤ P_ ap cs k := by
  rcases Nat.lt_or_eq_of_le h with h | h
  · have := P_ge ap cs h; have := nn j k (by omega) hk; omega
  · subst h; exact Int.le_refl _
theorem P_rev_le {ap : Nat → Nat → Int} {cs : List Nat} (sy : ∀ a b, a < cs.length → b < cs.length → ap (cs.getD a 0) (cs.getD b 0) = ap (cs.getD b 0) (cs.getD a 0)) (nn : ∀ a b, a < cs.length → b < cs.length → 0 ≤ ap (cs.getD a 0) (cs.getD b 0)) (h0 : 0 < cs.length) :
    P_ ap cs (cs.length - 1) ≤ P_ ap cs.reverse (cs.length - 1) := by
  obtain ⟨i, hi, c⟩ := Ch.hit ap cs (cs.length - 1)
  have c2 := (c.rev sy (by omega)).le
  have nn' : ∀ a b, a < cs.reverse.length → b < cs.reverse.length → 0 ≤ ap (cs.reverse.getD a 0) (cs.reverse.getD b 0) := fun a b ha hb => by
    rw [List.length_reverse] at ha hb
    have e1 := getD_rev (cs := cs) (i := cs.length - 1 - a) (by omega)
    have e2 := getD_rev (cs := cs) (i := cs.length - 1 - b) (by omega)
    rw [show cs.length - 1 - (cs.length - 1 - a) = a by omega] at e1
    rw [show cs.length - 1 - (cs.length - 1 - b) = b by omega] at e2
    rw [e1, e2]
    exact nn _ _ (by omega) (by omega)
  exact Int.le_trans c2 (P_mono nn' (by omega) (by rw [List.length_reverse]; omega))
theorem P_rev {ap : Nat → Nat → Int} {cs : List Nat} (sy : ∀ a b, a < cs.length → b < cs.length → ap (cs.getD a 0) (cs.getD b 0) = ap (cs.getD b 0) (cs.getD a 0)) (nn : ∀ a b, a < cs.length → b < cs.length → 0 ≤ ap (cs.getD a 0) (cs.getD b 0)) (h0 : 0 < cs.length) :
    P_ ap cs.reverse (cs.length - 1) = P_ ap cs (cs.length - 1) := by
  have back : ∀ a, a < cs.reverse.length → cs.reverse.getD a 0 = cs.getD (cs.length - 1 - a) 0 := fun a ha => by
    rw [List.length_reverse] at ha
    have e1 := getD_rev (cs := cs) (i := cs.length - 1 - a) (by omega)
    rwa [show cs.length - 1 - (cs.length - 1 - a) = a by omega] at e1
  have h1 := P_rev_le sy nn h0
  have h2 := P_rev_le (cs := cs.reverse) (ap := ap) (fun a b ha hb => by
    rw [back a ha, back b hb]; rw [List.length_reverse] at ha hb
    exact sy _ _ (by omega) (by omega)) (fun a b ha hb => by
    rw [back a ha, back b hb]; rw [List.length_reverse] at ha hb
    exact nn _ _ (by omega) (by omega)) (by rw [List.length_reverse]; exact h0)
  rw [List.reverse_reverse, List.length_reverse] at h2
  omega
theorem P_bound {ap : Nat → Nat → Int} {cs : List Nat} (a2 : ∀ a b, a < cs.length → b < cs.length → ap (cs.getD a 0) (cs.getD b 0) ≤ 20) (k : Nat) : k < cs.length → P_ ap cs k ≤ 20 * (k : Int) := by
  induction k using Nat.strongRecOn with
  | _ k ih =>
    intro hk
    rcases P_hit ap cs k with h | ⟨j, hj, e⟩
    · omega
    · have h1 := ih j hj (by omega)
      have h2 := a2 j k (by omega) hk
      omega
theorem law_least_ok {T : U} {n : Nat} {ap : Nat → Nat → Int} (tb : Tab T n ap) {h : Hb} {cs : List Nat} {F : Nat} {ps : List Int} {kind : Nat} (hF : h[F]? = some (.lst (ps.map U.int))) (hc : ∀ c ∈ cs, c < n) (hk : kind < n) (le : ps.length ≤ cs.length) (l1 : cs.length ≤ 100) (bd : nextPos ap cs ps kind < 2000) :
    (r_law_least [T, .tup (cs.map natU), .ref F, .int (kind : Nat)] h).is fun v h' => Fr [] h h' ∧ v = .int (nextPos ap cs ps kind) := by
  have b1 : ((ps.length : Nat) : Int) < 4611686018427387904 := by omega
  have b2 : (-4611686018427387904 : Int) ≤ (ps.length : Nat) := by omega
  unfold r_law_least
  rw [run4]
  refine ris_out ?_
  simp [b_law_least]
  refine is_thn ?_
  have n0 : 0 ≤ nextPos ap cs ps kind := maxF_ge.1
  obtain ⟨I, hI⟩ : ∃ I : Nat → Sg → Hb → Prop, ∀ i s h', I i s h' ↔ ∃ x5, s = [some T, some (.tup (cs.map natU)), some (.ref F), some (.int (kind : Nat)), some (.int (i : Nat)), x5, none] ∧ Fr [] h h' ∧ (i : Int) ≤ nextPos ap cs ps kind := ⟨_, fun _ _ _ => Iff.rfl⟩
  obtain ⟨E, hE⟩ : ∃ E : Sg → Hb → Prop, ∀ s h', E s h' ↔ ∃ x5, s = [some T, some (.tup (cs.map natU)), some (.ref F), some (.int (kind : Nat)), some (.int (nextPos ap cs ps kind)), x5, none] ∧ Fr [] h h' := ⟨_, fun _ _ => Iff.rfl⟩
  refine is_mono (D := { nx := E }) ?_ (fun s h' iv => ?_) (fun _ _ q => q.elim) (fun _ _ q => q.elim) (fun _ _ q => q.elim)
  · refine for_inv I (fun _ _ _ _ _ => trivial) (fun i x s h' hx iv => ?_) (fun s h' iv => ?_) ((hI _ _ _).mpr ⟨_, rfl, Fr.refl _ _, n0⟩)
    · obtain ⟨x5, es, ff, le1⟩ := (hI _ _ _).mp iv
      obtain ⟨rfl, hi⟩ := rgU0_inv hx
      subst es
      have hF1 := ff.at0 hF
      let f : Nat → Bool := fun k => decide ((i : Int) - ps.getD k 0 ≥ ap (cs.getD k 0) kind)
      have lc := lc_pure (ok := fun _ => True) (g := nNm 6) (own := [6]) (tt := bYes) (fe := e2 vGe (e2 vSub (eVar 4) (e2 vIx (eVar 2) (eVar 6))) (eC r_law_apart (aCons (eVar 0) (aCons (e2 vIx (eVar 1) (eVar 6)) (aCons (eVar 3) aNil))))) (s := [some T, some (.tup (cs.map natU)), some (.ref F), some (.int (kind : Nat)), some (.int (i : Nat)), some (.int (i : Nat)), none])
        (xs := rgU 0 ps.length) (h := h') (fun _ => true) (fun k => .bl (f k)) (by rw [rgU_length]; omega) (fun _ _ => trivial) (fun j x h'' hx fr => by
          obtain ⟨rfl, hj⟩ := rgU0_inv hx
          refine ⟨_, rfl, by simp, fun _ => ?_⟩
          have i1 := vIx_lst (fr.at0 hF1) (atI_nat (intU_get hj))
          have i2 : vIx (.tup (cs.map natU)) (.int (j : Nat)) h'' = _ := vIx_tup (atI_nat (natU_get (i := j) (by omega)))
          have aa := tb.run2 (cs.getD j 0) kind h'' (getD_lt hc (by omega)) hk
          simp only [f]
          generalize cs.getD j 0 = cj at *
          generalize ps.getD j 0 = pj at *
          simp [wipeG, i1, i2, aa])
      obtain ⟨_, h2, e2, rfl⟩ := ris_ex lc
      rw [rgU_length, range_all] at e2
      have ca := cAll_run (h := h' ++ [.lst ((List.range ps.length).map fun k => .bl (f k))]) (a := h'.length) (l := List.range ps.length) (f := f) (by simp)
      simp [iRg1k_run b1 b2, cLen_lst hF1, lcK, e2, lcE_run, ca]
      cases ht : (List.range ps.length).all f with
      | true =>
        simp
        refine (hE _ _).mpr ⟨some (.int (i : Nat)), ?_, ff.trans (Fr.app _ _)⟩
        have : nextPos ap cs ps kind = i := by
          rcases (maxF_ge (x := 0) (xs := reach ap cs ps kind)).2.2 with z | z
          · have z : nextPos ap cs ps kind = 0 := z
            omega
          · have z : nextPos ap cs ps kind ∈ reach ap cs ps kind := z
            unfold reach at z
            obtain ⟨k, hk1, ek⟩ := List.mem_map.mp z
            have hf := List.all_eq_true.mp ht k hk1
            simp only [f, decide_eq_true_eq] at hf
            omega
        rw [this]
      | false =>
        simp
        refine (hI _ _ _).mpr ⟨some (.int (i : Nat)), by simp, ff.trans (Fr.app _ _), ?_⟩
        obtain ⟨k, hk1, hf⟩ := List.all_eq_false.mp ht
        have z := (maxF_ge (x := 0) (xs := reach ap cs ps kind)).2.1 (ps.getD k 0 + ap (cs.getD k 0) kind) (List.mem_map.mpr ⟨k, hk1, rfl⟩)
        have z : ps.getD k 0 + ap (cs.getD k 0) kind ≤ nextPos ap cs ps kind := z
        simp only [f, decide_eq_true_eq] at hf
        omega
    · obtain ⟨x5, es, ff, le1⟩ := (hI _ _ _).mp iv
      rw [rgU_length] at le1
      omega
  · obtain ⟨x5, es, ff⟩ := (hE _ _).mp iv
    subst es
    simp
    exact ff
theorem atI_last {α : Type} {xs : List α} {x : α} : L2.atI (xs ++ [x]) (-1) = some x := by
  unfold L2.atI
  have : ixN (xs ++ [x]).length (-1) = some xs.length := by unfold ixN; rw [if_neg (by omega), List.length_append, if_pos (by simp; omega)]; simp; omega
  rw [this]; simp
structure Fst (ap : Nat → Nat → Int) (cs : List Nat) (x y : Nat) : Prop where
  lt : y < x
  eq : P_ ap cs x - P_ ap cs y = ap (cs.getD y 0) (cs.getD x 0)
  no : ∀ z, z < y → P_ ap cs x - P_ ap cs z ≠ ap (cs.getD z 0) (cs.getD x 0)
theorem P_zero (ap : Nat → Nat → Int) (cs : List Nat) : P_ ap cs 0 = 0 := by
  rcases P_hit ap cs 0 with h | ⟨j, hj, _⟩
  · exact h
  · omega
theorem has_pred {ap : Nat → Nat → Int} {cs : List Nat} (a1 : ∀ a b, a < cs.length → b < cs.length → 1 ≤ ap (cs.getD a 0) (cs.getD b 0)) {x : Nat} (h0 : 0 < x) (hx : x < cs.length) : ∃ z, z < x ∧ P_ ap cs x - P_ ap cs z = ap (cs.getD z 0) (cs.getD x 0) := by
  have h1 := P_ge ap cs h0
  have h2 := a1 0 x (by omega) hx
  have h3 := P_nonneg ap cs 0
  rcases P_hit ap cs x with h | ⟨j, hj, e⟩
  · omega
  · exact ⟨j, hj, by omega⟩
def lastOf (F : Nat) (h : Hb) : Nat := match h[F]? with
  | some (.lst l) => (match l.getLast? with | some (.int i) => i.toNat | _ => 0)
  | _ => 0
theorem lastOf_eq {F : Nat} {h : Hb} {gs : List Nat} {x : Nat} (e : h[F]? = some (.lst ((gs ++ [x]).map natU))) : lastOf F h = x := by
  unfold lastOf
  simp [e, natU]
structure Dsc (ap : Nat → Nat → Int) (cs : List Nat) (box : Nat) (fs : List Nat) : Prop where
  h0 : fs[0]? = some box
  st : ∀ (i x y : Nat), fs[i]? = some x → fs[i + 1]? = some y → Fst ap cs x y
theorem critical_chain_ok {T : U} {n : Nat} {ap : Nat → Nat → Int} (tb : Tab T n ap) (h : Hb) {cs : List Nat} (hc : ∀ c ∈ cs, c < n) (l1 : cs.length ≤ 100) {box : Nat} (hb : box < cs.length) :
    (r_critical_chain [T, .tup (cs.map natU), .int (box : Nat)] h).is fun v h' => Fr [] h h' ∧ ∃ gs, v = .tup ((gs ++ [0]).reverse.map natU) ∧ Dsc ap cs box (gs ++ [0]) ∧ (∀ x ∈ gs, x < cs.length) ∧ gs.length ≤ box := by
  have a1 : ∀ a b, a < cs.length → b < cs.length → 1 ≤ ap (cs.getD a 0) (cs.getD b 0) := fun a b ha hb => tb.a1 _ _ (getD_lt hc ha) (getD_lt hc hb)
  unfold r_critical_chain
  rw [run3]
  refine ris_out ?_
  obtain ⟨v, h1, e1, f1, rfl⟩ := ris_ex (pack_ok tb (h := h) (u := .tup (cs.map natU)) ⟨.inl rfl⟩ hc l1)
  have hp : ∀ (k : Nat) (h' : Hb), k < cs.length → vIx (.tup ((packL ap cs cs.length).map U.int)) (.int (k : Nat)) h' = .ok (.int (P_ ap cs k)) h' := fun k h' hk => by
    rw [vIx_tup (atI_nat (intU_get (by rw [packL_len]; exact hk))), packL_get ap cs hk]
  have hk : ∀ (k : Nat) (h' : Hb), k < cs.length → vIx (.tup (cs.map natU)) (.int (k : Nat)) h' = .ok (.int ((cs.getD k 0 : Nat) : Int)) h' := fun k h' hk => vIx_tup (atI_nat (natU_get hk))
  generalize (packL ap cs cs.length).map U.int = ps at *
  simp [b_critical_chain, e1]
  generalize hF : h1.length = F
  obtain ⟨I, hI⟩ : ∃ I : Sg → Hb → Prop, ∀ s h', I s h' ↔ ∃ x5 x6 gs x, s = [some T, some (.tup (cs.map natU)), some (.int (box : Nat)), some (.tup ps), some (.ref F), x5, x6] ∧ Fr [] h h' ∧ h'[F]? = some (.lst ((gs ++ [x]).map natU)) ∧ Dsc ap cs box (gs ++ [x]) ∧ (∀ y ∈ gs ++ [x], y < cs.length) ∧ gs.length + x ≤ box := ⟨_, fun _ _ => Iff.rfl⟩
  obtain ⟨E, hE⟩ : ∃ E : Sg → Hb → Prop, ∀ s h', E s h' ↔ ∃ x5 x6 gs, s = [some T, some (.tup (cs.map natU)), some (.int (box : Nat)), some (.tup ps), some (.ref F), x5, x6] ∧ Fr [] h h' ∧ h'[F]? = some (.lst ((gs ++ [0]).map natU)) ∧ Dsc ap cs box (gs ++ [0]) ∧ (∀ y ∈ gs ++ [0], y < cs.length) ∧ gs.length ≤ box := ⟨_, fun _ _ => Iff.rfl⟩
  refine is_thn ?_
  refine is_mono (D := { nx := E }) ?_ (fun s h' iv => ?_) (fun _ _ q => q.elim) (fun _ _ q => q.elim) (fun _ _ q => q.elim)
  · refine while_inv I (fun _ h' => lastOf F h') (fun s h' iv => ?_) ((hI _ _).mpr ⟨none, none, [], box, rfl, f1.trans (Fr.app _ _), by simp [← hF, natU], ⟨rfl, fun i x y e1 e2 => by simp at e2⟩, by simp; exact hb, by simp⟩)
    obtain ⟨x5, x6, gs, x, es, ff, hf, ds, bd, ln⟩ := (hI _ _).mp iv
    subst es
    have v1 : vIx (.ref F) (.int (-1)) h' = .ok (.int (x : Nat)) h' := vIx_lst hf (by rw [List.map_append]; exact atI_last)
    have hx := bd x (by simp)
    refine ⟨decide ((x : Int) > 0), h', by simp [v1], fun z => ?_, fun z => ?_⟩
    · simp at z
      subst z
      exact (hE _ _).mpr ⟨_, _, gs, rfl, ff, hf, ds, bd, by omega⟩
    · simp at z
      have b1 : ((x : Nat) : Int) < 4611686018427387904 := by omega
      have b2 : (-4611686018427387904 : Int) ≤ (x : Nat) := by omega
      simp [v1, iRg1k_run b1 b2]
      obtain ⟨J, hJ⟩ : ∃ J : Nat → Sg → Hb → Prop, ∀ j s h2, J j s h2 ↔ ∃ x6, s = [some T, some (.tup (cs.map natU)), some (.int (box : Nat)), some (.tup ps), some (.ref F), some (.int (x : Nat)), x6] ∧ h2 = h' ∧ ∀ z, z < j → P_ ap cs x - P_ ap cs z ≠ ap (cs.getD z 0) (cs.getD x 0) := ⟨_, fun _ _ _ => Iff.rfl⟩
      obtain ⟨G, hG⟩ : ∃ G : Sg → Hb → Prop, ∀ s h2, G s h2 ↔ I s h2 ∧ lastOf F h2 < lastOf F h' := ⟨_, fun _ _ => Iff.rfl⟩
      simp only [← hG]
      refine for_inv J (fun _ _ _ _ _ => trivial) (fun j y s h2 hy jv => ?_) (fun s h2 jv => ?_) ((hJ _ _ _).mpr ⟨_, rfl, rfl, fun z hz => by omega⟩)
      · obtain ⟨x6, es, rfl, no⟩ := (hJ _ _ _).mp jv
        obtain ⟨rfl, hj⟩ := rgU0_inv hy
        subst es
        have aa := tb.run1 (cs.getD j 0) (cs.getD x 0) h2 (getD_lt hc (by omega)) (getD_lt hc hx)
        have p1 := hp x h2 hx
        have p2 := hp j h2 (by omega)
        have k1 := hk x h2 hx
        have k2 := hk j h2 (by omega)
        have app := mAppend_run (y := .int (j : Nat)) hf (by simp; omega)
        have lF := lt_of_at hf
        have dec : decide (P_ ap cs x - P_ ap cs j = ap (cs.getD j 0) (cs.getD x 0)) = true ∨ decide (P_ ap cs x - P_ ap cs j = ap (cs.getD j 0) (cs.getD x 0)) = false := by cases decide (P_ ap cs x - P_ ap cs j = ap (cs.getD j 0) (cs.getD x 0)) <;> simp
        have yes : decide (P_ ap cs x - P_ ap cs j = ap (cs.getD j 0) (cs.getD x 0)) = true → P_ ap cs x - P_ ap cs j = ap (cs.getD j 0) (cs.getD x 0) := of_decide_eq_true
        have non : decide (P_ ap cs x - P_ ap cs j = ap (cs.getD j 0) (cs.getD x 0)) = false → P_ ap cs x - P_ ap cs j ≠ ap (cs.getD j 0) (cs.getD x 0) := of_decide_eq_false
        generalize hq : ap (cs.getD j 0) (cs.getD x 0) = q at *
        generalize hcj : cs.getD j 0 = cj at *
        generalize hcx : cs.getD x 0 = cx at *
        have la := lastOf_eq hf
        rcases dec with d | d
        · have fst : Fst ap cs x j := ⟨hj, by rw [hcj, hcx, hq]; exact yes d, fun z hz => by rw [hcx]; exact no z hz⟩
          simp [p1, p2, k1, k2, aa, d, eMk_lst hf, app]
          have e3 : (h2.set F (.lst ((gs ++ [x]).map natU ++ [.int (j : Nat)])))[F]? = some (.lst (((gs ++ [x]) ++ [j]).map natU)) := by rw [List.getElem?_set_self lF]; simp [natU]
          simp only [List.map_append, List.map_cons, List.map_nil, List.append_assoc, List.cons_append, List.nil_append] at e3
          refine (hG _ _).mpr ⟨(hI _ _).mpr ⟨_, _, gs ++ [x], j, rfl, ff.setNew (by have := f1.len; omega), by simpa using e3, ⟨?_, fun i a b ea eb => ?_⟩, fun y hy => ?_, by simp; omega⟩, ?_⟩
          · rw [List.getElem?_append_left (by simp)]; exact ds.h0
          · have lb := (List.getElem?_eq_some_iff.mp eb).1
            simp only [List.length_append, List.length_cons, List.length_nil] at lb
            by_cases e : i + 1 < (gs ++ [x]).length
            · rw [List.getElem?_append_left e] at eb
              rw [List.getElem?_append_left (by omega)] at ea
              exact ds.st i a b ea eb
            · simp only [List.length_append, List.length_cons, List.length_nil] at e
              have ei : i = gs.length := by omega
              subst ei
              rw [List.getElem?_append_right (by simp)] at eb
              rw [List.getElem?_append_left (by simp), List.getElem?_append_right (by simp)] at ea
              simp at ea eb
              subst ea eb
              exact fst
          · rcases List.mem_append.mp hy with hy | hy
            · exact bd y hy
            · simp at hy; omega
          · rw [la, lastOf_eq (gs := gs ++ [x]) (x := j) (by simpa using e3)]; exact hj
        · simp [p1, p2, k1, k2, aa, d]
          refine (hJ _ _ _).mpr ⟨_, rfl, rfl, fun z hz => ?_⟩
          by_cases e : z = j
          · subst e; rw [hcj, hq]; exact non d
          · exact no z (by omega)
      · obtain ⟨x6, es, rfl, no⟩ := (hJ _ _ _).mp jv
        rw [rgU_length] at no
        obtain ⟨z, hz, e⟩ := has_pred a1 (by omega) hx
        exact absurd e (no z hz)
  · obtain ⟨x5, x6, gs, es, ff, hf, ds, bd, lg⟩ := (hE _ _).mp iv
    subst es
    have vr : vRev (.ref F) h' = .ok (.ref h'.length) (h' ++ [.lst ((gs ++ [0]).map natU).reverse]) := by unfold vRev; simp [hf]
    have g : (h' ++ [O.lst ((gs ++ [0]).map natU).reverse])[h'.length]? = some (.lst ((gs ++ [0]).map natU).reverse) := by simp
    simp only [sRet_run, eC_run, aCons_run, e1_run, eVar_run, List.getElem?_cons_succ, List.getElem?_cons_zero, eVarK_some, bind_ok, vr, aC1_run, aNil_run, aC2_run, cTup_lst g, thn_ok, is_rt]
    exact ⟨ff.trans (Fr.app _ _), gs, by simp, ds, fun y hy => bd y (by simp [hy]), lg⟩
theorem filter_first {p : Nat → Bool} {x y : Nat} (h : y < x) (py : p y = true) (no : ∀ z, z < y → p z = false) : ((List.range x).filter p)[0]? = some y := by
  have e : List.range x = List.range y ++ (List.range (x - y)).map (y + ·) := by
    have := List.range_add (n := y) (m := x - y)
    rwa [show y + (x - y) = x by omega] at this
  rw [e, List.filter_append]
  have e1 : (List.range y).filter p = [] := by
    rw [List.filter_eq_nil_iff]
    intro z hz
    rw [no z (List.mem_range.mp hz)]
    simp
  obtain ⟨m, hm⟩ : ∃ m, x - y = m + 1 := ⟨x - y - 1, by omega⟩
  rw [e1, hm, List.range_succ_eq_map]
  simp [py]
theorem same_int (n : Nat) (i : Int) (h : Hb) : (r_law_same (n + 1) [.int i, .int i] h).is fun u h' => u = .bl true ∧ Fr [] h h' := law_same_ok (n + 1) _ _ h (by unfold SameD; rfl)
theorem law_is_chain_ok {T : U} {n : Nat} {ap : Nat → Nat → Int} (tb : Tab T n ap) {h : Hb} {cs : List Nat} (hc : ∀ c ∈ cs, c < n) (l1 : cs.length ≤ 100) {box : Nat} (hb : box < cs.length) {F : Nat} (hF : h[F]? = some (.lst ((packL ap cs cs.length).map U.int)))
    {gs : List Nat} (ds : Dsc ap cs box (gs ++ [0])) (bd : ∀ x ∈ gs, x < cs.length) (lg : gs.length ≤ 1000) :
    (r_law_is_chain [T, .tup (cs.map natU), .ref F, .tup ((gs ++ [0]).reverse.map natU), .int (box : Nat)] h).is fun v h' => Fr [] h h' ∧ v = .bl true := by
  have hk : ∀ (k : Nat) (h' : Hb), k < cs.length → vIx (.tup (cs.map natU)) (.int (k : Nat)) h' = .ok (.int ((cs.getD k 0 : Nat) : Int)) h' := fun k h' hk => vIx_tup (atI_nat (natU_get hk))
  have hp : ∀ (k : Nat) (h' : Hb), Fr [] h h' → k < cs.length → vIx (.ref F) (.int (k : Nat)) h' = .ok (.int (P_ ap cs k)) h' := fun k h' fr hk => by
    rw [vIx_lst (fr.at0 hF) (atI_nat (intU_get (by rw [packL_len]; exact hk))), packL_get ap cs hk]
  have hL : ∀ (k y : Nat) (h' : Hb), (gs ++ [0]).reverse[k]? = some y → vIx (.tup ((gs ++ [0]).reverse.map natU)) (.int (k : Nat)) h' = .ok (.int (y : Nat)) h' := fun k y h' e => vIx_tup (atI_nat (by simp only [List.getElem?_map, e, Option.map_some, natU]))
  have h0 : (gs ++ [0]).reverse[0]? = some 0 := by simp
  have hl : vIx (.tup ((gs ++ [0]).reverse.map natU)) (.int (-1)) h = .ok (.int (box : Nat)) h := by
    obtain ⟨r, er⟩ : ∃ r, gs ++ [0] = box :: r := by
      have := ds.h0
      cases q : gs ++ [0] with
      | nil => simp at q
      | cons a r => rw [q] at this; cases this; exact ⟨r, rfl⟩
    rw [er, List.reverse_cons, List.map_append]
    exact vIx_tup atI_last
  have step : ∀ k : Nat, k + 1 < (gs ++ [0]).reverse.length → ∃ x y, (gs ++ [0]).reverse[k]? = some y ∧ (gs ++ [0]).reverse[k + 1]? = some x ∧ Fst ap cs x y ∧ x < cs.length := fun k hk => by
    rw [List.length_reverse] at hk
    have e1 : (gs ++ [0]).reverse[k]? = (gs ++ [0])[(gs ++ [0]).length - 1 - k]? := List.getElem?_reverse (by omega)
    have e2 : (gs ++ [0]).reverse[k + 1]? = (gs ++ [0])[(gs ++ [0]).length - 1 - (k + 1)]? := List.getElem?_reverse hk
    obtain ⟨y, ey⟩ : ∃ y, (gs ++ [0])[(gs ++ [0]).length - 1 - k]? = some y := ⟨_, List.getElem?_eq_getElem (by omega)⟩
    obtain ⟨x, ex⟩ : ∃ x, (gs ++ [0])[(gs ++ [0]).length - 1 - (k + 1)]? = some x := ⟨_, List.getElem?_eq_getElem (by omega)⟩
    have fs := ds.st ((gs ++ [0]).length - 1 - (k + 1)) x y ex (by rw [show (gs ++ [0] : List Nat).length - 1 - (k + 1) + 1 = (gs ++ [0] : List Nat).length - 1 - k by omega]; exact ey)
    refine ⟨x, y, by rw [e1, ey], by rw [e2, ex], fs, ?_⟩
    have lt := fs.lt
    rcases List.mem_append.mp (List.mem_of_getElem? ex) with m | m
    · exact bd x m
    · simp at m; omega
  have len1 : 1 ≤ (gs ++ [0]).reverse.length := by simp
  have len2 : (gs ++ [0]).reverse.length ≤ 1001 := by simp; omega
  have lastL : (gs ++ [0]).reverse[(gs ++ [0]).reverse.length - 1]? = some box := by
    rw [List.getElem?_reverse (by simp), List.length_reverse]
    have := ds.h0
    rwa [show (gs ++ [0] : List Nat).length - 1 - ((gs ++ [0] : List Nat).length - 1) = 0 by omega]
  have ne : (gs ++ [0]).reverse.map natU ≠ [] := by simp
  generalize (gs ++ [0]).reverse = L at *
  have ie : (L.map natU).isEmpty = false := by cases q : L.map natU with | nil => exact absurd q ne | cons _ _ => rfl
  have b1 : ((L.length : Nat) : Int) < 4611686018427387904 := by omega
  have b2 : (-4611686018427387904 : Int) ≤ (L.length : Nat) := by omega
  have v0 := hL 0 0 h h0
  unfold r_law_is_chain
  rw [run5]
  refine ris_out ?_
  simp at v0
  simp [b_law_is_chain, ie, v0, hl, iRg2k_run (show (-4611686018427387904 : Int) ≤ 1 by decide) (show (1 : Int) < 4611686018427387904 by decide) b2 b1]
  refine is_thn ?_
  obtain ⟨I, hI⟩ : ∃ I : Nat → Sg → Hb → Prop, ∀ i s h', I i s h' ↔ ∃ x6 x7 x8 x9 y, s = [some T, some (.tup (cs.map natU)), some (.ref F), some (.tup (L.map natU)), some (.int (box : Nat)), some (.int (P_ ap cs y)), x6, x7, x8, x9, none] ∧ Fr [] h h' ∧ L[i]? = some y := ⟨_, fun _ _ _ => Iff.rfl⟩
  refine for_inv I (fun _ _ _ _ _ => trivial) (fun i x s h' hx iv => ?_) (fun s h' iv => ?_) ((hI _ _ _).mpr ⟨_, _, _, _, 0, by rw [P_zero], Fr.refl _ _, h0⟩)
  · obtain ⟨x6, x7, x8, x9, y, es, ff, hy⟩ := (hI _ _ _).mp iv
    have hi : i < L.length - 1 := by have := (List.getElem?_eq_some_iff.mp hx).1; rwa [rgU_length] at this
    rw [rgU_get hi] at hx
    cases hx
    subst es
    obtain ⟨x, y', ey, ex, fs, lx⟩ := step i (by omega)
    rw [hy] at ey; cases ey
    have ly := fs.lt
    have ly2 : y < cs.length := by omega
    have w1 := hL i y h' hy
    have w2 := hL (i + 1) x h' ex
    rw [show (((i + 1 : Nat)) : Int) = 1 + (i : Int) by omega] at w2
    have bx1 : ((x : Nat) : Int) < 4611686018427387904 := by omega
    have bx2 : (-4611686018427387904 : Int) ≤ (x : Nat) := by omega
    let p : Nat → Bool := fun k => decide (P_ ap cs x - P_ ap cs k = ap (cs.getD k 0) (cs.getD x 0))
    have lc := lc_pure (ok := fun _ => True) (g := nNm 10) (own := [10]) (tt := (asB (e2 vEq (e2 vSub (e2 vIx (eVar 2) (eVar 8)) (e2 vIx (eVar 2) (eVar 10))) (eC r_law_apart (aCons (eVar 0) (aCons (e2 vIx (eVar 1) (eVar 10)) (aCons (e2 vIx (eVar 1) (eVar 8)) aNil))))))) (fe := eVar 10)
      (s := [some T, some (.tup (cs.map natU)), some (.ref F), some (.tup (L.map natU)), some (.int (box : Nat)), some (.int (P_ ap cs y)), some (.int (1 + (i : Int))), some (.int (y : Nat)), some (.int (x : Nat)), x9, none])
      (xs := rgU 0 x) (h := h') p (fun k => .int (k : Nat)) (by rw [rgU_length]; omega) (fun _ _ => trivial) (fun j x' h'' hx fr => by
        obtain ⟨rfl, hj⟩ := rgU0_inv hx
        refine ⟨_, rfl, ?_, fun _ => ?_⟩
        · have p1 := hp x h'' (ff.trans fr) lx
          have p2 := hp j h'' (ff.trans fr) (by omega)
          have k1 := hk x h'' lx
          have k2 := hk j h'' (by omega)
          have aa := tb.run2 (cs.getD j 0) (cs.getD x 0) h'' (getD_lt hc (by omega)) (getD_lt hc lx)
          simp only [p]
          generalize cs.getD j 0 = cj at *
          generalize cs.getD x 0 = cx at *
          simp [wipeG, p1, p2, k1, k2, aa]
        · simp [wipeG])
    obtain ⟨_, h2, e2, rfl⟩ := ris_ex lc
    rw [rgU_length] at e2
    have ff1 := filter_first (p := p) ly (by simp only [p, decide_eq_true_eq]; exact fs.eq) (fun z hz => by simp only [p, decide_eq_false_iff_not]; exact fs.no z hz)
    generalize hD : ((List.range x).filter p).map (fun k => U.int (k : Nat)) = D at *
    have gD : (h' ++ [O.lst D])[h'.length]? = some (.lst D) := by simp
    have vD : vIx (.ref h'.length) (.int 0) (h' ++ [O.lst D]) = .ok (.int (y : Nat)) (h' ++ [O.lst D]) := vIx_lst gD (by
      have := atI_nat (xs := D) (j := 0) (v := .int (y : Nat)) (by rw [← hD, List.getElem?_map, ff1]; rfl)
      exact this)
    obtain ⟨_, h3, e3, rfl, f3⟩ := ris_ex (same_int 7 (y : Nat) (h' ++ [O.lst D]))
    have fr3 : Fr [] h h3 := (ff.trans (Fr.app _ _)).trans f3
    have k1 := hk x h3 lx
    have k2 := hk y h3 ly2
    have aa := tb.run2 (cs.getD y 0) (cs.getD x 0) h3 (getD_lt hc ly2) (getD_lt hc lx)
    have fe := fs.eq
    generalize cs.getD y 0 = cy at *
    generalize cs.getD x 0 = cx at *
    have ez : (1 : Int) + (i : Int) - 1 = (i : Int) := by omega
    simp [ez, w1, w2, iRg1k_run bx1 bx2, lcK, e2, lcE_run, vD, e3, k1, k2, aa]
    rw [show P_ ap cs y + ap cy cx = P_ ap cs x by omega]
    exact (hI _ _ _).mpr ⟨_, _, _, _, x, rfl, fr3, ex⟩
  · obtain ⟨x6, x7, x8, x9, y, es, ff, hy⟩ := (hI _ _ _).mp iv
    subst es
    rw [rgU_length, lastL] at hy
    cases hy
    have p1 := hp box h' ff hb
    simp [p1]
    exact ff
structure TFst (n : Nat) (B : Nat → Nat → Nat → Prop) (a b c : Nat) : Prop where
  la : a < n
  lb : b < n
  lc : c < n
  yes : B a b c
  nc : ∀ c', c' < c → ¬ B a b c'
  nb : ∀ b' c', b' < b → c' < n → ¬ B a b' c'
  na : ∀ a' b' c', a' < a → b' < n → c' < n → ¬ B a' b' c'
theorem TFst.uniq {n : Nat} {B : Nat → Nat → Nat → Prop} {a b c a' b' c' : Nat} (x : TFst n B a b c) (y : TFst n B a' b' c') : a = a' ∧ b = b' ∧ c = c' := by
  have h1 : a = a' := by
    rcases Nat.lt_trichotomy a a' with h | h | h
    · exact absurd x.yes (y.na a b c h x.lb x.lc)
    · exact h
    · exact absurd y.yes (x.na a' b' c' h y.lb y.lc)
  subst h1
  have h2 : b = b' := by
    rcases Nat.lt_trichotomy b b' with h | h | h
    · exact absurd x.yes (y.nb b c h x.lc)
    · exact h
    · exact absurd y.yes (x.nb b' c' h y.lc)
  subst h2
  refine ⟨rfl, rfl, ?_⟩
  rcases Nat.lt_trichotomy c c' with h | h | h
  · exact absurd x.yes (y.nc c h)
  · exact h
  · exact absurd y.yes (x.nc c' h)
structure TriR (n : Nat) (B : Nat → Nat → Nat → Prop) (u : U) : Prop where
  o : (u = .non ∧ ∀ a b c, a < n → b < n → c < n → ¬ B a b c) ∨ ∃ a b c, u = .tup [.int (a : Nat), .int (b : Nat), .int (c : Nat)] ∧ TFst n B a b c
theorem TriR.uniq {n : Nat} {B : Nat → Nat → Nat → Prop} {u v : U} (x : TriR n B u) (y : TriR n B v) : u = v := by
  rcases x.o with ⟨e1, x⟩ | ⟨a, b, c, e1, x⟩ <;> rcases y.o with ⟨e2, y⟩ | ⟨a', b', c', e2, y⟩
  · rw [e1, e2]
  · exact absurd y.yes (x _ _ _ y.la y.lb y.lc)
  · exact absurd x.yes (y _ _ _ x.la x.lb x.lc)
  · obtain ⟨rfl, rfl, rfl⟩ := x.uniq y
    rw [e1, e2]
theorem TriR.tree {n : Nat} {B : Nat → Nat → Nat → Prop} {u : U} (x : TriR n B u) : Lz.Tree 2 u := by
  rcases x.o with ⟨e1, x⟩ | ⟨a, b, c, e1, x⟩
  · subst e1; simp [Lz.Tree]
  · subst e1; simp [Lz.Tree]
def BadT (ap : Nat → Nat → Int) (a b c : Nat) : Prop := ap a c > ap a b + ap b c
theorem tri_loop {A : GC} {T : U} {n : Nat} (hn : n ≤ 5) {ap : Nat → Nat → Int} (ha : ∀ a b (h : Hb), a < n → b < n → A [T, .int (a : Nat), .int (b : Nat)] h = .ok (.int (ap a b)) h) (h : Hb) :
    (forL (fun _ => True) (gN (nNm 2)) (sFor (iRg1 (aCons (eVar 1) aNil)) (gN (nNm 3)) (sFor (iRg1 (aCons (eVar 1) aNil)) (gN (nNm 4))
         (sIf (asB (e2 vGt (eC A (aCons (eVar 0) (aCons (eVar 2) (aCons (eVar 4) aNil)))) (e2 vAdd (eC A (aCons (eVar 0) (aCons (eVar 2) (aCons (eVar 3) aNil)))) (eC A (aCons (eVar 0) (aCons (eVar 3) (aCons (eVar 4) aNil)))))))
           (sRet (eTup (aCons (eVar 2) (aCons (eVar 3) (aCons (eVar 4) aNil)))))
           sNil))) (rgU 0 n) [some T, some (.int (n : Nat)), none, none, none] h).is
      { nx := fun s h' => h' = h ∧ TriR n (BadT ap) .non, rt := fun u h' => h' = h ∧ TriR n (BadT ap) u } := by
  have b1 : ((n : Nat) : Int) < 4611686018427387904 := by omega
  have b2 : (-4611686018427387904 : Int) ≤ (n : Nat) := by omega
  obtain ⟨R, hR⟩ : ∃ R : U → Hb → Prop, ∀ u h', R u h' ↔ h' = h ∧ TriR n (BadT ap) u := ⟨_, fun _ _ => Iff.rfl⟩
  obtain ⟨N, hN⟩ : ∃ N : Sg → Hb → Prop, ∀ s h', N s h' ↔ h' = h ∧ TriR n (BadT ap) .non := ⟨_, fun _ _ => Iff.rfl⟩
  refine is_mono (D := { nx := N, rt := R }) ?_ (fun s h' q => (hN _ _).mp q) (fun u h' q => (hR _ _).mp q) (fun _ _ q => q.elim) (fun _ _ q => q.elim)
  obtain ⟨I, hI⟩ : ∃ I : Nat → Sg → Hb → Prop, ∀ i s h', I i s h' ↔ ∃ x2 x3 x4, s = [some T, some (.int (n : Nat)), x2, x3, x4] ∧ h' = h ∧ ∀ a b c, a < i → b < n → c < n → ¬ BadT ap a b c := ⟨_, fun _ _ _ => Iff.rfl⟩
  refine for_inv I (fun _ _ _ _ _ => trivial) (fun a x s h' hx iv => ?_) (fun s h' iv => ?_) ((hI _ _ _).mpr ⟨_, _, _, rfl, rfl, fun a b c h => by omega⟩)
  · obtain ⟨x2, x3, x4, es, rfl, no⟩ := (hI _ _ _).mp iv
    obtain ⟨rfl, la⟩ := rgU0_inv hx
    subst es
    simp [iRg1k_run b1 b2]
    obtain ⟨J, hJ⟩ : ∃ J : Nat → Sg → Hb → Prop, ∀ i s h2, J i s h2 ↔ ∃ x3 x4, s = [some T, some (.int (n : Nat)), some (.int (a : Nat)), x3, x4] ∧ h2 = h' ∧ ∀ b c, b < i → c < n → ¬ BadT ap a b c := ⟨_, fun _ _ _ => Iff.rfl⟩
    refine for_inv J (fun _ _ _ _ _ => trivial) (fun b x s h2 hx jv => ?_) (fun s h2 jv => ?_) ((hJ _ _ _).mpr ⟨_, _, rfl, rfl, fun b c h => by omega⟩)
    · obtain ⟨x3, x4, es, rfl, nb⟩ := (hJ _ _ _).mp jv
      obtain ⟨rfl, lb⟩ := rgU0_inv hx
      subst es
      simp [iRg1k_run b1 b2]
      obtain ⟨K, hK⟩ : ∃ K : Nat → Sg → Hb → Prop, ∀ i s h3, K i s h3 ↔ ∃ x4, s = [some T, some (.int (n : Nat)), some (.int (a : Nat)), some (.int (b : Nat)), x4] ∧ h3 = h2 ∧ ∀ c, c < i → ¬ BadT ap a b c := ⟨_, fun _ _ _ => Iff.rfl⟩
      refine for_inv K (fun _ _ _ _ _ => trivial) (fun c x s h3 hx kv => ?_) (fun s h3 kv => ?_) ((hK _ _ _).mpr ⟨_, rfl, rfl, fun c h => by omega⟩)
      · obtain ⟨x4, es, rfl, nc⟩ := (hK _ _ _).mp kv
        obtain ⟨rfl, lc⟩ := rgU0_inv hx
        subst es
        by_cases bad : BadT ap a b c
        · have bd : ap a b + ap b c < ap a c := bad
          simp [ha a c h3 la lc, ha a b h3 la lb, ha b c h3 lb lc, bd]
          exact (hR _ _).mpr ⟨rfl, ⟨.inr ⟨a, b, c, rfl, la, lb, lc, bad, nc, nb, no⟩⟩⟩
        · have bd : ¬ ap a b + ap b c < ap a c := bad
          simp [ha a c h3 la lc, ha a b h3 la lb, ha b c h3 lb lc, bd]
          exact (hK _ _ _).mpr ⟨_, rfl, rfl, fun c' h => by
            by_cases e : c' = c
            · subst e; exact bad
            · exact nc c' (by omega)⟩
      · obtain ⟨x4, es, rfl, nc⟩ := (hK _ _ _).mp kv
        rw [rgU_length] at nc
        exact (hJ _ _ _).mpr ⟨_, _, es, rfl, fun b' c' h1 h2 => by
          by_cases e : b' = b
          · subst e; exact nc c' h2
          · exact nb b' c' (by omega) h2⟩
    · obtain ⟨x3, x4, es, rfl, nb⟩ := (hJ _ _ _).mp jv
      rw [rgU_length] at nb
      exact (hI _ _ _).mpr ⟨_, _, _, es, rfl, fun a' b' c' h1 h2 h3 => by
        by_cases e : a' = a
        · subst e; exact nb b' c' h2 h3
        · exact no a' b' c' (by omega) h2 h3⟩
  · obtain ⟨x2, x3, x4, es, rfl, no⟩ := (hI _ _ _).mp iv
    rw [rgU_length] at no
    exact (hN _ _).mpr ⟨rfl, ⟨.inl ⟨rfl, no⟩⟩⟩
theorem triangle_ok {T : U} {n : Nat} {ap : Nat → Nat → Int} (tb : Tab T n ap) (h : Hb) : (r_triangle_violation [T] h).is fun u h' => h' = h ∧ TriR n (BadT ap) u := by
  obtain ⟨rs, ds, eT, lr⟩ := tb.rows
  have n5 := tb.n5
  have b1 : ((n : Nat) : Int) < 4611686018427387904 := by omega
  have b2 : (-4611686018427387904 : Int) ≤ (n : Nat) := by omega
  have v0 : vIx T (.int 0) h = .ok (.tup rs) h := by rw [eT]; simp
  unfold r_triangle_violation
  rw [run1]
  refine ris_out ?_
  simp [b_triangle_violation, v0, lr, iRg1k_run b1 b2]
  refine is_thn (is_mono (tri_loop n5 tb.run1 h) (fun s h' q => ?_) (fun _ _ q => q) (fun _ _ q => q.elim) (fun _ _ q => q.elim))
  simp
  exact q
theorem law_triangle_ok {T : U} {n : Nat} {ap : Nat → Nat → Int} (tb : Tab T n ap) (h : Hb) : (r_law_triangle [T] h).is fun u h' => h' = h ∧ TriR n (BadT ap) u := by
  obtain ⟨rs, ds, eT, lr⟩ := tb.rows
  have n5 := tb.n5
  have b1 : ((n : Nat) : Int) < 4611686018427387904 := by omega
  have b2 : (-4611686018427387904 : Int) ≤ (n : Nat) := by omega
  have v0 : vIx T (.int 0) h = .ok (.tup rs) h := by rw [eT]; simp
  unfold r_law_triangle
  rw [run1]
  refine ris_out ?_
  simp [b_law_triangle, v0, lr, iRg1k_run b1 b2]
  refine is_thn (is_mono (tri_loop n5 tb.run2 h) (fun s h' q => ?_) (fun _ _ q => q) (fun _ _ q => q.elim) (fun _ _ q => q.elim))
  simp
  exact q
theorem same_tree {n : Nat} (h : Hb) {u : U} (t : Lz.Tree n u) : (r_law_same n [u, u] h).is fun v h' => v = .bl true ∧ Fr [] h h' := law_same_ok n u u h (Tree.same n u t)
theorem tree_ints (ps : List Int) (l : ps.length ≤ 10000000) : Lz.Tree 8 (.tup (ps.map U.int)) := by
  simp [Lz.Tree, l]
theorem tree_mono : ∀ (n : Nat) (u : U), Lz.Tree n u → Lz.Tree (n + 1) u
  | 0, u, t => by unfold Lz.Tree at t; exact t.elim
  | n + 1, .tup xs, t => by
    unfold Lz.Tree at t ⊢
    exact ⟨t.1, fun x hx => tree_mono n x (t.2 x hx)⟩
  | n + 1, .ref _, t => by unfold Lz.Tree at t; exact t.elim
  | n + 1, .non, t => by unfold Lz.Tree; trivial
  | n + 1, .bl _, t => by unfold Lz.Tree; trivial
  | n + 1, .int _, t => by unfold Lz.Tree; trivial
  | n + 1, .str _, t => by unfold Lz.Tree; trivial
theorem tree_le {n m : Nat} (h : n ≤ m) {u : U} (t : Lz.Tree n u) : Lz.Tree m u := by
  induction h with
  | refl => exact t
  | step _ ih => exact tree_mono _ _ ih
theorem law_tail {T : U} {n : Nat} {ap : Nat → Nat → Int} (tb : Tab T n ap) {cs : List Nat} (hc : ∀ c ∈ cs, c < n) (l1 : cs.length ≤ 10) {h : Hb} {G : Nat} (hG : h[G]? = some (.lst ((packL ap cs cs.length).map U.int))) {x0 x1 x4 x6 x7 : Option U} :
    ((sSeq
   (sFor (iRg1 (aCons (eC cLen (aCons (eVar 3) aNil)) aNil)) (gN (nNm 8))
     (sIf (bNot (bTru (eC r_law_is_chain (aCons (eVar 2) (aCons (eVar 3) (aCons (eVar 5) (aCons (eC r_critical_chain (aCons (eVar 2) (aCons (eVar 3) (aCons (eVar 8) aNil)))) (aCons (eVar 8) aNil))))))))
       (sRet (eCon (.bl false)))
       sNil))
  (sSeq
   (sFor (iRg1 (aCons (eC cLen (aCons (e2 vIx (eVar 2) (eCon (.int 0))) aNil)) aNil)) (gN (nNm 9))
     (sIf (bNot (bTru (eC (r_law_same 8) (aCons (eC r_apart (aCons (eVar 2) (aCons (eVar 9) (aCons (eCon (.int 0)) aNil)))) (aCons (eC r_law_apart (aCons (eVar 2) (aCons (eVar 9) (aCons (eCon (.int 0)) aNil)))) aNil)))))
       (sRet (eCon (.bl false)))
       sNil))
  (sRet (eC (r_law_same 8) (aCons (eC r_triangle_violation (aCons (eVar 2) aNil)) (aCons (eC r_law_triangle (aCons (eVar 2) aNil)) aNil)))))) [x0, x1, some T, some (.tup (cs.map natU)), x4, some (.ref G), x6, x7, none, none, none] h).is { nx := fun _ _ => False, rt := fun u _ => u = .bl true } := by
  have c1 : ((cs.length : Nat) : Int) < 4611686018427387904 := by omega
  have c2 : (-4611686018427387904 : Int) ≤ (cs.length : Nat) := by omega
  obtain ⟨rs, ds0, eT, lr⟩ := tb.rows
  have n5 := tb.n5
  have n1 := tb.n1
  have d1 : ((n : Nat) : Int) < 4611686018427387904 := by omega
  have d2 : (-4611686018427387904 : Int) ≤ (n : Nat) := by omega
  have v0 : ∀ h', vIx T (.int 0) h' = .ok (.tup rs) h' := fun h' => by rw [eT]; simp
  simp [iRg1k_run c1 c2]
  refine is_thn ?_
  obtain ⟨I, hI⟩ : ∃ I : Nat → Sg → Hb → Prop, ∀ i s h', I i s h' ↔ ∃ x8, s = [x0, x1, some T, some (.tup (cs.map natU)), x4, some (.ref G), x6, x7, x8, none, none] ∧ h'[G]? = some (.lst ((packL ap cs cs.length).map U.int)) := ⟨_, fun _ _ _ => Iff.rfl⟩
  refine for_inv I (fun _ _ _ _ _ => trivial) (fun i x s h' hx iv => ?_) (fun s h' iv => ?_) ((hI _ _ _).mpr ⟨_, rfl, hG⟩)
  · obtain ⟨x8, es, hp⟩ := (hI _ _ _).mp iv
    obtain ⟨rfl, hi⟩ := rgU0_inv hx
    subst es
    obtain ⟨_, h2, e2, f2, gs, rfl, dsc, bd, lg⟩ := ris_ex (critical_chain_ok tb h' hc (by omega) hi)
    obtain ⟨_, h3, e3, f3, rfl⟩ := ris_ex (law_is_chain_ok tb (h := h2) hc (by omega) hi (f2.at0 hp) dsc bd (by omega))
    have hp3 := f3.at0 (f2.at0 hp)
    generalize (gs ++ [0]).reverse.map natU = L at *
    simp [e2, e3]
    exact (hI _ _ _).mpr ⟨_, rfl, hp3⟩
  · obtain ⟨x8, es, hp⟩ := (hI _ _ _).mp iv
    subst es
    simp [v0, lr, iRg1k_run d1 d2]
    refine is_thn ?_
    obtain ⟨J, hJ⟩ : ∃ J : Nat → Sg → Hb → Prop, ∀ i s h', J i s h' ↔ ∃ x9, s = [x0, x1, some T, some (.tup (cs.map natU)), x4, some (.ref G), x6, x7, x8, x9, none] := ⟨_, fun _ _ _ => Iff.rfl⟩
    refine for_inv J (fun _ _ _ _ _ => trivial) (fun i x s h' hx iv => ?_) (fun s h' iv => ?_) ((hJ _ _ _).mpr ⟨_, rfl⟩)
    · obtain ⟨x9, es⟩ := (hJ _ _ _).mp iv
      obtain ⟨rfl, hi⟩ := rgU0_inv hx
      subst es
      have a1 := tb.run1 i 0 h' hi n1
      have a2 := tb.run2 i 0 h' hi n1
      obtain ⟨_, h2, e2, rfl, f2⟩ := ris_ex (same_int 7 (ap i 0) h')
      simp at a1 a2
      simp [a1, a2, e2]
      exact (hJ _ _ _).mpr ⟨_, rfl⟩
    · obtain ⟨x9, es⟩ := (hJ _ _ _).mp iv
      subst es
      obtain ⟨u, h2, e1, eh, t1⟩ := ris_ex (triangle_ok tb h')
      rw [eh] at e1
      obtain ⟨v, h3, e2, eh, t2⟩ := ris_ex (law_triangle_ok tb h')
      rw [eh] at e2
      have := t1.uniq t2
      subst this
      obtain ⟨_, h3, e3, rfl, f3⟩ := ris_ex (same_tree (n := 8) h' (tree_le (by decide) t1.tree))
      simp [e1, e2, e3]
theorem packL_last {ap : Nat → Nat → Int} {cs : List Nat} {k : Nat} (h : 0 < k) : packL ap cs k = packL ap cs (k - 1) ++ [P_ ap cs (k - 1)] := by
  obtain ⟨m, rfl⟩ : ∃ m, k = m + 1 := ⟨k - 1, by omega⟩
  rfl
def RowOk (n : Nat) (row : List (Nat × Int)) : Prop := ∀ x ∈ row, x.1 < n
theorem law_true : ∀ ns : List Int, ns.length ≤ 63 → ∃ h', r_law [.ref 0] [.fro (ns.map U.int)] = .ok (.bl true) h' := by
  intro ns hn
  obtain ⟨cells, _, e0, pa⟩ := law_pool_ok hn
  have p0 : Pool _ 2 1 := ⟨⟨_, _, _, _, pa⟩⟩
  generalize hH : ([.fro (ns.map U.int), .lst (cells.map U.int), .lst [.ref 1, .int 0, .int 0, .int 17]] : Hb) = h0 at *
  clear pa hH
  obtain ⟨T, h1, e1, p1, f1, n, ap, tb⟩ := ris_ex (law_table_ok p0)
  obtain ⟨u, h2, e2, p2, f2, cs, rfl, lcs, hc⟩ := ris_ex (law_classes_ok p1 tb 11 (by decide) (by decide))
  obtain ⟨u, h3, e3, p3, f3, cs2, rfl, lcs2, hc2⟩ := ris_ex (law_classes_ok p2 tb 9 (by decide) (by decide))
  have l1 : cs.length ≤ 10 := by omega
  have l2 : cs2.length ≤ 8 := by omega
  obtain ⟨rs, ds0, eT, lr⟩ := tb.rows
  have n5 := tb.n5
  have n1 := tb.n1
  have lP := p3.lp
  have lC := p3.lc
  have lc := lc_run (ok := fun _ => True) (g := nNm 10) (own := [10]) (tt := bYes) (fe := eTup (aCons (eVar 10) (aCons (eC (r_law_take 3) (aCons (eVar 1) (aCons (eCon (.int 30)) aNil))) aNil))) (s := [some (.ref 0), some (.ref 2), some T, some (.tup (cs.map natU)), none, none, none, none, none, none, none])
    (xs := cs2.map natU) (h := h3) (W := [2]) (fun i acc h' => Pool h' 2 1 ∧ ∃ row : List (Nat × Int), acc = row.map pairU ∧ row.length = i ∧ RowOk n row) (by simp; exact lP) (by rw [List.length_map]; omega) (fun _ _ _ _ _ _ => trivial) ⟨p3.fr0 (Fr.app _ _), [], by simp, rfl, fun x hx => by simp at hx⟩ (fun i x acc h' hx fr dl ⟨pp, row, q1, q2, q3⟩ => by
      have hi : i < cs2.length := by have := (List.getElem?_eq_some_iff.mp hx).1; rwa [List.length_map] at this
      rw [natU_get hi] at hx
      cases hx
      refine ⟨_, rfl, ?_⟩
      simp only [bYes_run, ris_ok]
      refine ⟨Fr.refl _ _, by simp, fun _ => ?_⟩
      obtain ⟨d, h4, e4, d0, d1, p4, f4, l4⟩ := take_ok pp 30 (by decide) (by decide) 1
      have hl := lt_of_at dl
      have hcl := getD_lt hc2 hi
      generalize cs2.getD i 0 = ci at *
      simp [wipeG, e4]
      refine ⟨f4, p4.fr (Fr.set (W := [h3.length]) (.inl (by simp))) (by simp; omega) (by simp; omega), row ++ [(ci, d)], by simp [q1, pairU], by simp [q2], fun x hx => ?_⟩
      rcases List.mem_append.mp hx with hx | hx
      · exact q3 x hx
      · simp at hx; subst hx; exact hcl)
  obtain ⟨_, h4, e4, f4, acc, da, _, p4, row, rfl, q2, q3⟩ := ris_ex lc
  rw [List.length_map] at q2
  have rl : row.length ≤ 100 := by omega
  have rc : ∀ i, i < row.length → (at_ row i).1 < n := fun i hi => by
    simp only [at_, List.getElem?_eq_getElem hi, Option.getD_some]
    exact q3 _ (List.getElem_mem hi)
  obtain ⟨_, h5, e5, f5, rfl⟩ := ris_ex (violations_ok tb rl rc h4)
  obtain ⟨_, h6, e6, f6, F, rfl, hF⟩ := ris_ex (law_close_ok tb rl rc h5)
  have t6 : Lz.Tree 8 (.tup (closeAll (condOf ap row) row.length row.length)) := tree_le (n := 3) (by decide) (by
    unfold Lz.Tree
    refine ⟨?_, closeAll_tree _ _ _⟩
    have h1 := closeAll_len (condOf ap row) row.length row.length
    have h3 : row.length * row.length ≤ 100 * 100 := Nat.mul_le_mul rl rl
    omega)
  obtain ⟨_, h7, e7, rfl, f7⟩ := ris_ex (same_tree h6 t6)
  have cp : ∀ k, k < cs.length → P_ ap cs k < 2000 := fun k hk => by
    have := P_bound (ap := ap) (cs := cs) (fun a b ha hb => tb.a2 _ _ (getD_lt hc ha) (getD_lt hc hb)) k hk
    omega
  have big : (r_law [.ref 0] [.fro (ns.map U.int)]).is fun u _ => u = .bl true := by
    unfold r_law
    rw [run1]
    refine ris_out ?_
    have c1 : ((cs.length : Nat) : Int) < 4611686018427387904 := by omega
    have c2 : (-4611686018427387904 : Int) ≤ (cs.length : Nat) := by omega
    simp [b_law, e0, e1, e2, e3, lcK, e4, lcE_run, cTup_lst da, e5, e6, cTup_lst hF, e7, iRg1k_run c1 c2]
    refine is_thn ?_
    obtain ⟨I, hI⟩ : ∃ I : Nat → Sg → Hb → Prop, ∀ i s h', I i s h' ↔ ∃ x6, s = [some (.ref 0), some (.ref 2), some T, some (.tup (cs.map natU)), some (.tup (row.map pairU)), some (.ref h7.length), x6, none, none, none, none] ∧ h'[h7.length]? = some (.lst ((packL ap cs i).map U.int)) := ⟨_, fun _ _ _ => Iff.rfl⟩
    refine for_inv I (fun _ _ _ _ _ => trivial) (fun i x s h' hx iv => ?_) (fun s h8 iv => ?_) ((hI _ _ _).mpr ⟨_, rfl, by simp [packL]⟩)
    · obtain ⟨x6, es, hp⟩ := (hI _ _ _).mp iv
      obtain ⟨rfl, hi⟩ := rgU0_inv hx
      subst es
      have hcl := getD_lt hc hi
      have v1 : vIx (.tup (cs.map natU)) (.int (i : Nat)) h' = _ := vIx_tup (atI_nat (natU_get hi))
      have ep : packL ap cs (i + 1) = packL ap cs i ++ [nextPos ap cs (packL ap cs i) (cs.getD i 0)] := rfl
      obtain ⟨_, h9, e9, f9, rfl⟩ := ris_ex (law_least_ok tb (h := h') (kind := cs.getD i 0) hp hc hcl (by rw [packL_len]; omega) (by omega) (cp i hi))
      have hp9 := f9.at0 hp
      have app := mAppend_run (y := .int (nextPos ap cs (packL ap cs i) (cs.getD i 0))) hp9 (by rw [List.length_map, packL_len]; omega)
      have l9 := lt_of_at hp9
      generalize cs.getD i 0 = kk at *
      simp [v1, eMk_lst hp, e9, app]
      exact (hI _ _ _).mpr ⟨_, rfl, by rw [List.getElem?_set_self l9, ep]; simp⟩
    · obtain ⟨x6, es, hp⟩ := (hI _ _ _).mp iv
      subst es
      rw [rgU_length] at hp
      generalize h7.length = G at *
      have sq : SeqAt (h8 ++ [.lst (cs.map natU)]) (.ref h8.length) (cs.map natU) := ⟨.inr ⟨_, rfl, by simp⟩⟩
      obtain ⟨_, h9, e9, f9, rfl⟩ := ris_ex (pack_ok tb sq hc (by omega))
      have hp9 := ((Fr.app (W := []) h8 _).trans f9).at0 hp
      have t9 := tree_ints (packL ap cs cs.length) (by rw [packL_len]; omega)
      obtain ⟨_, h10, e10, rfl, f10⟩ := ris_ex (same_tree h9 t9)
      have hp10 := f10.at0 hp9
      obtain ⟨_, h11, e11, f11, rfl⟩ := ris_ex (pack_ok tb (h := h10) (u := .tup (cs.reverse.map natU)) ⟨.inl rfl⟩ (fun c hcc => hc c (by simpa using hcc)) (by rw [List.length_reverse]; omega))
      have hp11 := f11.at0 hp10
      have vr : ∀ h', vRev (.tup (cs.map natU)) h' = .ok (.tup (cs.map natU).reverse) h' := fun h' => rfl
      rw [List.length_reverse, List.map_reverse] at e11
      have tl := fun y6 y7 => law_tail tb hc l1 (h := h11) (G := G) hp11 (x0 := some (.ref 0)) (x1 := some (.ref 2)) (x4 := some (.tup (row.map pairU))) (x6 := y6) (x7 := y7)
      by_cases hcs : cs.length = 0
      · have hcs : cs = [] := List.length_eq_zero_iff.mp hcs
        subst hcs
        have vr0 : ∀ h', vRev (.tup []) h' = .ok (.tup []) h' := fun _ => rfl
        simp only [List.map_nil, List.length_nil, List.reverse_nil, packL] at e9 hp9 e10 e11 tl
        simp only [sSeq_run, sIf_run, bNot_run, bTru_run, eC_run, aCons_run, eVar_run, List.getElem?_cons_succ, List.getElem?_cons_zero, eVarK_some, bind_ok, aC1_run, aNil_run, aC2_run, cLst_tup, List.map_nil, e9, cTup_lst hp9, e10, truK_bl, bNotk_run, Bool.not_true, thn_ok, brS_f, sNil_run, sthn_nx, sSet_run, e1_run, vr0, List.reverse_nil, e11, sSetk_run, List.set_cons_succ, List.set_cons_zero, bAnd_run, truK_tup, List.isEmpty_nil, bAndk_f] at tl ⊢
        exact tl _ _
      · have hne : 0 < cs.length := by omega
        have pr := P_rev (ap := ap) (cs := cs) (fun a b ha hb => tb.sy _ _ (getD_lt hc ha) (getD_lt hc hb)) (fun a b ha hb => by have := tb.a1 _ _ (getD_lt hc ha) (getD_lt hc hb); omega) hne
        have v1 : vIx (.tup ((packL ap cs.reverse cs.length).map U.int)) (.int (-1)) h11 = .ok (.int (P_ ap cs (cs.length - 1))) h11 := by
          rw [packL_last hne, pr, List.map_append]; exact vIx_tup atI_last
        have v2 : vIx (.ref G) (.int (-1)) h11 = .ok (.int (P_ ap cs (cs.length - 1))) h11 := vIx_lst hp11 (by
          rw [packL_last hne, List.map_append]; exact atI_last)
        have ie : (cs.map natU).isEmpty = false := by cases cs with | nil => simp at hne | cons _ _ => rfl
        simp only [sSeq_run, sIf_run, bNot_run, bTru_run, eC_run, aCons_run, eVar_run, List.getElem?_cons_succ, List.getElem?_cons_zero, eVarK_some, bind_ok, aC1_run, aNil_run, aC2_run, cLst_tup, e9, cTup_lst hp9, e10, truK_bl, bNotk_run, Bool.not_true, thn_ok, brS_f, sNil_run, sthn_nx, sSet_run, e1_run, vr, e11, sSetk_run, List.set_cons_succ, List.set_cons_zero, bAnd_run, truK_tup, ie, Bool.not_false, bAndk_t, asB_run, e2_run, eCon_run, vNeg_int, e2k_run, v1, v2, vNe_int, decide_true, asBk_run] at tl ⊢
        exact tl _ _
  obtain ⟨u, h', e, rfl⟩ := ris_ex big
  exact ⟨h', e⟩
open PySem.W in
theorem all_mk {w : World} {K : PySem.W.Frag} {h : Heap} {mg : Str → Option Value} {fa : Addr} (X : K.In h) (G : h.Ns mainGlobals mg) (hfa : mg "law" = some (.ref fa))
    {f0 f1 f2 f3 f4 f5 f6 f7 f8 f9 f10 f11 f12 f13 f14 f15 f16 : Addr} {od0 an0 od1 an1 od2 an2 od3 an3 od4 an4 od5 an5 od6 an6 od7 an7 od8 an8 od9 an9 od10 an10 od11 an11 od12 an12 od13 an13 od14 an14 od15 an15 od16 an16 : Option Addr} {sl0 sl1 sl2 sl3 sl4 sl5 sl6 sl7 sl8 sl9 sl10 sl11 sl12 sl13 sl14 sl15 sl16 : Array (Option Value)}
    {oc0 kV0 dc0 pm0 cd0 ct0 oc1 kV1 dc1 pm1 cd1 ct1 oc2 kV2 dc2 pm2 cd2 ct2 oc3 kV3 dc3 pm3 cd3 ct3 oc4 kV4 dc4 pm4 cd4 ct4 oc5 kV5 dc5 pm5 cd5 ct5 oc6 kV6 dc6 pm6 cd6 ct6 oc7 kV7 dc7 pm7 cd7 ct7 oc8 kV8 dc8 pm8 cd8 ct8 oc9 kV9 dc9 pm9 cd9 ct9 oc10 kV10 dc10 pm10 cd10 ct10 oc11 kV11 dc11 pm11 cd11 ct11 oc12 kV12 dc12 pm12 cd12 ct12 oc13 kV13 dc13 pm13 cd13 ct13 oc14 kV14 dc14 pm14 cd14 ct14 oc15 kV15 dc15 pm15 cd15 ct15 oc16 kV16 dc16 pm16 cd16 ct16 : Value}
    (a0 : PySem.W.nsIn K mainGlobals "apart" = some (some (.ref f0)))
    (l0 : K.lookup f0 = some ⟨oc0, od0, .func (PySem.W.fnOf "apart" "apart" (defArgs s_apart) (defBody s_apart) (defScope s_apart) .none kV0 dc0 pm0 an0 cd0 ct0), sl0⟩) (c0 : PySem.W.codeIn K cd0 "apart" = true) (k0 : PySem.W.keepIn K (.ref f0) = true)
    (a1 : PySem.W.nsIn K mainGlobals "violations" = some (some (.ref f1)))
    (l1 : K.lookup f1 = some ⟨oc1, od1, .func (PySem.W.fnOf "violations" "violations" (defArgs s_violations) (defBody s_violations) (defScope s_violations) .none kV1 dc1 pm1 an1 cd1 ct1), sl1⟩) (c1 : PySem.W.codeIn K cd1 "violations" = true) (k1 : PySem.W.keepIn K (.ref f1) = true)
    (a2 : PySem.W.nsIn K mainGlobals "next_position" = some (some (.ref f2)))
    (l2 : K.lookup f2 = some ⟨oc2, od2, .func (PySem.W.fnOf "next_position" "next_position" (defArgs s_next_position) (defBody s_next_position) (defScope s_next_position) .none kV2 dc2 pm2 an2 cd2 ct2), sl2⟩) (c2 : PySem.W.codeIn K cd2 "next_position" = true) (k2 : PySem.W.keepIn K (.ref f2) = true)
    (a3 : PySem.W.nsIn K mainGlobals "pack" = some (some (.ref f3)))
    (l3 : K.lookup f3 = some ⟨oc3, od3, .func (PySem.W.fnOf "pack" "pack" (defArgs s_pack) (defBody s_pack) (defScope s_pack) .none kV3 dc3 pm3 an3 cd3 ct3), sl3⟩) (c3 : PySem.W.codeIn K cd3 "pack" = true) (k3 : PySem.W.keepIn K (.ref f3) = true)
    (a4 : PySem.W.nsIn K mainGlobals "critical_chain" = some (some (.ref f4)))
    (l4 : K.lookup f4 = some ⟨oc4, od4, .func (PySem.W.fnOf "critical_chain" "critical_chain" (defArgs s_critical_chain) (defBody s_critical_chain) (defScope s_critical_chain) .none kV4 dc4 pm4 an4 cd4 ct4), sl4⟩) (c4 : PySem.W.codeIn K cd4 "critical_chain" = true) (k4 : PySem.W.keepIn K (.ref f4) = true)
    (a5 : PySem.W.nsIn K mainGlobals "triangle_violation" = some (some (.ref f5)))
    (l5 : K.lookup f5 = some ⟨oc5, od5, .func (PySem.W.fnOf "triangle_violation" "triangle_violation" (defArgs s_triangle_violation) (defBody s_triangle_violation) (defScope s_triangle_violation) .none kV5 dc5 pm5 an5 cd5 ct5), sl5⟩) (c5 : PySem.W.codeIn K cd5 "triangle_violation" = true) (k5 : PySem.W.keepIn K (.ref f5) = true)
    (a6 : PySem.W.nsIn K mainGlobals "_law_pool" = some (some (.ref f6)))
    (l6 : K.lookup f6 = some ⟨oc6, od6, .func (PySem.W.fnOf "_law_pool" "_law_pool" (defArgs s_law_pool) (defBody s_law_pool) (defScope s_law_pool) .none kV6 dc6 pm6 an6 cd6 ct6), sl6⟩) (c6 : PySem.W.codeIn K cd6 "_law_pool" = true) (k6 : PySem.W.keepIn K (.ref f6) = true)
    (a7 : PySem.W.nsIn K mainGlobals "_law_take" = some (some (.ref f7)))
    (l7 : K.lookup f7 = some ⟨oc7, od7, .func (PySem.W.fnOf "_law_take" "_law_take" (defArgs s_law_take) (defBody s_law_take) (defScope s_law_take) .none kV7 dc7 pm7 an7 cd7 ct7), sl7⟩) (c7 : PySem.W.codeIn K cd7 "_law_take" = true) (k7 : PySem.W.keepIn K (.ref f7) = true)
    (a8 : PySem.W.nsIn K mainGlobals "_law_same" = some (some (.ref f8)))
    (l8 : K.lookup f8 = some ⟨oc8, od8, .func (PySem.W.fnOf "_law_same" "_law_same" (defArgs s_law_same) (defBody s_law_same) (defScope s_law_same) .none kV8 dc8 pm8 an8 cd8 ct8), sl8⟩) (c8 : PySem.W.codeIn K cd8 "_law_same" = true) (k8 : PySem.W.keepIn K (.ref f8) = true)
    (a9 : PySem.W.nsIn K mainGlobals "_law_table" = some (some (.ref f9)))
    (l9 : K.lookup f9 = some ⟨oc9, od9, .func (PySem.W.fnOf "_law_table" "_law_table" (defArgs s_law_table) (defBody s_law_table) (defScope s_law_table) .none kV9 dc9 pm9 an9 cd9 ct9), sl9⟩) (c9 : PySem.W.codeIn K cd9 "_law_table" = true) (k9 : PySem.W.keepIn K (.ref f9) = true)
    (a10 : PySem.W.nsIn K mainGlobals "_law_classes" = some (some (.ref f10)))
    (l10 : K.lookup f10 = some ⟨oc10, od10, .func (PySem.W.fnOf "_law_classes" "_law_classes" (defArgs s_law_classes) (defBody s_law_classes) (defScope s_law_classes) .none kV10 dc10 pm10 an10 cd10 ct10), sl10⟩) (c10 : PySem.W.codeIn K cd10 "_law_classes" = true) (k10 : PySem.W.keepIn K (.ref f10) = true)
    (a11 : PySem.W.nsIn K mainGlobals "_law_apart" = some (some (.ref f11)))
    (l11 : K.lookup f11 = some ⟨oc11, od11, .func (PySem.W.fnOf "_law_apart" "_law_apart" (defArgs s_law_apart) (defBody s_law_apart) (defScope s_law_apart) .none kV11 dc11 pm11 an11 cd11 ct11), sl11⟩) (c11 : PySem.W.codeIn K cd11 "_law_apart" = true) (k11 : PySem.W.keepIn K (.ref f11) = true)
    (a12 : PySem.W.nsIn K mainGlobals "_law_close" = some (some (.ref f12)))
    (l12 : K.lookup f12 = some ⟨oc12, od12, .func (PySem.W.fnOf "_law_close" "_law_close" (defArgs s_law_close) (defBody s_law_close) (defScope s_law_close) .none kV12 dc12 pm12 an12 cd12 ct12), sl12⟩) (c12 : PySem.W.codeIn K cd12 "_law_close" = true) (k12 : PySem.W.keepIn K (.ref f12) = true)
    (a13 : PySem.W.nsIn K mainGlobals "_law_least" = some (some (.ref f13)))
    (l13 : K.lookup f13 = some ⟨oc13, od13, .func (PySem.W.fnOf "_law_least" "_law_least" (defArgs s_law_least) (defBody s_law_least) (defScope s_law_least) .none kV13 dc13 pm13 an13 cd13 ct13), sl13⟩) (c13 : PySem.W.codeIn K cd13 "_law_least" = true) (k13 : PySem.W.keepIn K (.ref f13) = true)
    (a14 : PySem.W.nsIn K mainGlobals "_law_is_chain" = some (some (.ref f14)))
    (l14 : K.lookup f14 = some ⟨oc14, od14, .func (PySem.W.fnOf "_law_is_chain" "_law_is_chain" (defArgs s_law_is_chain) (defBody s_law_is_chain) (defScope s_law_is_chain) .none kV14 dc14 pm14 an14 cd14 ct14), sl14⟩) (c14 : PySem.W.codeIn K cd14 "_law_is_chain" = true) (k14 : PySem.W.keepIn K (.ref f14) = true)
    (a15 : PySem.W.nsIn K mainGlobals "_law_triangle" = some (some (.ref f15)))
    (l15 : K.lookup f15 = some ⟨oc15, od15, .func (PySem.W.fnOf "_law_triangle" "_law_triangle" (defArgs s_law_triangle) (defBody s_law_triangle) (defScope s_law_triangle) .none kV15 dc15 pm15 an15 cd15 ct15), sl15⟩) (c15 : PySem.W.codeIn K cd15 "_law_triangle" = true) (k15 : PySem.W.keepIn K (.ref f15) = true)
    (a16 : PySem.W.nsIn K mainGlobals "law" = some (some (.ref f16)))
    (l16 : K.lookup f16 = some ⟨oc16, od16, .func (PySem.W.fnOf "law" "law" (defArgs s_law) (defBody s_law) (defScope s_law) .none kV16 dc16 pm16 an16 cd16 ct16), sl16⟩) (c16 : PySem.W.codeIn K cd16 "law" = true) (k16 : PySem.W.keepIn K (.ref f16) = true)
    (z_abs : PySem.W.nsIn K mainGlobals "abs" = some none)
    (z_all : PySem.W.nsIn K mainGlobals "all" = some none)
    (z_bool : PySem.W.nsIn K mainGlobals "bool" = some none)
    (z_int : PySem.W.nsIn K mainGlobals "int" = some none)
    (z_isinstance : PySem.W.nsIn K mainGlobals "isinstance" = some none)
    (z_len : PySem.W.nsIn K mainGlobals "len" = some none)
    (z_list : PySem.W.nsIn K mainGlobals "list" = some none)
    (z_max : PySem.W.nsIn K mainGlobals "max" = some none)
    (z_range : PySem.W.nsIn K mainGlobals "range" = some none)
    (z_str : PySem.W.nsIn K mainGlobals "str" = some none)
    (z_tuple : PySem.W.nsIn K mainGlobals "tuple" = some none)
    : ∃ fd : FuncData, (∀ (s : Shared) (v : Value), BindsTo s fd ⟨[v], []⟩ [("_law_script", v)]) ∧ ∀ base : Heap, K.In base → base.Ns mainGlobals mg → FnOk PySem.Challenge.pw_quaybest_k33_rows_and_packings w K mg base (L2.CX PySem.Challenge.pw_quaybest_k33_rows_and_packings w) 60 fa fd ["_law_script"] (spOf (Wd.mk K fun _ => 0) 1 r_law) := by
  have e := hfa.symm.trans (PySem.W.mg_of X G a16)
  cases e
  have m_abs := PySem.W.mg_none_of X G z_abs
  have m_all := PySem.W.mg_none_of X G z_all
  have m_bool := PySem.W.mg_none_of X G z_bool
  have m_int := PySem.W.mg_none_of X G z_int
  have m_isinstance := PySem.W.mg_none_of X G z_isinstance
  have m_len := PySem.W.mg_none_of X G z_len
  have m_list := PySem.W.mg_none_of X G z_list
  have m_max := PySem.W.mg_none_of X G z_max
  have m_range := PySem.W.mg_none_of X G z_range
  have m_str := PySem.W.mg_none_of X G z_str
  have m_tuple := PySem.W.mg_none_of X G z_tuple
  have F0 := fun_mk (st := s_apart) l0 c0 k0
  have b0 := F0.binds (ps := ["table", "first", "second"]) fun _ _ _ _ _ _ us hl => match us, hl with | [_, _, _], _ => rfl
  have m0 := PySem.W.mg_of X G a0
  have F1 := fun_mk (st := s_violations) l1 c1 k1
  have b1 := F1.binds (ps := ["table", "row"]) fun _ _ _ _ _ _ us hl => match us, hl with | [_, _], _ => rfl
  have m1 := PySem.W.mg_of X G a1
  have F2 := fun_mk (st := s_next_position) l2 c2 k2
  have b2 := F2.binds (ps := ["table", "classes", "positions", "kind"]) fun _ _ _ _ _ _ us hl => match us, hl with | [_, _, _, _], _ => rfl
  have m2 := PySem.W.mg_of X G a2
  have F3 := fun_mk (st := s_pack) l3 c3 k3
  have b3 := F3.binds (ps := ["table", "classes"]) fun _ _ _ _ _ _ us hl => match us, hl with | [_, _], _ => rfl
  have m3 := PySem.W.mg_of X G a3
  have F4 := fun_mk (st := s_critical_chain) l4 c4 k4
  have b4 := F4.binds (ps := ["table", "classes", "box"]) fun _ _ _ _ _ _ us hl => match us, hl with | [_, _, _], _ => rfl
  have m4 := PySem.W.mg_of X G a4
  have F5 := fun_mk (st := s_triangle_violation) l5 c5 k5
  have b5 := F5.binds (ps := ["table"]) fun _ _ _ _ _ _ us hl => match us, hl with | [_], _ => rfl
  have m5 := PySem.W.mg_of X G a5
  have F6 := fun_mk (st := s_law_pool) l6 c6 k6
  have b6 := F6.binds (ps := ["_law_script"]) fun _ _ _ _ _ _ us hl => match us, hl with | [_], _ => rfl
  have m6 := PySem.W.mg_of X G a6
  have F7 := fun_mk (st := s_law_take) l7 c7 k7
  have b7 := F7.binds (ps := ["_law_pool_here", "_law_many"]) fun _ _ _ _ _ _ us hl => match us, hl with | [_, _], _ => rfl
  have m7 := PySem.W.mg_of X G a7
  have F8 := fun_mk (st := s_law_same) l8 c8 k8
  have b8 := F8.binds (ps := ["_law_actual", "_law_due"]) fun _ _ _ _ _ _ us hl => match us, hl with | [_, _], _ => rfl
  have m8 := PySem.W.mg_of X G a8
  have F9 := fun_mk (st := s_law_table) l9 c9 k9
  have b9 := F9.binds (ps := ["_law_pool_here"]) fun _ _ _ _ _ _ us hl => match us, hl with | [_], _ => rfl
  have m9 := PySem.W.mg_of X G a9
  have F10 := fun_mk (st := s_law_classes) l10 c10 k10
  have b10 := F10.binds (ps := ["_law_pool_here", "_law_table_here", "_law_least_here", "_law_many"]) fun _ _ _ _ _ _ us hl => match us, hl with | [_, _, _, _], _ => rfl
  have m10 := PySem.W.mg_of X G a10
  have F11 := fun_mk (st := s_law_apart) l11 c11 k11
  have b11 := F11.binds (ps := ["_law_table_here", "_law_a", "_law_b"]) fun _ _ _ _ _ _ us hl => match us, hl with | [_, _, _], _ => rfl
  have m11 := PySem.W.mg_of X G a11
  have F12 := fun_mk (st := s_law_close) l12 c12 k12
  have b12 := F12.binds (ps := ["_law_table_here", "_law_row"]) fun _ _ _ _ _ _ us hl => match us, hl with | [_, _], _ => rfl
  have m12 := PySem.W.mg_of X G a12
  have F13 := fun_mk (st := s_law_least) l13 c13 k13
  have b13 := F13.binds (ps := ["_law_table_here", "_law_classes_here", "_law_positions", "_law_kind"]) fun _ _ _ _ _ _ us hl => match us, hl with | [_, _, _, _], _ => rfl
  have m13 := PySem.W.mg_of X G a13
  have F14 := fun_mk (st := s_law_is_chain) l14 c14 k14
  have b14 := F14.binds (ps := ["_law_table_here", "_law_classes_here", "_law_positions", "_law_chain", "_law_box"]) fun _ _ _ _ _ _ us hl => match us, hl with | [_, _, _, _, _], _ => rfl
  have m14 := PySem.W.mg_of X G a14
  have F15 := fun_mk (st := s_law_triangle) l15 c15 k15
  have b15 := F15.binds (ps := ["_law_table_here"]) fun _ _ _ _ _ _ us hl => match us, hl with | [_], _ => rfl
  have m15 := PySem.W.mg_of X G a15
  have F16 := fun_mk (st := s_law) l16 c16 k16
  have b16 := F16.binds (ps := ["_law_script"]) fun _ _ _ _ _ _ us hl => match us, hl with | [_], _ => rfl
  have m16 := PySem.W.mg_of X G a16
  refine ⟨PySem.W.fnOf "law" "law" (defArgs s_law) (defBody s_law) (defScope s_law) .none kV16 dc16 pm16 an16 cd16 ct16, fun s v => .of_eq rfl, fun base _ _ => ?_⟩
  have g_apart : GOk (Wd.mk K fun _ => 0) PySem.Challenge.pw_quaybest_k33_rows_and_packings w mg base 1 "apart" (.fn r_apart 3 []) := g_fn (c := c_apart) m0 b0 F0 sc_apart rfl (gl_cons (g_bt m_max) gl_nil) e_apart
  have g_violations : GOk (Wd.mk K fun _ => 0) PySem.Challenge.pw_quaybest_k33_rows_and_packings w mg base 2 "violations" (.fn r_violations 2 []) := g_fn (c := c_violations) m1 b1 F1 sc_violations rfl (gl_cons (g_apart.mono (by decide)) (gl_cons (g_bt m_abs) (gl_cons (g_bt m_len) (gl_cons (g_bt m_range) (gl_cons (g_bt m_tuple) gl_nil))))) e_violations
  have g_next_position : GOk (Wd.mk K fun _ => 0) PySem.Challenge.pw_quaybest_k33_rows_and_packings w mg base 2 "next_position" (.fn r_next_position 4 []) := g_fn (c := c_next_position) m2 b2 F2 sc_next_position rfl (gl_cons (g_apart.mono (by decide)) (gl_cons (g_bt m_len) (gl_cons (g_bt m_max) (gl_cons (g_bt m_range) gl_nil)))) e_next_position
  have g_pack : GOk (Wd.mk K fun _ => 0) PySem.Challenge.pw_quaybest_k33_rows_and_packings w mg base 3 "pack" (.fn r_pack 2 []) := g_fn (c := c_pack) m3 b3 F3 sc_pack rfl (gl_cons (g_next_position.mono (by decide)) (gl_cons (g_bt m_tuple) gl_nil)) e_pack
  have g_critical_chain : GOk (Wd.mk K fun _ => 0) PySem.Challenge.pw_quaybest_k33_rows_and_packings w mg base 4 "critical_chain" (.fn r_critical_chain 3 []) := g_fn (c := c_critical_chain) m4 b4 F4 sc_critical_chain rfl (gl_cons (g_apart.mono (by decide)) (gl_cons (g_pack.mono (by decide)) (gl_cons (g_bt m_range) (gl_cons (g_bt m_tuple) gl_nil)))) e_critical_chain
  have g_triangle_violation : GOk (Wd.mk K fun _ => 0) PySem.Challenge.pw_quaybest_k33_rows_and_packings w mg base 2 "triangle_violation" (.fn r_triangle_violation 1 []) := g_fn (c := c_triangle_violation) m5 b5 F5 sc_triangle_violation rfl (gl_cons (g_apart.mono (by decide)) (gl_cons (g_bt m_len) (gl_cons (g_bt m_range) gl_nil))) e_triangle_violation
  have g_law_pool : GOk (Wd.mk K fun _ => 0) PySem.Challenge.pw_quaybest_k33_rows_and_packings w mg base 1 "_law_pool" (.fn r_law_pool 1 []) := g_fn (c := c_law_pool) m6 b6 F6 sc_law_pool rfl gl_nil e_law_pool
  have g_law_take : ∀ n : Nat, GOk (Wd.mk K fun _ => 0) PySem.Challenge.pw_quaybest_k33_rows_and_packings w mg base (0 + n) "_law_take" (.fn (r_law_take n) 2 []) := fun n => by
    induction n with
    | zero => exact (g_none (W := (Wd.mk K fun _ => 0)) (P := PySem.Challenge.pw_quaybest_k33_rows_and_packings) (w := w) (base := base) m7 k7 b7).mono (Nat.zero_le _)
    | succ n ih => exact g_fn (c := c_law_take (r_law_take n)) m7 b7 F7 sc_law_take rfl (gl_cons ih (gl_cons (g_bt m_int) (gl_cons (g_bt m_len) gl_nil))) (e_law_take (r_law_take n))
  have g_law_same : ∀ n : Nat, GOk (Wd.mk K fun _ => 0) PySem.Challenge.pw_quaybest_k33_rows_and_packings w mg base (0 + n) "_law_same" (.fn (r_law_same n) 2 []) := fun n => by
    induction n with
    | zero => exact (g_none (W := (Wd.mk K fun _ => 0)) (P := PySem.Challenge.pw_quaybest_k33_rows_and_packings) (w := w) (base := base) m8 k8 b8).mono (Nat.zero_le _)
    | succ n ih => exact g_fn (c := c_law_same (r_law_same n)) m8 b8 F8 sc_law_same rfl (gl_cons ih (gl_cons (g_bt m_all) (gl_cons (g_bt m_bool) (gl_cons (g_bt m_int) (gl_cons (g_bt m_isinstance) (gl_cons (g_bt m_len) (gl_cons (g_bt m_list) (gl_cons (g_bt m_range) (gl_cons (g_bt m_str) (gl_cons (g_bt m_tuple) gl_nil)))))))))) (e_law_same (r_law_same n))
  have g_law_table : GOk (Wd.mk K fun _ => 0) PySem.Challenge.pw_quaybest_k33_rows_and_packings w mg base 4 "_law_table" (.fn r_law_table 1 []) := g_fn (c := c_law_table) m9 b9 F9 sc_law_table rfl (gl_cons ((g_law_take 3).mono (by decide)) (gl_cons (g_bt m_range) (gl_cons (g_bt m_tuple) gl_nil))) e_law_table
  have g_law_classes : GOk (Wd.mk K fun _ => 0) PySem.Challenge.pw_quaybest_k33_rows_and_packings w mg base 4 "_law_classes" (.fn r_law_classes 4 []) := g_fn (c := c_law_classes) m10 b10 F10 sc_law_classes rfl (gl_cons ((g_law_take 3).mono (by decide)) (gl_cons (g_bt m_len) (gl_cons (g_bt m_range) (gl_cons (g_bt m_tuple) gl_nil)))) e_law_classes
  have g_law_apart : GOk (Wd.mk K fun _ => 0) PySem.Challenge.pw_quaybest_k33_rows_and_packings w mg base 1 "_law_apart" (.fn r_law_apart 3 []) := g_fn (c := c_law_apart) m11 b11 F11 sc_law_apart rfl (gl_cons (g_bt m_max) gl_nil) e_law_apart
  have g_law_close : GOk (Wd.mk K fun _ => 0) PySem.Challenge.pw_quaybest_k33_rows_and_packings w mg base 2 "_law_close" (.fn r_law_close 2 []) := g_fn (c := c_law_close) m12 b12 F12 sc_law_close rfl (gl_cons (g_law_apart.mono (by decide)) (gl_cons (g_bt m_abs) (gl_cons (g_bt m_len) (gl_cons (g_bt m_range) gl_nil)))) e_law_close
  have g_law_least : GOk (Wd.mk K fun _ => 0) PySem.Challenge.pw_quaybest_k33_rows_and_packings w mg base 2 "_law_least" (.fn r_law_least 4 []) := g_fn (c := c_law_least) m13 b13 F13 sc_law_least rfl (gl_cons (g_law_apart.mono (by decide)) (gl_cons (g_bt m_all) (gl_cons (g_bt m_len) (gl_cons (g_bt m_range) gl_nil)))) e_law_least
  have g_law_is_chain : GOk (Wd.mk K fun _ => 0) PySem.Challenge.pw_quaybest_k33_rows_and_packings w mg base 9 "_law_is_chain" (.fn r_law_is_chain 5 []) := g_fn (c := c_law_is_chain) m14 b14 F14 sc_law_is_chain rfl (gl_cons (g_law_apart.mono (by decide)) (gl_cons ((g_law_same 8).mono (by decide)) (gl_cons (g_bt m_isinstance) (gl_cons (g_bt m_len) (gl_cons (g_bt m_range) (gl_cons (g_bt m_tuple) gl_nil)))))) e_law_is_chain
  have g_law_triangle : GOk (Wd.mk K fun _ => 0) PySem.Challenge.pw_quaybest_k33_rows_and_packings w mg base 2 "_law_triangle" (.fn r_law_triangle 1 []) := g_fn (c := c_law_triangle) m15 b15 F15 sc_law_triangle rfl (gl_cons (g_law_apart.mono (by decide)) (gl_cons (g_bt m_len) (gl_cons (g_bt m_range) gl_nil))) e_law_triangle
  have g_law : FnOk PySem.Challenge.pw_quaybest_k33_rows_and_packings w K mg base (L2.CX PySem.Challenge.pw_quaybest_k33_rows_and_packings w) 10 _ _ _ (spOf (Wd.mk K fun _ => 0) 1 r_law) := fn_sim (W := (Wd.mk K fun _ => 0)) (ps := ["_law_script"]) F16 sc_law rfl (gl_cons (g_law_apart.mono (by decide)) (gl_cons (g_law_classes.mono (by decide)) (gl_cons (g_law_close.mono (by decide)) (gl_cons (g_law_is_chain.mono (by decide)) (gl_cons (g_law_least.mono (by decide)) (gl_cons (g_law_pool.mono (by decide)) (gl_cons ((g_law_same 8).mono (by decide)) (gl_cons (g_law_table.mono (by decide)) (gl_cons ((g_law_take 3).mono (by decide)) (gl_cons (g_law_triangle.mono (by decide)) (gl_cons (g_apart.mono (by decide)) (gl_cons (g_critical_chain.mono (by decide)) (gl_cons (g_pack.mono (by decide)) (gl_cons (g_triangle_violation.mono (by decide)) (gl_cons (g_violations.mono (by decide)) (gl_cons (g_bt m_len) (gl_cons (g_bt m_list) (gl_cons (g_bt m_range) (gl_cons (g_bt m_tuple) gl_nil))))))))))))))))))) e_law
  exact g_law.mono (by decide)
theorem walk {q : Program} {loose : List Str} {XP : (Str → Option Value) → Heap → Prop} {YP : World → Heap → Prop} {d : DefRec} {K : Params → PySem.W.Frag} (hdf : d.params.defaults = []) (hY : ∀ (w : World) (h : Heap), YP w h → (K w.params).In h)
    (F : ∀ (w : World) (mg : Str → Option Value) (fa : Addr) (h : Heap), (K w.params).In h → h.Ns mainGlobals mg → mg d.name = some (.ref fa) →
      ∃ fd : FuncData, (∀ (s : Shared) (u : Value), BindsTo s fd ⟨[u], []⟩ [("_law_script", u)]) ∧ ∀ base : Heap, (K w.params).In base → base.Ns mainGlobals mg → FnOk PySem.Challenge.pw_quaybest_k33_rows_and_packings w (K w.params) mg base (L2.CX PySem.Challenge.pw_quaybest_k33_rows_and_packings w) 60 fa fd ["_law_script"] (spOf (Wd.mk (K w.params) fun _ => 0) 1 r_law)) :
    PySem.W.WalkO q loose XP YP PySem.Challenge.rw_quaybest_k33_rows_and_packings.row.toRowW d [] (fun f vs => PySem.call f vs) :=
  L2.walk_of (l := PySem.Challenge.rw_quaybest_k33_rows_and_packings) (n := 63) (k := 60) (x := "_law_script") (CX := fun w => L2.CX PySem.Challenge.pw_quaybest_k33_rows_and_packings w) (sp := fun w => spOf (Wd.mk (K w.params) fun _ => 0) 1 r_law) rfl (by decide) hdf room0 hY F
    (fun w H a ns hl hO hS => let ⟨_, e⟩ := law_true ns hl; sp_law (W := Wd.mk (K w.params) fun _ => 0) hO hS e) fun w H s e s' z => by obtain ⟨_, _, _, _, _, _, _, _, _, _, _, _, q⟩ := z; exact q
end My
open PySem PySem.W PyProof.Rows in
set_option maxRecDepth 100000 in
set_option maxHeartbeats 0 in
theorem PySem.Challenge.cw_quaybest_k33_rows_and_packings_holds : PySem.Challenge.rw_quaybest_k33_rows_and_packings.Holds := by
  w_on; o_law; k_head; (case hw => w_witness2)
  k_fill
  refine My.walk rfl (fun w h Y => PySem.W.kIn_of Y) ?F
  case F =>
    intro w mg fa h KX G hmg
    refine' My.all_mk KX G hmg ?a0 ?l0 ?c0 ?k0 ?a1 ?l1 ?c1 ?k1 ?a2 ?l2 ?c2 ?k2 ?a3 ?l3 ?c3 ?k3 ?a4 ?l4 ?c4 ?k4 ?a5 ?l5 ?c5 ?k5 ?a6 ?l6 ?c6 ?k6 ?a7 ?l7 ?c7 ?k7 ?a8 ?l8 ?c8 ?k8 ?a9 ?l9 ?c9 ?k9 ?a10 ?l10 ?c10 ?k10 ?a11 ?l11 ?c11 ?k11 ?a12 ?l12 ?c12 ?k12 ?a13 ?l13 ?c13 ?k13 ?a14 ?l14 ?c14 ?k14 ?a15 ?l15 ?c15 ?k15 ?a16 ?l16 ?c16 ?k16 ?z_abs ?z_all ?z_bool ?z_int ?z_isinstance ?z_len ?z_list ?z_max ?z_range ?z_str ?z_tuple
    (case a0 => k_is)
    (case l0 => k_is)
    (case c0 => k_is)
    (case k0 => k_is)
    (case a1 => k_is)
    (case l1 => k_is)
    (case c1 => k_is)
    (case k1 => k_is)
    (case a2 => k_is)
    (case l2 => k_is)
    (case c2 => k_is)
    (case k2 => k_is)
    (case a3 => k_is)
    (case l3 => k_is)
    (case c3 => k_is)
    (case k3 => k_is)
    (case a4 => k_is)
    (case l4 => k_is)
    (case c4 => k_is)
    (case k4 => k_is)
    (case a5 => k_is)
    (case l5 => k_is)
    (case c5 => k_is)
    (case k5 => k_is)
    (case a6 => k_is)
    (case l6 => k_is)
    (case c6 => k_is)
    (case k6 => k_is)
    (case a7 => k_is)
    (case l7 => k_is)
    (case c7 => k_is)
    (case k7 => k_is)
    (case a8 => k_is)
    (case l8 => k_is)
    (case c8 => k_is)
    (case k8 => k_is)
    (case a9 => k_is)
    (case l9 => k_is)
    (case c9 => k_is)
    (case k9 => k_is)
    (case a10 => k_is)
    (case l10 => k_is)
    (case c10 => k_is)
    (case k10 => k_is)
    (case a11 => k_is)
    (case l11 => k_is)
    (case c11 => k_is)
    (case k11 => k_is)
    (case a12 => k_is)
    (case l12 => k_is)
    (case c12 => k_is)
    (case k12 => k_is)
    (case a13 => k_is)
    (case l13 => k_is)
    (case c13 => k_is)
    (case k13 => k_is)
    (case a14 => k_is)
    (case l14 => k_is)
    (case c14 => k_is)
    (case k14 => k_is)
    (case a15 => k_is)
    (case l15 => k_is)
    (case c15 => k_is)
    (case k15 => k_is)
    (case a16 => k_is)
    (case l16 => k_is)
    (case c16 => k_is)
    (case k16 => k_is)
    (case z_abs => k_is)
    (case z_all => k_is)
    (case z_bool => k_is)
    (case z_int => k_is)
    (case z_isinstance => k_is)
    (case z_len => k_is)
    (case z_list => k_is)
    (case z_max => k_is)
    (case z_range => k_is)
    (case z_str => k_is)
    (case z_tuple => k_is)
