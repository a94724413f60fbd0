import PyProof.Rows.All
import HandS.CallSlots
import HandS.Conv
import HandS.Defaults
import HandS.ExcField
import HandS.ExcInit
import HandS.ExcOwn
import HandS.Flow
import HandS.ForExc
import HandS.ForMost
import HandS.IsInst
import HandS.Iter
import HandS.List
import HandS.More
import HandS.Small
import HandS.SortInts
import HandS.SortRule
import HandS.Star
import HandS.Style
import HandS.TryMany
import HandS.TupAny
import HandS.TupLe
import HandS.Wide
import HandS.WordsExc
import HandS.Zip
import HandS.Zip0
import KE.DataMinMax
import KE.GoesMore
import KE.GoesZip
import KE.KExcSuper
import KE.KRevSl
import KE.KTryMore
import KE.KTupSum
import KE.SortData
import OpenK.AllK
import PyProof.EnumIter
import PyProof.EnumMake
import PyProof.MaxThree
import Wide.All
import Wide.FinOn
import PySem.Challenge.RW_quaybest_k11_earliest_starts
set_option Elab.async false
set_option linter.all false
set_option maxRecDepth 100000
set_option maxHeartbeats 4000000
/-! enumerate of a tuple -/
namespace EnT
open PySem
section
variable {p : Program} {wd : World} {Ar : Around} {Er : Value → Shared → Prop} {st : Shared}
/-- one turn: the pair of the number and the item is new -/
theorem next_item {en ti tp : Addr} {n : Nat} {its : Array Value} {u o0 : Value} {R : Value → Shared → Prop} (c1 : IsEnum st.heap en ti n o0) (c2 : st.heap.IsTupleIter ti tp n) (c3 : st.heap.IsTuple tp its) (c4 : its[n]? = some u) (c5 : en ≠ ti)
    (r : ∀ k, IsEnumOut k en ti ((n : Int) + 1) u st.heap.objs.size → k.IsTupleIter ti tp (n + 1) → k.get? st.heap.objs.size = some { cls := .type "tuple", data := .seq #[.int n st.toks, u] } → k.objs.size = st.heap.objs.size + 1 →
      (∀ b o, b ≠ en → b ≠ ti → st.heap.get? b = some o → k.get? b = some o) → R (.ref st.heap.objs.size) { st with heap := k, toks := st.toks + 1 }) :
    wpAny (model p wd) Ar (Builtin.«enumerate.__next__» ⟨[.ref en], []⟩) (fun fi s2 => ∃ v, fi = .done (.ret v) ∧ R v s2) Er st := by
  obtain ⟨hp, gs, dr, tk, oo⟩ := st
  show wpAny _ _ (field (.ref en) 2 >>= _) _ _ _
  refine wpAny_bind (wpAny_field c1 rfl (x := .ref ti) rfl (wpAny_bind (RZ.nextOf_tuple_item c2 c3 c4 fun k1 t1 b1 => ?_)))
  have b1 : Heap.SameBut ti hp k1 := b1
  have m1 : IsEnum k1 en ti n o0 := (b1.2 en c5).trans c1
  show wpAny _ _ (field (.ref en) 3 >>= _) _ _ ⟨k1, gs, dr, tk, oo⟩
  refine wpAny_bind (wpAny_field m1 rfl (x := rawInt n) rfl ?_)
  show wpAny _ _ (field (.ref en) 4 >>= _) _ _ ⟨k1, gs, dr, tk, oo⟩
  refine wpAny_bind (wpAny_field m1 rfl (x := .none) rfl ?_)
  show wpAny _ _ (mkInt n >>= _) _ _ ⟨k1, gs, dr, tk, oo⟩
  refine wpAny_bind (wpAny_mkInt ?_)
  show wpAny _ _ (setField (.ref en) 3 (rawInt ((n : Int) + 1)) >>= _) _ _ ⟨k1, gs, dr, tk + 1, oo⟩
  refine wpAny_bind (wpAny_setField_rec m1 (by simp) fun k2 m2 b2 => ?_)
  have b2 : Heap.SameBut en k1 k2 := b2
  have m2 : IsEnum k2 en ti ((n : Int) + 1) o0 := m2
  show wpAny _ _ (setField (.ref en) 4 .none >>= _) _ _ ⟨k2, gs, dr, tk + 1, oo⟩
  refine wpAny_bind (wpAny_setField_rec m2 (by simp) fun k3 m3 b3 => ?_)
  have b3 : Heap.SameBut en k2 k3 := b3
  have m3 : IsEnum k3 en ti ((n : Int) + 1) o0 := m3
  show wpAny _ _ (newTuple [.int n tk, u] >>= _) _ _ ⟨k3, gs, dr, tk + 1, oo⟩
  refine wpAny_bind (wpAny_newTuple ?_)
  have m4 : IsEnum (k3.push { cls := .type "tuple", data := .seq #[.int n tk, u] }) en ti ((n : Int) + 1) o0 := Heap.get?_push_of_some _ m3
  generalize e4 : k3.push { cls := .type "tuple", data := .seq #[.int n tk, u] } = k4 at m4
  have z3 : k3.objs.size = hp.objs.size := by rw [b3.1, b2.1, b1.1]
  have l0 : en < hp.objs.size := Heap.lt_size c1
  have g4 : k4.get? hp.objs.size = some { cls := .type "tuple", data := .seq #[.int n tk, u] } := by rw [← e4, ← z3]; exact Heap.get?_push_size _ rfl
  have z4 : k4.objs.size = hp.objs.size + 1 := by rw [← e4, Heap.size_push, z3]
  have s4 : ∀ b o, b ≠ en → b ≠ ti → hp.get? b = some o → k4.get? b = some o := fun b o x y q => by
    rw [← e4]; exact Heap.get?_push_of_some _ (b3.extBut b o x (b2.extBut b o x (b1.extBut b o y q)))
  have t4 : k4.IsTupleIter ti tp (n + 1) := by
    rw [← e4]
    obtain ⟨o, q, z⟩ := (t1.extBut b2.extBut (Ne.symm c5)).extBut b3.extBut (Ne.symm c5)
    exact ⟨o, Heap.get?_push_of_some _ q, z⟩
  show wpAny _ _ (Builtin.SmallTypes.ownedTupleIsFree (.ref en) >>= _) _ _ ⟨k4, gs, dr, tk + 1, oo⟩
  rw [z3]
  refine wpAny_bind ?_
  unfold Builtin.SmallTypes.ownedTupleIsFree
  refine wpAny_bind (wpAny_field m4 rfl (x := .none) rfl (wpAny_pure ?_))
  simp only [if_true]
  refine wpAny_bind (wpAny_rule (wpAny_bind (wpAny_field m4 rfl (x := o0) rfl ?_)))
  refine wpAny_bind (wpAny_setField_rec m4 (by simp) fun k5 m5 b5 => ?_)
  have b5 : Heap.SameBut en k4 k5 := b5
  have m5 : IsEnum k5 en ti ((n : Int) + 1) u := m5
  show wpAny _ _ (Builtin.SmallTypes.ownedTupleHandOut (.ref en) (.ref hp.objs.size) >>= _) _ _ ⟨k5, gs, dr, tk + 1, oo⟩
  refine wpAny_bind ?_
  unfold Builtin.SmallTypes.ownedTupleHandOut
  refine wpAny_bind (wpAny_setField_rec m5 (by simp) fun k6 m6 b6 => ?_)
  have b6 : Heap.SameBut en k5 k6 := b6
  have m6 : IsEnumOut k6 en ti ((n : Int) + 1) u hp.objs.size := m6
  refine wpAny_setField_rec m6 (by simp) fun k7 m7 b7 => ?_
  have b7 : Heap.SameBut en k6 k7 := b7
  have m7 : IsEnumOut k7 en ti ((n : Int) + 1) u hp.objs.size := m7
  refine wpAny_bind (wpAny_letGo (wpAny_pure ⟨_, rfl, r k7 m7 ?_ ?_ ?_ ?_⟩))
  · exact ((t4.extBut b5.extBut (Ne.symm c5)).extBut b6.extBut (Ne.symm c5)).extBut b7.extBut (Ne.symm c5)
  · exact b7.extBut _ _ (Nat.ne_of_gt l0) (b6.extBut _ _ (Nat.ne_of_gt l0) (b5.extBut _ _ (Nat.ne_of_gt l0) g4))
  · rw [b7.1, b6.1, b5.1, z4]
  · exact fun b o x y q => b7.extBut b o x (b6.extBut b o x (b5.extBut b o x (s4 b o x y q)))
theorem py_item {en ti tp : Addr} {n : Nat} {its : Array Value} {u o0 : Value} {R : Option Value → Shared → Prop} (c1 : IsEnum st.heap en ti n o0) (c2 : st.heap.IsTupleIter ti tp n) (c3 : st.heap.IsTuple tp its) (c4 : its[n]? = some u) (c5 : en ≠ ti)
    (r : ∀ k, IsEnumOut k en ti ((n : Int) + 1) u st.heap.objs.size → k.IsTupleIter ti tp (n + 1) → k.get? st.heap.objs.size = some { cls := .type "tuple", data := .seq #[.int n st.toks, u] } → k.objs.size = st.heap.objs.size + 1 →
      (∀ b o, b ≠ en → b ≠ ti → st.heap.get? b = some o → k.get? b = some o) → R (some (.ref st.heap.objs.size)) { st with heap := k, toks := st.toks + 1 }) :
    wpAny (model p wd) Ar (pyNext (.ref en)) R Er st := by
  have ty : st.TypeIs (.ref en) "enumerate" := ⟨_, c1, rfl⟩
  unfold pyNext
  exact wpAny_bind (wpAny_attempt (wpAny_callSpecial?_slot (name := Str.ofString "__next__") ty F.slot_enumerate_next (wpAny_call_entry F.slot_enumerate_next ty F.entry_enumerate_next
    (next_item c1 c2 c3 c4 c5 fun k q1 q2 q3 q4 q5 => wpAny_pure (r k q1 q2 q3 q4 q5)) (F.args_enumerate_next_1 _))))
theorem py_end {en ti tp : Addr} {n : Nat} {its : Array Value} {o0 : Value} {R : Option Value → Shared → Prop} (c0 : Ar.handled = none) (c1 : IsEnum st.heap en ti n o0) (c2 : st.heap.IsTupleIter ti tp n) (c3 : st.heap.IsTuple tp its) (c4 : its[n]? = none)
    (r : ∀ k, Heap.ExtBut ti st.heap k → R none { st with heap := k }) : wpAny (model p wd) Ar (pyNext (.ref en)) R Er st := by
  have ty : st.TypeIs (.ref en) "enumerate" := ⟨_, c1, rfl⟩
  unfold pyNext
  refine wpAny_bind (wpAny_attempt (wpAny_callSpecial?_slot (name := Str.ofString "__next__") ty F.slot_enumerate_next (wpAny_call_entry F.slot_enumerate_next ty F.entry_enumerate_next ?_ (F.args_enumerate_next_1 _))))
  show wpAny _ _ (field (.ref en) 2 >>= _) _ _ _
  refine wpAny_bind (wpAny_field c1 rfl (x := .ref ti) rfl (wpAny_bind (RZ.nextOf_tuple_end c0 c2 c3 c4 fun k x q y => ?_)))
  obtain ⟨o, y1, y2⟩ := y
  exact wpAny_bind (wpAny_isInstance (T := "StopIteration") (b := true) ⟨o, y1, y2⟩ isSubtype_stop (wpAny_pure (r _ q)))
end
theorem meets_new (tp : Addr) (its : Array Value) : Meets (Builtin.«enumerate.__new__» ⟨[.type "enumerate", .ref tp], []⟩) (fun _ R s => s.heap.IsTuple tp its ∧
    R (.ok (.ret (.ref (s.heap.push { cls := .type "tuple_iterator", data := .fields #[.ref tp, .int 0 0] }).objs.size)))
      { s with heap := (s.heap.push { cls := .type "tuple_iterator", data := .fields #[.ref tp, .int 0 0] }).push { cls := .type "enumerate", data := .fields #[.none, .bool false, .ref s.heap.objs.size, rawInt 0, .none, .none] } }) :=
  .of_wp fun p wd Ar R s h => by
    obtain ⟨hp, gs, dr, tk, oo⟩ := s
    obtain ⟨tl, h⟩ := h
    have sb := sub_enumerate
    have tl : Heap.IsTuple (Shared.heap ⟨hp, gs, dr, tk, oo⟩) tp its := tl
    wp_walk using wpAny_pyIter_tuple tl
    refine wpAny_stack_any fun stk => wpAny_pure ?_
    split
    · rename_i c _ _ _ _ _
      cases (c == Value.type "enumerate")
      · wp_walk using wpAny_pyIter_tuple tl
        exact ⟨_, rfl, h⟩
      · wp_walk using wpAny_pyIter_tuple tl
        exact ⟨_, rfl, h⟩
    · wp_walk using wpAny_pyIter_tuple tl
      exact ⟨_, rfl, h⟩
section
variable {p : Program} {wd : World} {Ar : Around} {Er : Value → Shared → Prop} {st : Shared}
theorem call_en {tp : Addr} {its : Array Value} {R : Value → Shared → Prop} (tl : st.heap.IsTuple tp its)
    (r : ∀ k, IsEnum k (st.heap.objs.size + 1) st.heap.objs.size 0 .none → k.IsTupleIter st.heap.objs.size tp 0 → k.objs.size = st.heap.objs.size + 2 → (∀ b o, st.heap.get? b = some o → k.get? b = some o) → R (.ref (st.heap.objs.size + 1)) { st with heap := k }) :
    wpAny (model p wd) Ar (call (.type "enumerate") [.ref tp]) R Er st := by
  refine callType_new F.called_enumerate (by decide) (F.typeCall_enumerate_1 _) (F.newCall_enumerate_1 _) (fun ob => F.args_object_init_2 ob _) F.entry_enumerate_new (meets_new tp its) ⟨tl, ?_⟩
  have z1 : (st.heap.push { cls := .type "tuple_iterator", data := .fields #[.ref tp, .int 0 0] }).objs.size = st.heap.objs.size + 1 := Heap.size_push ..
  have g1 := Heap.get?_push_size (st.heap.push { cls := .type "tuple_iterator", data := .fields #[.ref tp, .int 0 0] }) (o := { cls := .type "enumerate", data := .fields #[.none, .bool false, .ref st.heap.objs.size, rawInt 0, .none, .none] }) rfl
  show _ ∧ _
  rw [z1] at g1 ⊢
  exact ⟨⟨_, g1, rfl⟩, r _ g1 ⟨_, Heap.get?_push_of_some _ (Heap.get?_push_size _ rfl), rfl, rfl⟩ (by rw [Heap.size_push, z1]) fun b o x => Heap.get?_push_of_some _ (Heap.get?_push_of_some _ x)⟩
end
section
open PySem.Spec PyProof.Rows L2
/-- the tuple at a at each turn -/
def ItE (K : PySem.W.Frag) (a : Addr) : It :=
  ⟨fun n H => ∃ (xs : List V) (x : V), SqT K H a xs ∧ xs[n]? = some x, fun n H v H' => ∃ T x, v = .ref T ∧ H T = none ∧ H' = upd H T (.tup [.int (n : Nat), x]) ∧ ∀ xs, SqT K H a xs → xs[n]? = some x, fun n H => ∃ xs : List V, SqT K H a xs ∧ xs.length ≤ n⟩
theorem turn_enT {P : Program} {w : World} {K : PySem.W.Frag} {elts : List Expr} {kk : Nat} {tpos : Pos} (a e it : Addr) :
    Turn P w K (.Tuple elts kk tpos) (ItE K a) [e, it] e (fun n h => (∃ o0, IsEnum h e it ((n : Nat) : Int) o0) ∧ h.IsTupleIter it a n ∧ e ≠ it) where
  mem := by simp
  obj := fun n h q b hb => by
    obtain ⟨⟨o0, q1⟩, ⟨o, q2, _, q3⟩, _⟩ := q
    rcases (show b = e ∨ b = it by simpa using hb) with z | z
    · rw [z]; exact ⟨_, q1, fun v x => nomatch x⟩
    · rw [z]; exact ⟨o, q2, fun v x => by rw [q3] at x; cases x⟩
  keep := fun n h h' q k => by
    obtain ⟨⟨o0, q1⟩, q2, q3⟩ := q
    exact ⟨⟨o0, k e (by simp) _ q1⟩, q2.at fun o x => k it (by simp) o x, q3⟩
  item := by
    intro X eP ew eK hc n pins s σ H E I hf q hg
    subst eP ew eK
    obtain ⟨⟨o0, q1⟩, q2, q3⟩ := q
    obtain ⟨xs, x, hq, hx⟩ := hg
    obtain ⟨its, rv, p, _⟩ := I.tuple hq
    obtain ⟨u, hu, ru⟩ := rv.get hx
    have l1 : e < s.heap.objs.size := Heap.lt_size q1
    have l2 : it < s.heap.objs.size := by obtain ⟨_, z, _⟩ := q2; exact Heap.lt_size z
    refine py_item q1 q2 p (u := u) (by simpa using hu) q3 fun h1 o1 t1 g1 z1 k1 => ⟨_, rfl, wpAny_letOwnedTupleGo_enum (s := { s with heap := h1, toks := s.toks + 1 }) o1 fun h2 e2 b2 => ?_⟩
    have g2 : h2.get? s.heap.objs.size = some { cls := .type "tuple", data := .seq #[.int n s.toks, u] } := (b2.2 _ (Nat.ne_of_gt l1)).trans g1
    have nw : ObjOk X.prog X.w (upd H s.heap.objs.size (.tup [.int (n : Nat), x])) h2 s.heap.objs.size (.tup [.int (n : Nat), x]) :=
      ⟨by show 2 ≤ sizeLine; decide, [.int n s.toks, u], .cons ⟨_, rfl⟩ (.cons ru .nil), ⟨_, g2, rfl, _, rfl⟩⟩
    have I2 : Inv X pins σ (upd H s.heap.objs.size (.tup [.int (n : Nat), x])) { s with heap := h2, toks := s.toks + 1 } :=
      I.turnedNew (ch := [e, it]) (fun b ob y z => (b2.2 b (fun c => y (by simp [c]))).trans (k1 b ob (fun c => y (by simp [c])) (fun c => y (by simp [c])) z)) hf (Nat.le_refl _) nw
    refine ⟨.ref s.heap.objs.size, _, I2, rfl, ⟨_, x, rfl, I.hok.fresh (Nat.le_refl _), rfl, fun ys hy => by rw [I.tuple_inj hy hq]; exact hx⟩, ⟨⟨u, ?_⟩, t1.at fun o z => (b2.2 it (Ne.symm q3)).trans z, q3⟩, fun b hb => ?_⟩
    · rw [show ((n + 1 : Nat) : Int) = (n : Int) + 1 by omega]; exact e2
    · have lb : b < s.heap.objs.size := by
        rcases (show b = e ∨ b = it by simpa using hb) with z | z
        · rw [z]; exact l1
        · rw [z]; exact l2
      rw [upd_ne (Nat.ne_of_lt lb)]
      exact (hf b hb).1
  done := by
    intro X eP ew eK hc n pins s σ H E I hf q hg
    subst eP ew eK
    obtain ⟨⟨o0, q1⟩, q2, q3⟩ := q
    obtain ⟨xs, hq, hx⟩ := hg
    obtain ⟨its, rv, p, _⟩ := I.tuple hq
    obtain ⟨f0, f1, f2, f3, f4, f5⟩ := hf it (by simp)
    have ll := rv.length
    exact py_end (I.ok.hd hc) q1 q2 p (by simp; omega) fun h1 eb => ⟨rfl, I.turned (t' := s.toks) (fun b o y z => eb b o y z) f0 f1 f3 f4 f5⟩
  self := fun A n s Q E q h => by
    obtain ⟨⟨_, q1⟩, _⟩ := q
    exact wpAny_pyIter_enum q1 h
def iEnA (K : PySem.W.Frag) (ta : TA) : TI := fun σ H R => ta σ H fun vs H1 => ∃ a xs, vs = [.ref a] ∧ ((SqL K H1 a xs ∧ R (Ite K a) H1) ∨ (SqT K H1 a xs ∧ R (ItE K a) H1))
theorem pi_enA {X : Cx} {e : Expr} {ta : TA} {p pos tpos : Pos} {elts : List Expr} {kk : Nat} (hg : Gl X "enumerate") (hm : X.mg "enumerate" = none) (ha : PA X [e] ta) (hs : starEach [e] X.env = [(false, eval e X.env)] := by rfl) :
    PI X (.Tuple elts kk tpos) (.Call (.Name "enumerate" p) [e] [] pos) (iEnA X.K ta) := by
  refine ⟨fun pins s σ H R I h => Call_ (ld_blt I hg hm boot_enumerate (PyProof.Rows.callWith_type1 (thn (ha.run pos pins s σ H _ I h) fun us s1 q => ?_) hs rfl))⟩
  obtain ⟨vs, H1, I1, r1, a, xs, ex, q⟩ := q
  subst ex
  cases r1 with
  | cons r rr =>
    cases rr
    cases r
    have fr : ∀ b, b ∈ [s1.heap.objs.size + 1, s1.heap.objs.size] → FpOk X pins H1 b := fun b hb => by
      have le : s1.heap.objs.size ≤ b := by
        rcases (show b = s1.heap.objs.size + 1 ∨ b = s1.heap.objs.size by simpa using hb) with z | z
        · rw [z]; exact Nat.le_add_right _ _
        · rw [z]; exact Nat.le_refl _
      exact I1.fpOk le (I1.hok.fresh le)
    rcases q with ⟨hq, q⟩ | ⟨hq, q⟩
    · obtain ⟨its, rv, p', _⟩ := I1.list hq
      refine call_enumerate_list p'.isList fun h1 e1 t1 z1 k1 => wpAny_pyIter_enum e1 ?_
      have I2 : Inv X pins σ H1 { s1 with heap := h1 } := I1.kept (t' := s1.toks) k1
      exact ⟨_, [s1.heap.objs.size + 1, s1.heap.objs.size], _, _, H1, rfl, I2, turn_enum a (s1.heap.objs.size + 1) s1.heap.objs.size, ⟨⟨.none, e1⟩, t1, Nat.succ_ne_self _⟩, fr, q⟩
    · obtain ⟨its, rv, p', _⟩ := I1.tuple hq
      refine call_en p' fun h1 e1 t1 z1 k1 => wpAny_pyIter_enum e1 ?_
      have I2 : Inv X pins σ H1 { s1 with heap := h1 } := I1.kept (t' := s1.toks) k1
      exact ⟨_, [s1.heap.objs.size + 1, s1.heap.objs.size], _, _, H1, rfl, I2, turn_enT a (s1.heap.objs.size + 1) s1.heap.objs.size, ⟨⟨.none, e1⟩, t1, Nat.succ_ne_self _⟩, fr, q⟩
end
end EnT
/-! zip of a list with a tuple -/
namespace ZpM
open PySem PySem.Spec PyProof.Rows L2
/-- the list at a and the tuple at b as they stand at each turn -/
def ItzM (K : PySem.W.Frag) (a b : Addr) : It where
  go i H := ∃ (xs ys : List V) (x y : V), SqL K H a xs ∧ SqT K H b ys ∧ xs[i]? = some x ∧ ys[i]? = some y
  yld i H v H' := ∃ T x y, v = .ref T ∧ H T = none ∧ H' = upd H T (.tup [x, y]) ∧ (∀ xs, SqL K H a xs → xs[i]? = some x) ∧ ∀ ys, SqT K H b ys → ys[i]? = some y
  stop i H := ∃ xs ys : List V, SqL K H a xs ∧ SqT K H b ys ∧ i = min xs.length ys.length
theorem sep_of {z TI TO i1 i2 a b : Addr} (D : ZipApart z TI TO i1 i2 a b) : ZipSep2 z TI TO i1 i2 [i1, a] [i2, b] where
  TIz := D.TIz
  TOz := D.TOz
  TITO := D.TITO
  TIi1 := D.TIi1
  mem1 := by simp
  zf1 := by simp [D.i1z.symm, D.l1z.symm]
  Tf1 := by simp [D.TOi1, D.l1TO.symm]
  TIi2 := D.TIi2
  mem2 := by simp
  zf2 := by simp [D.i2z.symm, D.l2z.symm]
  Tf2 := by simp [D.TOi2, D.l2TO.symm]
  sep1_2 := by simp [D.i12, D.l2i1.symm]
  sep2_1 := by simp [D.i12.symm, D.l1i2.symm]
def StM (z TI TO i1 i2 a b : Addr) (i : Nat) (h : Heap) : Prop := IsZip h z TI TO .none ∧ IsPair h TI (.ref i1) (.ref i2) ∧ (∃ x y, IsPair h TO x y) ∧ h.IsListIter i1 a i ∧ h.IsTupleIter i2 b i
theorem five {z TI TO i1 i2 c : Addr} (h : c ∈ [z, TI, TO, i1, i2]) : c = z ∨ c = TI ∨ c = TO ∨ c = i1 ∨ c = i2 := by simpa using h
theorem turnM {P : Program} {w : World} {K : PySem.W.Frag} {elts : List Expr} {kk : Nat} {tpos : Pos} {a b z TI TO i1 i2 : Addr} (D : ZipApart z TI TO i1 i2 a b) :
    Turn P w K (.Tuple elts kk tpos) (ItzM K a b) [z, TI, TO, i1, i2] z (StM z TI TO i1 i2 a b) where
  mem := by simp
  obj i h st c hc := by
    obtain ⟨hz, hI, ⟨x, y, hO⟩, ⟨o1, e1, _, d1⟩, o2, e2, _, d2⟩ := st
    rcases five hc with rfl | rfl | rfl | rfl | rfl
    · exact ⟨_, hz, fun v q => by cases q⟩
    · exact ⟨_, hI, fun v q => by cases q⟩
    · exact ⟨_, hO, fun v q => by cases q⟩
    · exact ⟨_, e1, fun v q => by rw [d1] at q; cases q⟩
    · exact ⟨_, e2, fun v q => by rw [d2] at q; cases q⟩
  keep i h h' st k := by
    obtain ⟨hz, hI, ⟨x, y, hO⟩, l, t⟩ := st
    exact ⟨k _ (by simp) _ hz, k _ (by simp) _ hI, ⟨x, y, k _ (by simp) _ hO⟩, l.at (k _ (by simp)), t.at (k _ (by simp))⟩
  item := by
    intro X hP hw hK hc i pins s σ H E I hf st hg
    subst hP hw hK
    obtain ⟨hz, hI, ⟨x0, y0, hO⟩, l, t⟩ := st
    obtain ⟨xs, ys, x, y, qx, qy, gx, gy⟩ := hg
    obtain ⟨us, rx, pl, _⟩ := I.list qx
    obtain ⟨ws, ry, pt, _⟩ := I.tuple qy
    obtain ⟨u, gu, ru⟩ := rx.get gx
    obtain ⟨u2, gu2, ru2⟩ := ry.get gy
    have hd : X.A.in1.handled = none := I.ok.hd hc
    have zl : z < s.heap.objs.size := Heap.lt_size hz
    have n1 : i < us.toArray.size := by have := (List.getElem?_eq_some_iff.mp gu).1; simpa using this
    have n2 : i < ws.toArray.size := by have := (List.getElem?_eq_some_iff.mp gu2).1; simpa using this
    refine wpAny_pyNext_zipD2_item (sep_of D) (Draws.list hd i1 a D.l1i1 us.toArray) (Draws.tuple hd i2 b D.l2i2 ws.toArray) hz hI hO ⟨l, pl.isList⟩ ⟨t, pt⟩ n1 n2 fun x1 x2 h' tk p1 p2 z' O' s1 s2 hT hsz hk => ?_
    obtain rfl : u = x1 := by have : us[i]? = some x1 := by simpa using p1
                              rw [gu] at this; exact Option.some.inj this
    obtain rfl : u2 = x2 := by have : ws[i]? = some x2 := by simpa using p2
                               rw [gu2] at this; exact Option.some.inj this
    refine ⟨_, rfl, wpAny_letOwnedTupleGo_zip (s := { s with heap := h', toks := tk }) z' fun h2 z2 sb => ?_⟩
    have T2 : h2.get? s.heap.objs.size = some { cls := .type "tuple", data := .seq #[u, u2] } := (sb.2 _ (Nat.ne_of_gt zl)).trans hT
    have new : ObjOk X.prog X.w (upd H s.heap.objs.size (.tup [x, y])) h2 s.heap.objs.size (.tup [x, y]) := ⟨by show 2 ≤ sizeLine; decide, [u, u2], .cons ru (.cons ru2 .nil), ⟨_, T2, rfl, _, rfl⟩⟩
    have J : Inv X pins σ (upd H s.heap.objs.size (.tup [x, y])) { s with heap := h2, toks := tk } :=
      I.turnedNew (t' := tk) (ch := [z, TI, TO, i1, i2]) (fun c o hb q => by
        simp only [List.mem_cons, List.not_mem_nil, or_false, not_or] at hb
        exact (sb.2 c hb.1).trans (hk c o hb.1 hb.2.2.1 hb.2.2.2.1 hb.2.2.2.2 q)) hf (Nat.le_refl _) new
    refine ⟨.ref s.heap.objs.size, _, J, rfl, ⟨_, x, y, rfl, I.hok.fresh (Nat.le_refl _), rfl, fun q hq => by rw [I.list_inj hq qx]; exact gx, fun q hq => by rw [I.tuple_inj hq qy]; exact gy⟩, ⟨z2, ?_, ⟨u, u2, ?_⟩, ?_, ?_⟩, fun c hcm => ?_⟩
    · exact (sb.2 _ D.TIz).trans (hk _ _ D.TIz D.TITO D.TIi1 D.TIi2 hI)
    · exact (sb.2 _ D.TOz).trans O'
    · exact s1.1.at fun o q => (sb.2 _ D.i1z).trans q
    · exact s2.1.at fun o q => (sb.2 _ D.i2z).trans q
    · have lt : c < s.heap.objs.size := by
        obtain ⟨_, e1, _⟩ := l
        obtain ⟨_, e2, _⟩ := t
        rcases five hcm with rfl | rfl | rfl | rfl | rfl
        · exact zl
        · exact Heap.lt_size hI
        · exact Heap.lt_size hO
        · exact Heap.lt_size e1
        · exact Heap.lt_size e2
      rw [upd_ne (Nat.ne_of_lt lt)]
      exact (hf c hcm).1
  done := by
    intro X hP hw hK hc i pins s σ H E I hf st hg
    subst hP hw hK
    obtain ⟨hz, hI, ⟨x0, y0, hO⟩, l, t⟩ := st
    obtain ⟨xs, ys, qx, qy, he⟩ := hg
    obtain ⟨us, rx, pl, _⟩ := I.list qx
    obtain ⟨ws, ry, pt, _⟩ := I.tuple qy
    have hd : X.A.in1.handled = none := I.ok.hd hc
    have l1 := rx.length
    have l2 := ry.length
    refine wpAny_pyNext_zipD2_end (i := i) (sep_of D) (Draws.list hd i1 a D.l1i1 us.toArray) (Draws.tuple hd i2 b D.l2i2 ws.toArray) hz hI hO ⟨l, pl.isList⟩ ⟨t, pt⟩ (by simp; omega) (by simp; omega) (by simp; omega) fun h' tk hk => ⟨rfl, I.turnedL (t' := tk) (ch := [z, TI, TO, i1, i2]) (fun c o hb q => ?_) hf⟩
    simp only [List.mem_cons, List.not_mem_nil, or_false, not_or] at hb
    exact hk c o hb.1 hb.2.2.1 hb.2.2.2.1 hb.2.2.2.2 q
  self A i s Q E st h := wpAny_pyIter_zip st.1 h
/-! it is made -/
section
open PySem.Sem (wp)
def li0 (l : Addr) : Obj := { cls := .type "list_iterator", data := .fields #[.ref l, .int 0 0] }
def ti0 (l : Addr) : Obj := { cls := .type "tuple_iterator", data := .fields #[.ref l, .int 0 0] }
def made (h : Heap) (a b : Addr) : Heap :=
  ((((h.push (li0 a)).push (ti0 b)).push { cls := .type "tuple", data := .seq #[.ref h.objs.size, .ref (h.push (li0 a)).objs.size] }).push { cls := .type "tuple", data := .seq #[.none, .none] }).push
    { cls := .type "zip", data := .fields #[.none, .bool false, .bool false, .ref ((h.push (li0 a)).push (ti0 b)).objs.size, .ref (((h.push (li0 a)).push (ti0 b)).push { cls := .type "tuple", data := .seq #[.ref h.objs.size, .ref (h.push (li0 a)).objs.size] }).objs.size] }
theorem meetsM (a b : Addr) (xs ys : Array Value) :
    Meets (Builtin.«zip.__new__» ⟨[.type "zip", .ref a, .ref b], []⟩) (fun _ R s => s.heap.IsList a xs ∧ s.heap.IsTuple b ys ∧ R (.ok (.ret (.ref (s.heap.objs.size + 4)))) { s with heap := made s.heap a b }) :=
  .of_wp fun prog w A R s h => by
    obtain ⟨hp, g, d, tk, os⟩ := s
    obtain ⟨ha, hb, h⟩ := h
    have hsub := sub_zip
    have h1 : Heap.IsList (Shared.heap ⟨hp, g, d, tk, os⟩) a xs := ha
    have h2 : Heap.IsTuple (Shared.heap ⟨hp.push { cls := .type "list_iterator", data := .fields #[.ref a, .int 0 0] }, g, d, tk, os⟩) b ys := Heap.IsTuple.push hb _
    wp_walk using wpAny_pyIter_list h1, wpAny_pyIter_tuple h2
    refine ⟨_, rfl, ?_⟩
    have e : ∀ (k : Heap) (o1 o2 o3 o4 : Obj), ((((k.push o1).push o2).push o3).push o4).objs.size = k.objs.size + 4 := fun k o1 o2 o3 o4 => by simp only [Heap.size_push]
    rw [e]
    exact h
end
section
variable {prog : Program} {w : World} {A : Around} {E : Value → Shared → Prop} {s : Shared}
theorem callM {a b : Addr} {xs ys : Array Value} {Q : Value → Shared → Prop} (ha : s.heap.IsList a xs) (hb : s.heap.IsTuple b ys)
    (h : ∀ h', StM (s.heap.objs.size + 4) (s.heap.objs.size + 2) (s.heap.objs.size + 3) s.heap.objs.size (s.heap.objs.size + 1) a b 0 h' → (∀ c o, s.heap.get? c = some o → h'.get? c = some o) → Q (.ref (s.heap.objs.size + 4)) { s with heap := h' }) :
    wpAny (model prog w) A (call (.type "zip") [.ref a, .ref b]) Q E s := by
  refine callType_new F.called_zip (by decide) (F.typeCall_zip_2 _ _) (F.newCall_zip_2 _ _) (fun obj => F.args_object_init_3 obj _ _) F.entry_zip_new (meetsM a b xs ys) ⟨ha, hb, ?_⟩
  have low : ∀ (k : Heap) (o : Obj) {c : Addr} {q : Obj}, k.get? c = some q → (k.push o).get? c = some q := fun k o {c q} e => Heap.get?_push_of_some o e
  have sz : ∀ (k : Heap) (o : Obj), (k.push o).objs.size = k.objs.size + 1 := fun k o => Heap.size_push ..
  have g1 := low _ { cls := .type "zip", data := .fields #[.none, .bool false, .bool false, .ref ((s.heap.push (li0 a)).push (ti0 b)).objs.size, .ref (((s.heap.push (li0 a)).push (ti0 b)).push { cls := .type "tuple", data := .seq #[.ref s.heap.objs.size, .ref (s.heap.push (li0 a)).objs.size] }).objs.size] } (low _ { cls := .type "tuple", data := .seq #[.none, .none] } (low _ { cls := .type "tuple", data := .seq #[.ref s.heap.objs.size, .ref (s.heap.push (li0 a)).objs.size] } (low _ (ti0 b) (Heap.get?_push_size (o := li0 a) s.heap rfl))))
  have g2 := low _ { cls := .type "zip", data := .fields #[.none, .bool false, .bool false, .ref ((s.heap.push (li0 a)).push (ti0 b)).objs.size, .ref (((s.heap.push (li0 a)).push (ti0 b)).push { cls := .type "tuple", data := .seq #[.ref s.heap.objs.size, .ref (s.heap.push (li0 a)).objs.size] }).objs.size] } (low _ { cls := .type "tuple", data := .seq #[.none, .none] } (low _ { cls := .type "tuple", data := .seq #[.ref s.heap.objs.size, .ref (s.heap.push (li0 a)).objs.size] } (Heap.get?_push_size (o := ti0 b) (s.heap.push (li0 a)) rfl)))
  have g3 := low _ { cls := .type "zip", data := .fields #[.none, .bool false, .bool false, .ref ((s.heap.push (li0 a)).push (ti0 b)).objs.size, .ref (((s.heap.push (li0 a)).push (ti0 b)).push { cls := .type "tuple", data := .seq #[.ref s.heap.objs.size, .ref (s.heap.push (li0 a)).objs.size] }).objs.size] } (low _ { cls := .type "tuple", data := .seq #[.none, .none] } (Heap.get?_push_size (o := { cls := .type "tuple", data := .seq #[.ref s.heap.objs.size, .ref (s.heap.push (li0 a)).objs.size] }) ((s.heap.push (li0 a)).push (ti0 b)) rfl))
  have g4 := low _ { cls := .type "zip", data := .fields #[.none, .bool false, .bool false, .ref ((s.heap.push (li0 a)).push (ti0 b)).objs.size, .ref (((s.heap.push (li0 a)).push (ti0 b)).push { cls := .type "tuple", data := .seq #[.ref s.heap.objs.size, .ref (s.heap.push (li0 a)).objs.size] }).objs.size] } (Heap.get?_push_size (o := { cls := .type "tuple", data := .seq #[.none, .none] }) (((s.heap.push (li0 a)).push (ti0 b)).push { cls := .type "tuple", data := .seq #[.ref s.heap.objs.size, .ref (s.heap.push (li0 a)).objs.size] }) rfl)
  have g5 := Heap.get?_push_size (o := { cls := .type "zip", data := .fields #[.none, .bool false, .bool false, .ref ((s.heap.push (li0 a)).push (ti0 b)).objs.size, .ref (((s.heap.push (li0 a)).push (ti0 b)).push { cls := .type "tuple", data := .seq #[.ref s.heap.objs.size, .ref (s.heap.push (li0 a)).objs.size] }).objs.size] }) ((((s.heap.push (li0 a)).push (ti0 b)).push { cls := .type "tuple", data := .seq #[.ref s.heap.objs.size, .ref (s.heap.push (li0 a)).objs.size] }).push { cls := .type "tuple", data := .seq #[.none, .none] }) rfl
  have kp : ∀ c o, s.heap.get? c = some o → (made s.heap a b).get? c = some o := fun c o e => low _ _ (low _ _ (low _ _ (low _ _ (low _ _ e))))
  change (made s.heap a b).get? _ = _ at g1 g2 g3 g4 g5
  simp only [sz] at g1 g2 g3 g4 g5
  exact ⟨⟨_, g5, rfl⟩, h _ ⟨g5, g3, ⟨.none, .none, g4⟩, ⟨_, g1, rfl, rfl⟩, ⟨_, g2, rfl, rfl⟩⟩ kp⟩
end
def iZipB (K : PySem.W.Frag) (ta : TA) : TI := fun σ H R => ta σ H fun vs H1 => ∃ a b xs ys, vs = [.ref a, .ref b] ∧ ((SqL K H1 a xs ∧ SqL K H1 b ys ∧ R (Itz K a b) H1) ∨ (SqT K H1 a xs ∧ SqT K H1 b ys ∧ R (RZ.ItzT K a b) H1) ∨ (SqL K H1 a xs ∧ SqT K H1 b ys ∧ R (ItzM K a b) H1))
theorem pi_zipB {X : Cx} {e e2 : Expr} {ta : TA} {p pos tpos : Pos} {elts : List Expr} {kk : Nat} (hg : Gl X "zip") (hm : X.mg "zip" = none) (ha : PA X [e, e2] ta)
    (hs : starEach [e, e2] X.env = (false, eval e X.env) :: starEach [e2] X.env) (hpl : (backTo pos (starEach [e2] X.env)).any (·.1) = false) :
    PI X (.Tuple elts kk tpos) (.Call (.Name "zip" p) [e, e2] [] pos) (iZipB X.K ta) := by
  refine ⟨fun pins s σ H R I h => ?_⟩
  refine Call_ (ld_blt I hg hm PyProof.Rows.boot_zip (PyProof.Rows.callWith_type1 (thn (ha.run pos pins s σ H _ I h) fun us s1 ⟨vs, H1, I1, r1, q1⟩ => ?_) hs hpl))
  obtain ⟨a, b, xs, ys, rfl, q1⟩ := q1
  obtain ⟨us0, ur, rfl, ra, rr⟩ : ∃ u r, us = u :: r ∧ RelV (.ref a) u ∧ Vals [.ref b] r := by cases r1 with | cons x y => exact ⟨_, _, rfl, x, y⟩
  obtain ⟨us1, rfl, rb⟩ : ∃ u, ur = [u] ∧ RelV (.ref b) u := by cases rr with | cons x y => cases y; exact ⟨_, rfl, x⟩
  obtain rfl : us0 = .ref a := ra
  obtain rfl : us1 = .ref b := rb
  have fr : ∀ c, c ∈ [s1.heap.objs.size + 4, s1.heap.objs.size + 2, s1.heap.objs.size + 3, s1.heap.objs.size, s1.heap.objs.size + 1] → FpOk X pins H1 c := fun c hc => by
    have le : s1.heap.objs.size ≤ c := by rcases five hc with rfl | rfl | rfl | rfl | rfl <;> first | exact Nat.le_add_right _ _ | exact Nat.le_refl _
    exact I1.fpOk le (I1.hok.fresh le)
  rcases q1 with ⟨qx, qy, q⟩ | ⟨qx, qy, q⟩ | ⟨qx, qy, q⟩
  · obtain ⟨its, _, p1, _⟩ := I1.list qx
    obtain ⟨its2, _, p2, _⟩ := I1.list qy
    exact call_zip_2 p1.isList p2.isList fun h' hz hI hO l1 l2 _ hk => wpAny_pyIter_zip hz
      ⟨_, _, _, _, H1, rfl, I1.kept (t' := s1.toks) hk, turn_zip (PySem.W.ktu_apart s1.heap.objs.size a b p1.lt p2.lt), ⟨hz, hI, ⟨_, _, hO⟩, l1, l2⟩, fr, q⟩
  · obtain ⟨its, _, p1, _⟩ := I1.tuple qx
    obtain ⟨its2, _, p2, _⟩ := I1.tuple qy
    obtain ⟨o1, ho1, _⟩ := id p1
    obtain ⟨o2, ho2, _⟩ := id p2
    exact RZ.call_zipT p1 p2 fun h' hz hI hO l1 l2 _ hk => wpAny_pyIter_zip hz
      ⟨_, _, _, _, H1, rfl, I1.kept (t' := s1.toks) hk, RZ.turn_zipT (PySem.W.ktu_apart s1.heap.objs.size a b (Heap.lt_size ho1) (Heap.lt_size ho2)), ⟨hz, hI, ⟨_, _, hO⟩, l1, l2⟩, fr, q⟩
  · obtain ⟨its, _, p1, _⟩ := I1.list qx
    obtain ⟨its2, _, p2, _⟩ := I1.tuple qy
    obtain ⟨o2, ho2, _⟩ := id p2
    exact callM p1.isList p2 fun h' st hk => wpAny_pyIter_zip st.1
      ⟨_, _, _, _, H1, rfl, I1.kept (t' := s1.toks) hk, turnM (PySem.W.ktu_apart s1.heap.objs.size a b p1.lt (Heap.lt_size ho2)), st, fr, q⟩
end ZpM
/-! an exception's own __init__ that begins with super().__init__(..) -/
namespace ExS
open PySem PySem.Spec PyProof.Rows L2
/-- the context of such a def: its one cell is the class -/
def cxS (CX : CXT) (P : Program) (w : World) (K : PySem.W.Frag) (mg : Str → Option Value) (base : Heap) (N : List Str) (qual : Str) (scope : Scope) (f : Addr) (cd : Value) (cc : Addr) (A : Around) (outer : List Env) (s : Shared) (H : Hp) (E : XK) : Cx where
  prog := P
  w := w
  K := K
  mg := mg
  base := base
  A := A.deeper (PySem.W.ksEnv qual scope s.heap.objs.size f cd cc)
  N := N
  s_0 := s
  H_0 := H
  env := PySem.W.ksEnv qual scope s.heap.objs.size f cd cc
  outer := outer
  stack := PySem.W.ksEnv qual scope s.heap.objs.size f cd cc :: outer
  ex := []
  calm := true
  fn := fun _ => false
  pn := []
  xe := fun e s' => wpAny (model P w) (A.deeper (PySem.W.ksEnv qual scope s.heap.objs.size f cd cc)) (leaving (PySem.W.ksEnv qual scope s.heap.objs.size f cd cc) e) (fun _ s'' => CX outer H s E e s'') (fun e' s'' => CX outer H s E e' s'') s'
theorem lk_rev {α : Type} : ∀ {ps : List Str} {us : List α} {i : Nat} {x : Str} {u : α}, ps.Nodup → ps[i]? = some x → us[i]? = some u → ps.length = us.length → (ps.zip us).reverse.lookup x = some u := by
  intro ps us i x u nd h1 h2 hl
  have mem : (x, u) ∈ (ps.zip us).reverse := by
    rw [List.mem_reverse]
    refine List.mem_of_getElem? (i := i) ?_
    rw [List.getElem?_zip_eq_some]; exact ⟨h1, h2⟩
  have nd2 : ((ps.zip us).reverse.map (·.1)).Nodup := by
    rw [List.map_reverse, (List.reverse_perm _).nodup_iff, List.map_fst_zip (by omega)]; exact nd
  generalize (ps.zip us).reverse = l at mem nd2
  induction l with
  | nil => simp at mem
  | cons p l ih =>
    obtain ⟨y, v⟩ := p
    rw [List.map_cons, List.nodup_cons] at nd2
    rcases List.mem_cons.mp mem with e | m
    · cases e; simp
    · have ne : (x == y) = false := by
        have : x ≠ y := fun z => nd2.1 (List.mem_map.mpr ⟨(x, u), m, z⟩)
        simpa using this
      rw [List.lookup_cons, ne]; exact ih m nd2.2
structure ScS (ps : List Str) (scope : Scope) : Prop where
  kind : scope.kind = .function
  co : scope.isCoroutine = false
  gen : scope.isGenerator = false
  nd : ps.Nodup
  loc : ∀ x ∈ ps, scope.names.lookup x = some .local
  cell : ∀ x ∈ scope.names, x.2 ≠ .cell
  free : ∀ x ∈ scope.names, x.2 = .free → x.1 = ("__class__" : Str)
  sup : scope.names.lookup ("super" : Str) = some .globalImplicit
  cls : scope.names.lookup ("__class__" : Str) = some .free
theorem inv_startS {CX : CXT} {P : Program} {w : World} {K : PySem.W.Frag} {mg : Str → Option Value} {base : Heap} {ps : List Str} {qual : Str} {scope : Scope} {f cc : Addr} {cd : Value} {A : Around} {outer : List Env} {s : Shared} {H : Hp} {E : XK} {us : List Value} {vs : List V} {ocl : Obj} {wv : Option Value}
    (S : ScS ps scope) (hd : A.handled = none) (e0 : Env0 P w K mg base A outer s H) (hl : vs.length = ps.length) (r : Vals vs us) (hcc : K.lookup cc = some ocl) (hcd : ocl.data = .cell wv) {h1 : Heap} {tk : Nat}
    (ns : h1.Ns s.heap.objs.size fun x => (ps.zip us).reverse.lookup x) (hk : ∀ b o, s.heap.get? b = some o → h1.get? b = some o) :
    Inv (cxS CX P w K mg base ps qual scope f cd cc A outer s H E) [] (vs.map some) H { s with heap := h1, toks := tk } := by
  have cel : ∀ x c, (cxS CX P w K mg base ps qual scope f cd cc A outer s H E).env.cells.lookup x = some c → x = ("__class__" : Str) ∧ c = cc := fun x c h => by
    have h : List.lookup x [(("__class__" : Str), cc)] = some c := h
    rw [List.lookup_cons] at h
    by_cases z : x = ("__class__" : Str)
    · subst z; simp at h; exact ⟨rfl, h.symm⟩
    · have : (x == ("__class__" : Str)) = false := by simpa using z
      rw [this] at h; cases h
  have bcc : base.get? cc = some ocl := e0.mod.kin _ _ hcc
  have noA : ∀ b : Addr, b ∉ (cxS CX P w K mg base ps qual scope f cd cc A outer s H E).ex := fun b z => absurd (show b ∈ ([] : List Addr) from z) (by simp)
  refine ⟨⟨e0.mod, S.kind, rfl, rfl, Nat.le_refl _, fun y z c h2 h3 => (cel _ _ h2).1.trans (cel _ _ h3).1.symm, fun y hy => ?_, fun y c h => absurd (show false = true from h) (by decide), fun _ => hd, Around.frames_deeper e0.frames, .inr ⟨rfl, rfl⟩, fun b z => absurd z (noA b), e0.bs, e0.bsz, fun b _ _ => noA b, fun b z => absurd z (noA b), e0.funs, e0.frf⟩,
    rfl, e0.bare, Un.kept hk, ⟨_, ns, fun i y v h2 h3 h4 => ?_⟩, fun y c h => ⟨wv, ?_⟩, e0.hok.fresh (Nat.le_refl _), fun y c h => ?_, fun p hp => absurd (show p ∈ ([] : List (Addr × Obj)) from hp) (by simp), e0.hok.kept hk, ?_⟩
  · have hy : scope.names.lookup y = some .cell ∨ scope.names.lookup y = some .free := hy
    rcases hy with hy | hy
    · exact absurd rfl (S.cell _ (PySem.mem_of_lookup hy))
    · have := S.free _ (PySem.mem_of_lookup hy) rfl
      exact ⟨cc, by show List.lookup y [(("__class__" : Str), cc)] = some cc; rw [show y = ("__class__" : Str) from this]; simp⟩
  · have hi : i < vs.length := by have := (List.getElem?_eq_some_iff.mp h3).1; simpa using this
    have ha : vs[i]? = some v := by simpa using h3
    obtain ⟨u, hu, rv⟩ := r.get ha
    exact ⟨u, rv, .inl ⟨S.loc y (List.mem_of_getElem? h2), lk_rev S.nd h2 hu (by rw [← hl]; exact r.length)⟩⟩
  · obtain ⟨_, rfl⟩ := cel _ _ h
    exact ⟨ocl, hk _ _ (e0.bs _ _ bcc).1, hcd⟩
  · obtain ⟨_, rfl⟩ := cel _ _ h
    exact (e0.bs _ _ bcc).2
  · rw [List.length_map]; exact hl
section
variable {prog : Program} {w : World} {A : Around} {E : Value → Shared → Prop}
/-- the bound __init__ of ValueError, called -/
theorem call_mw {X : Cx} {pins : List (Addr × Obj)} {σ : L2.St} {H : Hp} {s : Shared} {a C u : Addr} {us : List Value} {Q : Value → Shared → Prop} (T : OexC X.K C) (I : Inv X pins σ H s) (e : H a = some (exo a C none)) (hu : s.heap.get? u = some (PySem.W.kxs_mw "ValueError.__init__" a)) (hl : us.length ≤ sizeLine)
    (h : ∀ s', Inv X pins σ H s' → Q .none s') : wpAny (model X.prog X.w) A (call (.ref u) us) Q E s := by
  obtain ⟨nm, q, N, bs, bm, sn, sub, ab, col, dd, k0, k1, k2, k3, k5, hC, hbm⟩ := T.cls
  obtain ⟨t1, ho⟩ := exo_at I.hok e
  obtain ⟨hp, g, d, t, os⟩ := s
  refine wpAny_call (codeAny_of_tree ?_)
  show wpAny _ A.in1 (callAny (.ref u) ⟨us, []⟩) _ _ _
  simp only [callAny]
  refine wpAny_bind (wpAny_load hu ?_)
  simp only [PySem.W.kxs_mw, show (Value.type "method-wrapper" == Value.type "method" || Value.type "method-wrapper" == Value.type "builtin_function_or_method" || Value.type "method-wrapper" == Value.type "method-wrapper") = true by decide, if_true]
  refine PySem.W.KFB.if_so (by decide) ?_
  refine wpAny_bind (PySem.W.check_bound_init F.excBase_ValueError.toExcCallFacts (I.kIn _ _ hC) ho rfl ?_)
  refine wpAny_bind (wpAny_pure (wpAny_pure ?_))
  refine ⟨plainId_quiet F.excBase_ValueError.init.plain _, codeAny_builtin F.excBase_ValueError.initEntry ?_⟩
  refine PySem.W.exc_init_tree (cls := .ref C) (t0 := t1) (dv := none) (c2 := .none) (c3 := .none) (b4 := .bool false) ho hl fun h' k hx _ => ?_
  have J := I.write (t' := t) (x := a) (e := a) (o := exo a C none) (by rw [e]; exact True.intro) (.inl rfl) k ⟨_, hx⟩ (exo_ok hx)
  have eu : upd H a (exo a C none) = H := by
    funext b
    by_cases hb : b = a
    · rw [hb, upd_same, e]
    · rw [upd_ne hb]
  rw [eu] at J
  exact h _ J
end
theorem boot_sup : bootBuiltins ("super" : Str) = some (.type "super") := by decide +kernel
structure SupC (P : Program) (K : PySem.W.Frag) (mg : Str → Option Value) (C : Addr) : Prop where
  T : OexC K C
  cd : ∃ cd, PySem.W.clsIn K C = some cd
  self : PySem.W.mroIn K C (.ref C) = some true
  op : PySem.W.nsIn K PySem.cStatics "thirdparty.any" = some none
  m : PySem.W.ks_superIn K C C "__init__" = some (some (.builtin "ValueError.__init__"))
  vb : PySem.W.subIn K (.ref C) (.type "ValueError") = some true
  mgs : mg "super" = none
  top : (P.main.scope.names.lookup ("super" : Str)).isSome = false
theorem fn_sup {CX : CXT} {P : Program} {w : World} {K : PySem.W.Frag} {mg : Str → Option Value} {base : Heap} {k : Nat} {f cc cda C : Addr} {name qual : Str} {params : Arguments} {e : Expr} {es : List Expr} {rest : List Stmt} {scope : Scope} {kV doc pm ct oc ccl cl : Value} {an od cdd cld : Option Addr} {osl ccs csl : Array (Option Value)}
    {p0 p1 p2 p3 p4 : Pos} {ps : List Str} {sp : Sp} {ar : Arg} {vsc : Array Value} {file : Str} {tf : Tok}
    (lk : K.lookup f = some ⟨oc, od, .func (PySem.W.fnX name qual params (.Expr (.Call (.Attribute (.Call (.Name "super" p0) [] [] p1) "__init__" p2) (e :: es) [] p3) p4 :: rest) scope [("__class__", cc)] .none kV doc pm an (.ref cda) ct), osl⟩)
    (hcd : PySem.W.codeIn K (.ref cda) qual = true) (S : ScS ps scope) (SC : SupC P K mg C) (har : (params.posonlyargs ++ params.args).head? = some ar) (h0 : ps[0]? = some ar.arg)
    (hcode : K.lookup cda = some ⟨ccl, cdd, .fields vsc, ccs⟩) (hvs : vsc[2]? = some (.str file tf)) (hfile : ((P.main.file : Str) == file) = true) (hcc : K.lookup cc = some ⟨cl, cld, .cell (some (.ref C)), csl⟩)
    (he : ∀ env : Env, starEach (e :: es) env = (false, eval e env) :: starEach es env) (hpl : ∀ env : Env, (backTo p3 (starEach es env)).any (·.1) = false)
    {pl : Env → Sem Bool} (hev : ∀ env : Env, eval (.Call (.Attribute (.Call (.Name "super" p0) [] [] p1) "__init__" p2) (e :: es) [] p3) env = (do
      let ov ← attributeBase (.Call (.Name "super" p0) [] [] p1) "__init__" env (eval (.Call (.Name "super" p0) [] [] p1) env)
      standAt p2.atName
      let (f, first) ← holding [ov] (getMethod ov "__init__" (pl env))
      callWith p3 f first (backTo p3 (starEach (e :: es) env)) []))
    (len : ∀ vs H Q E, sp vs H Q E → vs.length = ps.length)
    (hbody : ∀ (A : Around) (outer : List Env) (s : Shared) (H : Hp) (vs : List V) (Q : VK) (E : XK), Room k (A.deeper (PySem.W.ksEnv qual scope s.heap.objs.size f (.ref cda) cc)) → sp vs H Q E →
      ∃ a ys ta t, vs = .ref a :: ys ∧ H a = some (exo a C none) ∧ PA (cxS CX P w K mg base ps qual scope f (.ref cda) cc A outer s H E) (e :: es) ta ∧ PSs (cxS CX P w K mg base ps qual scope f (.ref cda) cc A outer s H E) rest t ∧
        ta (vs.map some) H fun ws H1 => ws.length ≤ 1000 ∧ H1 a = some (exo a C none) ∧ t { nx := fun _ H' => Q .non H', rt := Q } (vs.map some) H1) :
    FnOk P w K mg base CX (k + 1) f (PySem.W.fnX name qual params (.Expr (.Call (.Attribute (.Call (.Name "super" p0) [] [] p1) "__init__" p2) (e :: es) [] p3) p4 :: rest) scope [("__class__", cc)] .none kV doc pm an (.ref cda) ct) ps sp := by
  refine ⟨len, fun A outer s H args us vs Q E hr e0 hb r hsp => ?_⟩
  have hl := len _ _ _ _ hsp
  have KX : K.In s.heap := e0.mod.kin.keeps fun b o e => (e0.bs b o e).1
  have lim : s.heap.NoLimit := e0.mod.nolimit.keeps fun b o e => (e0.bs b o e).1
  refine PySem.ks_codeAny_call_defAt (fd := PySem.W.fnX name qual params _ scope [("__class__", cc)] .none kV doc pm an (.ref cda) ct) (binds := ps.zip us) hr.depth (KX _ _ lk) rfl lim (PySem.W.codeRec_of KX hcd) rfl hb S.cell (fun x hx => S.loc _ (List.of_mem_zip hx).1) (fun h₀ hns hk₁ => ?_) S.co S.gen S.kind
  obtain ⟨a, ys, ta, t, rfl, ea, ha, ht, hq⟩ := hbody A outer s H vs Q E (hr.deeper _) hsp
  have I : Inv (cxS CX P w K mg base ps qual scope f (.ref cda) cc A outer s H E) [] ((V.ref a :: ys).map some) H { s with heap := h₀, toks := s.toks + (ps.zip us).length } := inv_startS S hr.hd e0 hl r hcc rfl hns hk₁
  have kin := I.kIn
  obtain ⟨m, fr⟩ := I.fr
  obtain ⟨cd, hcls⟩ := SC.cd
  have hint : interactive (PySem.W.ksEnv qual scope s.heap.objs.size f (.ref cda) cc) = false := by
    unfold interactive
    rw [show (PySem.W.ksEnv qual scope s.heap.objs.size f (.ref cda) cc).scope.kind = .function from S.kind]
    rfl
  obtain ⟨mb, hmb1, hmb2⟩ := I.mod.blt
  cases r with
  | @cons _ u0 _ us' ra rr =>
  obtain rfl : u0 = Value.ref a := ra
  obtain ⟨oD, hD1, hD2⟩ : ∃ oD, h₀.get? C = some oD ∧ oD.data = .cls cd := by
    have hcls := hcls
    unfold PySem.W.clsIn at hcls
    split at hcls
    · rename_i c d cd' sl ho
      cases hcls
      exact ⟨_, kin _ _ ho, rfl⟩
    · cases hcls
  obtain ⟨t1, hx⟩ := exo_at I.hok ea
  have II : ∀ h1 : Heap, (∀ b o, h₀.get? b = some o → h1.get? b = some o) → PySem.W.InstAt h1 a ({ cls := .ref C, dict := none, data := .fields #[.ref t1, .none, .none, .none, .bool false, .none] } : Obj) C none := fun h1 k => ⟨k _ _ hx, rfl, rfl, trivial⟩
  refine PySem.ks_wpAt_execs_cons (PySem.ks_wpAt_Expr_any (PySem.ks_wpAt_MethodCall (pl := pl _) ?_ (hev _)) hint rfl)
  · refine PySem.ks_wpAt_super_base (f := f) (cc := cda) (ar := ar) S.sup S.cls rfl rfl (kin _ _ lk) rfl har rfl (kin _ _ hcode) rfl hvs hfile SC.top ?_
    refine PySem.W.ks_loadName_global S.kind S.sup (Calls.loadGlobal_builtin (I.mod.glob.keeps I.bk) SC.mgs (hmb1.keeps I.bk) ((hmb2 _ (by decide)).trans boot_sup) ⟨rfl, ?_⟩)
    refine wpAny_loadName_free S.kind S.cls rfl ⟨_, kin _ _ hcc, rfl⟩ ?_
    refine wpAny_loadName_local S.kind (S.loc _ (List.mem_of_getElem? h0)) hns (lk_rev S.nd h0 rfl (by rw [← hl]; simp [rr.length])) ?_
    refine PySem.ks_wpAny_isType_cls hD1 hD2 ⟨rfl, ?_⟩
    refine PySem.ks_wpAny_call_super hD1 hD2 hx rfl (fun c z => by cases z) (PySem.W.looks_mroIn kin SC.self) (fun h1 so1 k1 => ?_)
    have I1 : Inv (cxS CX P w K mg base ps qual scope f (.ref cda) cc A outer s H E) [] ((V.ref a :: ys).map some) H { s with heap := h1, toks := s.toks + (ps.zip (Value.ref a :: us')).length } := I.kept k1
    refine PySem.W.kxs_getMethod PySem.W.kxs_ValueError so1 (PySem.W.looks_opaque I1.kIn SC.op) (l₀ := cd.mro) ?_ rfl I1.kIn ?_ ((II h1 k1).type.andThen (PySem.W.looks_subIn I1.kIn SC.vb)) (PySem.W.ks_ne I1.kIn (II h1 k1) hcls) rfl ?_
    · exact fun A Q E s k q => wpAny_bind ((PySem.W.looks_clsIn I1.kIn hcls) A _ E s k (wpAny_pure q))
    · have hm := SC.m
      unfold PySem.W.ks_superIn at hm
      rw [hcls] at hm
      exact hm
    · have I2 : Inv (cxS CX P w K mg base ps qual scope f (.ref cda) cc A outer s H E) [] ((V.ref a :: ys).map some) H { s with heap := h1.push (PySem.W.kxs_mw "ValueError.__init__" a), toks := s.toks + (ps.zip (Value.ref a :: us')).length + 1 } :=
        I1.kept fun b o q => Heap.get?_push_of_some _ q
      have gu : (h1.push (PySem.W.kxs_mw "ValueError.__init__" a)).get? h1.objs.size = some (PySem.W.kxs_mw "ValueError.__init__" a) := Heap.get?_push_size _ rfl
      have I3 : Inv (cxS CX P w K mg base ps qual scope f (.ref cda) cc A outer s H E) [(h1.objs.size, PySem.W.kxs_mw "ValueError.__init__" a)] ((V.ref a :: ys).map some) H { s with heap := h1.push (PySem.W.kxs_mw "ValueError.__init__" a), toks := s.toks + (ps.zip (Value.ref a :: us')).length + 1 } := by
        refine I2.pins_of fun p hp => ?_
        rw [List.mem_singleton] at hp
        subst hp
        refine ⟨gu, I1.hok.fresh (Nat.le_refl _), fun z => ?_, I1.nofs (Nat.le_refl _), fun v z => by cases z⟩
        have := I1.lt
        have z : h1.objs.size = (cxS CX P w K mg base ps qual scope f (.ref cda) cc A outer s H E).env.locals := z
        rw [← z] at this
        exact absurd this (Nat.lt_irrefl _)
      rw [he]
      refine PySem.W.kxs_callWith (i := "ValueError.__init__") (x := a) (by show (false || (backTo p3 (starEach es _)).any (·.1)) = false; rw [hpl]; rfl) ?_
      refine Calls.evalArgs_plain ?_
      have run := ha.run p3 _ _ _ _ _ I3 hq
      rw [he] at run
      refine wpAny_mono run (fun wsv s4 hs4 => ?_) fun e s' z => z
      obtain ⟨ws, H1, I4, r4, hl4, ea4, hq4⟩ := hs4
      obtain ⟨gu4, _⟩ := I4.pin _ (List.mem_append_right _ (List.mem_singleton.mpr rfl))
      refine ⟨gu4, ?_⟩
      have I5 : Inv (cxS CX P w K mg base ps qual scope f (.ref cda) cc A outer s H E) [] ((V.ref a :: ys).map some) H1 s4 := I4.pins_of fun p hp => absurd hp (by simp)
      refine call_mw (X := cxS CX P w K mg base ps qual scope f (.ref cda) cc A outer s H E) SC.T I5 ea4 gu4 (by show wsv.length ≤ sizeLine; rw [← r4.length, sizeLine_eq]; omega) fun s5 I6 => ?_
      refine wpAt_of_wpAny (wpAny_mono (ht.run [] s5 _ H1 _ I6 hq4) (fun fl s' hs => ?_) fun e s' hs => hs)
      have fin : ∀ {σ' : L2.St} {H' : Hp} {v : V} {u : Value}, Inv (cxS CX P w K mg base ps qual scope f (.ref cda) cc A outer s H E) [] σ' H' s' → RelV v u → Q v H' → CE outer P w H s Q u s' :=
        fun {σ' H' v u} J rv q => ⟨v, H', J.os, J.bare, J.base, J.hok, rv, q⟩
      cases fl with
      | ret u =>
        obtain ⟨v, σ', H', J, rv, q⟩ := hs
        exact fin J rv q
      | next =>
        obtain ⟨σ', H', J, q⟩ := hs
        exact fin (v := V.non) (u := Value.none) J rfl q
      | brk =>
        obtain ⟨_, _, _, q⟩ := hs
        exact False.elim q
      | cont =>
        obtain ⟨_, _, _, q⟩ := hs
        exact False.elim q

/-! ## what such an __init__ leaves -/
def ixS : List Str → Str → Option Nat
  | [], _ => none
  | y :: l, x => if y = x then some 0 else (ixS l x).map (· + 1)
theorem ixS_get : ∀ {l : List Str} {x : Str} {i : Nat}, ixS l x = some i → l[i]? = some x
  | [], _, _, h => by cases h
  | y :: l, x, i, h => by
    unfold ixS at h
    split at h
    · rename_i e; cases h; rw [e]; rfl
    · cases q : ixS l x with
      | none => rw [q] at h; cases h
      | some j => rw [q] at h; cases h; simpa using ixS_get q
/-- self.f = y: (f, the place of y among the parameters) -/
def attrOf (ps : List Str) : Stmt → Option (Str × Nat)
  | .Assign [.Attribute (.Name z _) f _] (.Name y _) _ => if ps[0]? = some z ∧ (z == ("__debug__" : Str)) = false ∧ (z == ("__classdict__" : Str)) = false ∧ (y == ("__debug__" : Str)) = false ∧ (y == ("__classdict__" : Str)) = false then (ixS ps.tail y).map fun j => (f, j) else none
  | _ => none
/-- one after the other, the first one first -/
def attrsOf (ps : List Str) : List Stmt → Option (List (Str × Nat))
  | [] => some []
  | st :: r => match attrOf ps st, attrsOf ps r with
    | some p, some as => some (p :: as)
    | _, _ => none
theorem attrOf_shape {ps : List Str} {st : Stmt} {p : Str × Nat} (e : attrOf ps st = some p) : ∃ z p1 p2 y p3 pos, st = .Assign [.Attribute (.Name z p1) p.1 p2] (.Name y p3) pos ∧ ps[0]? = some z ∧ (z == ("__debug__" : Str)) = false ∧ (z == ("__classdict__" : Str)) = false ∧ (y == ("__debug__" : Str)) = false ∧ (y == ("__classdict__" : Str)) = false ∧ ps[p.2 + 1]? = some y := by
  unfold attrOf at e
  split at e
  · split at e
    · rename_i h
      obtain ⟨h0, h1, h2, h3, h4⟩ := h
      simp only [Option.map_eq_some_iff] at e
      obtain ⟨j, e1, rfl⟩ := e
      have gy := ixS_get e1
      rw [List.getElem?_tail] at gy
      exact ⟨_, _, _, _, _, _, rfl, h0, h1, h2, h3, h4, gy⟩
    · cases e
  · cases e
def asV {α : Type} (d : α) (as : List (Str × Nat)) (ys : List α) : List (Str × α) := (as.map fun p => (p.1, ys.getD p.2 d)).reverse
theorem asV_cons {α : Type} (d : α) (p : Str × Nat) (as : List (Str × Nat)) (ys : List α) : asV d (p :: as) ys = asV d as ys ++ [(p.1, ys.getD p.2 d)] := by simp [asV]
/-- the exception that is being made, so many of its attributes stored -/
def Mid (H0 : Hp) (a C : Addr) (done : List (Str × V)) (H : Hp) : Prop := (done = [] ∧ H = H0) ∨ ∃ dx, H0 dx = none ∧ dx ≠ a ∧ H a = some (exo a C (some dx)) ∧ H dx = some (exd dx done) ∧ ∀ b, b ≠ a → b ≠ dx → H b = H0 b
theorem ost_chain {X : Cx} {a C : Addr} {ps : List Str} {ys : List V} {H0 : Hp} (T : OexC X.K C) (hN : X.N = ps) (hv : ∀ x ∈ ps, Vis X.env.scope x) (h0 : H0 a = some (exo a C none)) (hy : ys.length + 1 = ps.length) : ∀ (l : List Stmt) (as : List (Str × Nat)), attrsOf ps l = some as → as.length ≤ 900 → (∀ p ∈ as, PySem.W.findIn X.K (.ref C) p.1 = some none) →
    ∃ t, PSs X l t ∧ ∀ (D : Ends) (done : List (Str × V)) (H : Hp), done.length + as.length ≤ 900 → Mid H0 a C done H → (∀ H3, Mid H0 a C (asV .non as ys ++ done) H3 → D.nx ((V.ref a :: ys).map some) H3) → t D ((V.ref a :: ys).map some) H
  | [], as, e, _, _ => by
    unfold attrsOf at e; cases e
    exact ⟨_, pss_nil, fun D done H _ m q => q H (by simpa [asV] using m)⟩
  | st :: r, as, e, hl, hno => by
    unfold attrsOf at e
    split at e
    · rename_i p as' e1 e2
      cases e
      obtain ⟨z, p1, p2, y, p3, pos, rfl, z0, z1, z2, z3, z4, gy'⟩ := attrOf_shape e1
      obtain ⟨t, ht, hq⟩ := ost_chain T hN hv h0 hy r as' e2 (by simp at hl; omega) fun p hp => hno p (by simp [hp])
      have hj : p.2 < ys.length := by have := (List.getElem?_eq_some_iff.mp gy').1; omega
      refine ⟨_, pss_cons (ps_ost (pe_var (i := 0) (by rw [hN]; exact z0) (hv _ (List.mem_of_getElem? z0)) z1 z2) (pe_var (i := p.2 + 1) (by rw [hN]; exact gy') (hv _ (List.mem_of_getElem? gy')) z3 z4)) ht, fun D done H hd m q => ?_⟩
      refine ⟨ys.getD p.2 .non, by simp [List.getD_eq_getElem?_getD, List.getElem?_eq_getElem hj], V.ref a, rfl, a, C, rfl, T, hno _ (by simp), ?_⟩
      have next : ∀ H2, Mid H0 a C ((p.1, ys.getD p.2 .non) :: done) H2 → t D ((V.ref a :: ys).map some) H2 := fun H2 m2 => hq D _ H2 (by simp at hd ⊢; omega) m2 fun H3 m3 => q H3 (by rw [asV_cons]; simpa using m3)
      rcases m with ⟨rfl, rfl⟩ | ⟨dx, n1, n2, n3, n4, n5⟩
      · refine .inl ⟨h0, fun dx n1 n2 => next _ (.inr ⟨dx, n1, n2, upd_same, by rw [upd_ne n2]; exact upd_same, fun b b1 b2 => by rw [upd_ne b1, upd_ne b2]⟩)⟩
      · refine .inr ⟨dx, done, n3, n4, by simp at hd; omega, next _ (.inr ⟨dx, n1, n2, by rw [upd_ne (Ne.symm n2)]; exact n3, upd_same, fun b b1 b2 => by rw [upd_ne b2]; exact n5 b b1 b2⟩)⟩
    · cases e
/-- what an own __init__ promises -/
def spI (C : Addr) (n : Nat) (as : List (Str × Nat)) : Sp := fun vs H Q _ => ∃ a ys, vs = .ref a :: ys ∧ ys.length = n ∧ H a = some (exo a C none) ∧ ∀ H3, Mid H a C (asV .non as ys) H3 → Q .non H3
theorem start_full {N : List Str} {vs : List V} (h : vs.length = N.length) : L2.start N vs = vs.map some := by
  unfold L2.start; rw [h]; simp
theorem fnI_plain {P : Program} {w : World} {K : PySem.W.Frag} {mg : Str → Option Value} {base : Heap} {k : Nat} {x qual : Str} {st : Stmt} {f C : Addr} {fd : FuncData} {ps : List Str} {as : List (Str × Nat)} (F : L2.Fun K x qual st f fd) (S : FnScope ps ps (defScope st)) (T : OexC K C) (hp : 1 ≤ ps.length)
    (has : attrsOf ps (defBody st) = some as) (hl : as.length ≤ 900) (hno : ∀ p ∈ as, PySem.W.findIn K (.ref C) p.1 = some none) : FnOk P w K mg base (L2.CX P w) (k + 1) f fd ps (spI C (ps.length - 1) as) := by
  refine F.okX S (fun vs H Q E q => ?_) fun cdv A outer s H vs Q E hr q => ?_
  · obtain ⟨a, ys, rfl, h, _⟩ := q; simp; omega
  · obtain ⟨a, ys, rfl, h1, h2, h3⟩ := q
    obtain ⟨t, ht, hq⟩ := ost_chain (X := cxOf (L2.CX P w) P w K mg base ps qual (defScope st) f cdv A outer s H E) (H0 := H) (ys := ys) (ps := ps) T rfl (fun x hx => (S.par x hx).elim .inl fun z => .inr (.inl z)) h2 (by omega) (defBody st) as has hl hno
    refine ⟨t, ht, ?_⟩
    rw [start_full (by simp; omega)]
    exact hq _ [] H (by simpa using hl) (.inl ⟨rfl, rfl⟩) fun H3 m => h3 H3 (by simpa using m)
/-- what stands in super().__init__(..): a text, or a parameter -/
def supArg (ps : List Str) : Expr → Bool
  | .Constant (.str _) _ _ => true
  | .Name y _ => decide (y ∈ ps) && !(y == ("__debug__" : Str)) && !(y == ("__classdict__" : Str))
  | _ => false
theorem fnI_sup {P : Program} {w : World} {K : PySem.W.Frag} {mg : Str → Option Value} {base : Heap} {k : Nat} {f cc cda C : Addr} {name qual : Str} {params : Arguments} {e : Expr} {rest : List Stmt} {scope : Scope} {kV doc pm ct oc ccl cl : Value} {an od cdd cld : Option Addr} {osl ccs csl : Array (Option Value)}
    {p0 p1 p2 p3 p4 : Pos} {ps : List Str} {ar : Arg} {vsc : Array Value} {file : Str} {tf : Tok} {as : List (Str × Nat)}
    (lk : K.lookup f = some ⟨oc, od, .func (PySem.W.fnX name qual params (.Expr (.Call (.Attribute (.Call (.Name "super" p0) [] [] p1) "__init__" p2) [e] [] p3) p4 :: rest) scope [("__class__", cc)] .none kV doc pm an (.ref cda) ct), osl⟩)
    (hcd : PySem.W.codeIn K (.ref cda) qual = true) (S : ScS ps scope) (SC : SupC P K mg C) (har : (params.posonlyargs ++ params.args).head? = some ar) (h0 : ps[0]? = some ar.arg)
    (hcode : K.lookup cda = some ⟨ccl, cdd, .fields vsc, ccs⟩) (hvs : vsc[2]? = some (.str file tf)) (hfile : ((P.main.file : Str) == file) = true) (hcc : K.lookup cc = some ⟨cl, cld, .cell (some (.ref C)), csl⟩)
    (he : ∀ env : Env, starEach [e] env = [(false, eval e env)])
    {pl : Env → Sem Bool} (hev : ∀ env : Env, eval (.Call (.Attribute (.Call (.Name "super" p0) [] [] p1) "__init__" p2) [e] [] p3) env = (do
      let ov ← attributeBase (.Call (.Name "super" p0) [] [] p1) "__init__" env (eval (.Call (.Name "super" p0) [] [] p1) env)
      standAt p2.atName
      let (f, first) ← holding [ov] (getMethod ov "__init__" (pl env))
      callWith p3 f first (backTo p3 (starEach [e] env)) []))
    (hp : 1 ≤ ps.length) (hsa : supArg ps e = true) (has : attrsOf ps rest = some as) (hl : as.length ≤ 900) (hno : ∀ p ∈ as, PySem.W.findIn K (.ref C) p.1 = some none) :
    FnOk P w K mg base (L2.CX P w) (k + 1) f (PySem.W.fnX name qual params (.Expr (.Call (.Attribute (.Call (.Name "super" p0) [] [] p1) "__init__" p2) [e] [] p3) p4 :: rest) scope [("__class__", cc)] .none kV doc pm an (.ref cda) ct) ps (spI C (ps.length - 1) as) := by
  refine fn_sup lk hcd S SC har h0 hcode hvs hfile hcc he (fun _ => rfl) hev (fun vs H Q E q => ?_) fun A outer s H vs Q E hr q => ?_
  · obtain ⟨a, ys, rfl, h, _⟩ := q; simp; omega
  · obtain ⟨a, ys, rfl, h1, h2, h3⟩ := q
    obtain ⟨t, ht, hq⟩ := ost_chain (X := cxS (L2.CX P w) P w K mg base ps qual scope f (.ref cda) cc A outer s H E) (H0 := H) (ys := ys) (ps := ps) SC.T rfl (fun x hx => .inl (S.loc x hx)) h2 (by omega) rest as has hl hno
    have fin : t { nx := fun _ H' => Q .non H', rt := Q } ((V.ref a :: ys).map some) H := hq _ [] H (by simpa using hl) (.inl ⟨rfl, rfl⟩) fun H3 m => h3 H3 (by simpa using m)
    unfold supArg at hsa
    split at hsa
    · exact ⟨a, ys, _, t, rfl, h2, pa_cons pe_str pa_nil (he _), ht, (by decide : 1 ≤ 1000), h2, fin⟩
    · rename_i y py
      simp only [Bool.and_eq_true, decide_eq_true_eq, Bool.not_eq_true'] at hsa
      obtain ⟨⟨hy, d1⟩, d2⟩ := hsa
      obtain ⟨i, hi⟩ := List.getElem?_of_mem hy
      have li : i < (V.ref a :: ys).length := by have : i < ps.length := (List.getElem?_eq_some_iff.mp hi).1; simp; omega
      refine ⟨a, ys, _, t, rfl, h2, pa_cons (pe_var (i := i) hi (.inl (S.loc y hy)) d1 d2) pa_nil (he _), ht, ?_⟩
      exact ⟨(V.ref a :: ys)[i], by rw [List.getElem?_map, List.getElem?_eq_getElem li]; rfl, (by decide : 1 ≤ 1000), h2, fin⟩
    · cases hsa
end ExS
namespace Lz
open PySem PySem.Spec PyProof.Rows L2

/-! values as trees: a tuple is its items; a list, an instance is a place in the heap -/
inductive U where
  | non | bl (b : Bool) | int (i : Int) | str (x : Str) | tup (xs : List U) | ref (i : Nat)

inductive O where
  | lst (xs : List U)
  | fro (xs : List U)
  | ins (c : Nat) (fs : List (Str × U))

abbrev Hb := List O

/-- the world: the written part; the program's classes by numbers, n of them; which is below which; the attributes that suites read -/
structure Wd where
  K : PySem.W.Frag
  ca : Nat → Addr
  n : Nat
  sub : Nat → Nat → Bool
  ats : List Str
  exm : ∀ d c, d < n → c < n → PySem.W.exmOne K (.ref (ca d)) (.ref (ca c)) = some (sub d c)
  xf : ∀ c, c < n → XfC K (ca c)
  no : ∀ c f, c < n → f ∈ ats → PySem.W.findIn K (.ref (ca c)) f = some none
def noSub : Nat → Nat → Bool := fun _ _ => false
def Wd.nil (K : PySem.W.Frag) : Wd := ⟨K, fun _ => 0, 0, noSub, [], fun _ _ h => by omega, fun _ h => by omega, fun _ _ h => by omega⟩

/-- a tuple that stands: tracked, or an object of the module -/
def TupAt (K : PySem.W.Frag) (H : Hp) (a : Addr) (xs : List V) : Prop :=
  H a = some (.tup xs) ∨
    ∃ (o : Obj) (its : Array Value) (n : Nat), K.lookup a = some o ∧ o.cls = .type "tuple" ∧ o.data = .seq its n ∧ its.size ≤ sizeLine ∧ Vals xs its.toList
theorem TupAt.sq {K : PySem.W.Frag} {H : Hp} {a : Addr} {xs : List V} (h : TupAt K H a xs) : SqT K H a xs := by
  rcases h with h | h
  · exact .inl (.inl h)
  · exact .inr h

mutual
def RV (K : PySem.W.Frag) (m : List Addr) (H : Hp) : U → V → Prop
  | .non, v => v = .non
  | .bl b, v => v = .bl b
  | .int i, v => v = .int i
  | .str x, v => v = .str x
  | .tup us, v => ∃ a vs, v = .ref a ∧ TupAt K H a vs ∧ RVs K m H us vs
  | .ref i, v => ∃ a, v = .ref a ∧ m[i]? = some a
def RVs (K : PySem.W.Frag) (m : List Addr) (H : Hp) : List U → List V → Prop
  | [], vs => vs = []
  | u :: us, vs => ∃ v r, vs = v :: r ∧ RV K m H u v ∧ RVs K m H us r
end

structure Ext (m : List Addr) (H : Hp) (m' : List Addr) (H' : Hp) : Prop where
  pre : ∃ r, m' = m ++ r
  tups : ∀ a xs, H a = some (.tup xs) → H' a = some (.tup xs)
  xds : ∀ a fs, H a = some (.xd fs) → H' a = some (.xd fs)
theorem Ext.refl (m : List Addr) (H : Hp) : Ext m H m H := ⟨⟨[], by simp⟩, fun _ _ h => h, fun _ _ h => h⟩
theorem Ext.trans {m m1 m2 : List Addr} {H H1 H2 : Hp} (a : Ext m H m1 H1) (b : Ext m1 H1 m2 H2) : Ext m H m2 H2 := by
  obtain ⟨r, rfl⟩ := a.pre
  obtain ⟨q, rfl⟩ := b.pre
  exact ⟨⟨r ++ q, by simp⟩, fun c xs h => b.tups c xs (a.tups c xs h), fun c xs h => b.xds c xs (a.xds c xs h)⟩
theorem Ext.at {m m1 : List Addr} {H H1 : Hp} (e : Ext m H m1 H1) {i : Nat} {a : Addr} (h : m[i]? = some a) : m1[i]? = some a := by
  obtain ⟨r, rfl⟩ := e.pre
  have hi : i < m.length := (List.getElem?_eq_some_iff.mp h).1
  rw [List.getElem?_append_left hi]
  exact h
theorem TupAt.mono {K : PySem.W.Frag} {m m1 : List Addr} {H H1 : Hp} (e : Ext m H m1 H1) {a : Addr} {xs : List V} (h : TupAt K H a xs) : TupAt K H1 a xs := by
  rcases h with h | h
  · exact .inl (e.tups _ _ h)
  · exact .inr h
mutual
theorem RV.mono {K : PySem.W.Frag} {m m1 : List Addr} {H H1 : Hp} (e : Ext m H m1 H1) : ∀ (u : U) {v : V}, RV K m H u v → RV K m1 H1 u v
  | .non, _, h => by simpa [RV] using h
  | .bl _, _, h => by simpa [RV] using h
  | .int _, _, h => by simpa [RV] using h
  | .str _, _, h => by simpa [RV] using h
  | .tup us, _, h => by
    unfold RV at h ⊢
    obtain ⟨a, vs, rfl, t, r⟩ := h
    exact ⟨a, vs, rfl, t.mono e, RVs.mono e us r⟩
  | .ref i, _, h => by
    unfold RV at h ⊢
    obtain ⟨a, rfl, r⟩ := h
    exact ⟨a, rfl, e.at r⟩
theorem RVs.mono {K : PySem.W.Frag} {m m1 : List Addr} {H H1 : Hp} (e : Ext m H m1 H1) : ∀ (us : List U) {vs : List V}, RVs K m H us vs → RVs K m1 H1 us vs
  | [], _, h => by simpa [RVs] using h
  | u :: us, _, h => by
    unfold RVs at h ⊢
    obtain ⟨v, r, rfl, a, b⟩ := h
    exact ⟨v, r, rfl, RV.mono e u a, RVs.mono e us b⟩
end

theorem RVs.nil {K : PySem.W.Frag} {m : List Addr} {H : Hp} : RVs K m H [] [] := by simp [RVs]
theorem RVs.cons {K : PySem.W.Frag} {m : List Addr} {H : Hp} {u : U} {v : V} {us : List U} {vs : List V} (h : RV K m H u v) (r : RVs K m H us vs) : RVs K m H (u :: us) (v :: vs) := by
  unfold RVs
  exact ⟨v, vs, rfl, h, r⟩
theorem RVs.inv_cons {K : PySem.W.Frag} {m : List Addr} {H : Hp} {u : U} {us : List U} {vs : List V} (h : RVs K m H (u :: us) vs) : ∃ v r, vs = v :: r ∧ RV K m H u v ∧ RVs K m H us r := by
  unfold RVs at h; exact h
theorem RVs.inv_nil {K : PySem.W.Frag} {m : List Addr} {H : Hp} {vs : List V} (h : RVs K m H [] vs) : vs = [] := by
  unfold RVs at h; exact h
theorem RVs.length {K : PySem.W.Frag} {m : List Addr} {H : Hp} : ∀ {us : List U} {vs : List V}, RVs K m H us vs → us.length = vs.length
  | [], vs, h => by rw [h.inv_nil]; rfl
  | u :: us, vs, h => by
    obtain ⟨v, r, rfl, _, b⟩ := h.inv_cons
    simp [b.length]
theorem RVs.get {K : PySem.W.Frag} {m : List Addr} {H : Hp} : ∀ {us : List U} {vs : List V} {i : Nat} {u : U}, RVs K m H us vs → us[i]? = some u → ∃ v, vs[i]? = some v ∧ RV K m H u v
  | [], _, _, _, _, e => by simp at e
  | u :: us, vs, 0, x, h, e => by
    obtain ⟨v, r, rfl, a, b⟩ := h.inv_cons
    simp at e; subst e
    exact ⟨v, rfl, a⟩
  | u :: us, vs, i + 1, x, h, e => by
    obtain ⟨v, r, rfl, a, b⟩ := h.inv_cons
    obtain ⟨v', h1, h2⟩ := RVs.get (i := i) b (by simpa using e)
    exact ⟨v', by simpa using h1, h2⟩
theorem RVs.get' {K : PySem.W.Frag} {m : List Addr} {H : Hp} {us : List U} {vs : List V} {i : Nat} {v : V} (h : RVs K m H us vs) (e : vs[i]? = some v) : ∃ u, us[i]? = some u ∧ RV K m H u v := by
  have hi : i < us.length := by rw [h.length]; exact (List.getElem?_eq_some_iff.mp e).1
  obtain ⟨v', h1, h2⟩ := h.get (List.getElem?_eq_getElem hi)
  rw [e] at h1; cases h1
  exact ⟨_, List.getElem?_eq_getElem hi, h2⟩
theorem RVs.append {K : PySem.W.Frag} {m : List Addr} {H : Hp} : ∀ {us ws : List U} {vs xs : List V}, RVs K m H us vs → RVs K m H ws xs → RVs K m H (us ++ ws) (vs ++ xs)
  | [], _, _, _, h, k => by rw [h.inv_nil]; exact k
  | u :: us, _, _, _, h, k => by
    obtain ⟨v, r, rfl, a, b⟩ := h.inv_cons
    exact .cons a (RVs.append b k)
theorem RVs.set {K : PySem.W.Frag} {m : List Addr} {H : Hp} {u : U} {v : V} (q : RV K m H u v) : ∀ {us : List U} {vs : List V} (i : Nat), RVs K m H us vs → RVs K m H (us.set i u) (vs.set i v)
  | [], vs, i, h => by rw [h.inv_nil]; exact .nil
  | w :: us, vs, 0, h => by
    obtain ⟨v', r, rfl, a, b⟩ := h.inv_cons
    exact .cons q b
  | w :: us, vs, i + 1, h => by
    obtain ⟨v', r, rfl, a, b⟩ := h.inv_cons
    exact .cons a (RVs.set q i b)
theorem RVs.take {K : PySem.W.Frag} {m : List Addr} {H : Hp} : ∀ {us : List U} {vs : List V} (n : Nat), RVs K m H us vs → RVs K m H (us.take n) (vs.take n)
  | us, vs, 0, h => by simp; exact .nil
  | [], vs, n + 1, h => by rw [h.inv_nil]; exact .nil
  | w :: us, vs, n + 1, h => by
    obtain ⟨v', r, rfl, a, b⟩ := h.inv_cons
    exact .cons a (RVs.take n b)
theorem RVs.drop {K : PySem.W.Frag} {m : List Addr} {H : Hp} : ∀ {us : List U} {vs : List V} (n : Nat), RVs K m H us vs → RVs K m H (us.drop n) (vs.drop n)
  | us, vs, 0, h => by simpa using h
  | [], vs, n + 1, h => by rw [h.inv_nil]; exact .nil
  | w :: us, vs, n + 1, h => by
    obtain ⟨v', r, rfl, a, b⟩ := h.inv_cons
    exact RVs.drop n b
theorem RVs.reverse {K : PySem.W.Frag} {m : List Addr} {H : Hp} : ∀ {us : List U} {vs : List V}, RVs K m H us vs → RVs K m H us.reverse vs.reverse
  | [], vs, h => by rw [h.inv_nil]; exact .nil
  | w :: us, vs, h => by
    obtain ⟨v', r, rfl, a, b⟩ := h.inv_cons
    rw [List.reverse_cons, List.reverse_cons]
    exact (RVs.reverse b).append (.cons a .nil)
theorem RVs.eraseIdx {K : PySem.W.Frag} {m : List Addr} {H : Hp} : ∀ {us : List U} {vs : List V} (n : Nat), RVs K m H us vs → RVs K m H (us.eraseIdx n) (vs.eraseIdx n)
  | [], vs, n, h => by rw [h.inv_nil]; exact .nil
  | w :: us, vs, 0, h => by
    obtain ⟨v', r, rfl, a, b⟩ := h.inv_cons
    exact b
  | w :: us, vs, n + 1, h => by
    obtain ⟨v', r, rfl, a, b⟩ := h.inv_cons
    exact .cons a (RVs.eraseIdx n b)
theorem RVs.dropLast {K : PySem.W.Frag} {m : List Addr} {H : Hp} {us : List U} {vs : List V} (h : RVs K m H us vs) : RVs K m H us.dropLast vs.dropLast := by
  rw [List.dropLast_eq_take, List.dropLast_eq_take, ← h.length]
  exact h.take _

/-- attributes -/
def RF (K : PySem.W.Frag) (m : List Addr) (H : Hp) : List (Str × U) → List (Str × V) → Prop
  | [], vs => vs = []
  | p :: us, vs => ∃ v r, vs = (p.1, v) :: r ∧ RV K m H p.2 v ∧ RF K m H us r
theorem RF.mono {K : PySem.W.Frag} {m m1 : List Addr} {H H1 : Hp} (e : Ext m H m1 H1) : ∀ {us : List (Str × U)} {vs : List (Str × V)}, RF K m H us vs → RF K m1 H1 us vs
  | [], _, h => h
  | p :: us, _, ⟨v, r, e1, a, b⟩ => ⟨v, r, e1, a.mono e, RF.mono e b⟩

def RO (W : Wd) (m : List Addr) (H : Hp) (a : Addr) : O → Prop
  | .lst us => ∃ vs, H a = some (.lst vs) ∧ RVs W.K m H us vs
  | .fro us => ∃ vs, ((∃ o, H a = some (.frz o (.lst vs))) ∨ ∃ (o : Obj) (its : Array Value) (n : Nat), W.K.lookup a = some o ∧ o.cls = .type "list" ∧ o.dict = none ∧ o.data = .seq its n ∧ its.size ≤ sizeLine ∧ Vals vs its.toList) ∧ RVs W.K m H us vs
  | .ins c fs => ∃ dx vs, H a = some (.ins (W.ca c) dx vs) ∧ RF W.K m H fs vs

structure Rel (W : Wd) (m : List Addr) (h : Hb) (H : Hp) : Prop where
  len : m.length = h.length
  nd : ∀ (i j : Nat) (a : Addr), m[i]? = some a → m[j]? = some a → (∀ us, h[i]? ≠ some (.fro us)) → (∀ us, h[j]? ≠ some (.fro us)) → i = j
  at_ : ∀ (i : Nat) (o : O) (a : Addr), h[i]? = some o → m[i]? = some a → RO W m H a o

theorem Rel.addr {W : Wd} {m : List Addr} {h : Hb} {H : Hp} (r : Rel W m h H) {i : Nat} {o : O} (e : h[i]? = some o) : ∃ a, m[i]? = some a ∧ RO W m H a o := by
  have hi : i < h.length := (List.getElem?_eq_some_iff.mp e).1
  have hi' : i < m.length := by rw [r.len]; exact hi
  exact ⟨m[i], List.getElem?_eq_getElem hi', r.at_ i o _ e (List.getElem?_eq_getElem hi')⟩

/-- H is another heap, in which all that lay still lies -/
theorem RO.move {W : Wd} {m m1 : List Addr} {H H1 : Hp} {a : Addr} {o : O} (e : Ext m H m1 H1) (k : ∀ q, H a = some q → H1 a = some q) (h : RO W m H a o) : RO W m1 H1 a o := by
  cases o with
  | lst us =>
    obtain ⟨vs, h1, r⟩ := h
    exact ⟨vs, k _ h1, RVs.mono e us r⟩
  | fro us =>
    obtain ⟨vs, h1, r⟩ := h
    refine ⟨vs, ?_, RVs.mono e us r⟩
    rcases h1 with ⟨o, h1⟩ | h1
    · exact .inl ⟨o, k _ h1⟩
    · exact .inr h1
  | ins c fs =>
    obtain ⟨dx, vs, h1, r⟩ := h
    exact ⟨dx, vs, k _ h1, r.mono e⟩
/-- what is no locked list stands in H -/
theorem RO.some {W : Wd} {m : List Addr} {H : Hp} {a : Addr} {o : O} (h : RO W m H a o) (n : ∀ us, o ≠ .fro us) : ∃ q, H a = some q ∧ (∀ xs, q ≠ .tup xs) ∧ (∀ xs, q ≠ .xd xs) ∧ ∀ ob u, q ≠ .frz ob u := by
  cases o with
  | lst us => obtain ⟨vs, h1, r⟩ := h; exact ⟨_, h1, (by intro _ z; cases z), (by intro _ z; cases z), (by intro _ _ z; cases z)⟩
  | fro us => exact absurd rfl (n us)
  | ins c fs => obtain ⟨dx, vs, h1, r⟩ := h; exact ⟨_, h1, (by intro _ z; cases z), (by intro _ z; cases z), (by intro _ _ z; cases z)⟩

theorem ext_upd_new {m : List Addr} {H : Hp} {p : Addr} {o : HO} (hp : H p = none) (r : List Addr) : Ext m H (m ++ r) (upd H p o) :=
  ⟨⟨r, rfl⟩, fun a xs h => by rw [upd_ne (ne_of_none h hp)]; exact h, fun a xs h => by rw [upd_ne (ne_of_none h hp)]; exact h⟩
/-- a place changes its object, that is no tuple -/
theorem ext_upd_at {m : List Addr} {H : Hp} {p : Addr} {o q : HO} (hp : H p = some q) (hq : ∀ xs, q ≠ .tup xs) (hx : ∀ fs, q ≠ .xd fs) : Ext m H m (upd H p o) :=
  ⟨⟨[], by simp⟩, fun a xs h => by
    have : a ≠ p := fun z => by subst z; rw [hp] at h; cases h; exact hq _ rfl
    rw [upd_ne this]; exact h, fun a xs h => by
    have : a ≠ p := fun z => by subst z; rw [hp] at h; cases h; exact hx _ rfl
    rw [upd_ne this]; exact h⟩

/-- an object of no matter is laid: the places stay -/
theorem Rel.junk {W : Wd} {m : List Addr} {h : Hb} {H : Hp} (r : Rel W m h H) {p : Addr} {o : HO} (hp : H p = none) : Rel W m h (upd H p o) ∧ Ext m H m (upd H p o) := by
  have e : Ext m H m (upd H p o) := by simpa using ext_upd_new (m := m) (o := o) hp []
  refine ⟨⟨r.len, r.nd, fun i o a h1 h2 => (r.at_ i o a h1 h2).move e fun q hq => ?_⟩, e⟩
  rw [upd_ne (ne_of_none hq hp)]; exact hq

theorem get_snoc {α : Type} {l : List α} {x y : α} {i : Nat} (h : (l ++ [x])[i]? = some y) : l[i]? = some y ∨ (i = l.length ∧ x = y) := by
  rcases Nat.lt_trichotomy i l.length with c | c | c
  · rw [List.getElem?_append_left c] at h; exact .inl h
  · subst c; simp at h; exact .inr ⟨rfl, h⟩
  · rw [List.getElem?_eq_none (by simp; omega)] at h; cases h

/-- a new place -/
theorem Rel.alloc {W : Wd} {m : List Addr} {h : Hb} {H : Hp} (r : Rel W m h H) {p : Addr} {q : HO} {o : O} (hp : H p = none) (ho : ∀ m1 H1, Ext m H m1 H1 → H1 p = some q → RO W m1 H1 p o) :
    Rel W (m ++ [p]) (h ++ [o]) (upd H p q) ∧ Ext m H (m ++ [p]) (upd H p q) ∧ (m ++ [p])[h.length]? = some p := by
  have e : Ext m H (m ++ [p]) (upd H p q) := ext_upd_new hp [p]
  have hl := r.len
  refine ⟨⟨by simp [hl], fun i j a h1 h2 n1 n2 => ?_, fun i o' a h1 h2 => ?_⟩, e, by rw [← hl]; simp⟩
  · have key : ∀ k : Nat, (m ++ [p])[k]? = some p → (∀ us, (h ++ [o])[k]? ≠ some (.fro us)) → k = m.length := fun k hk n => by
      rcases get_snoc hk with c | ⟨c, _⟩
      · exfalso
        have lk : k < m.length := (List.getElem?_eq_some_iff.mp c).1
        have lk' : k < h.length := by rw [← hl]; exact lk
        have n' : ∀ us, h[k] ≠ .fro us := fun us z => n us (by rw [List.getElem?_append_left lk', List.getElem?_eq_getElem lk', z])
        obtain ⟨q', e', _⟩ := (r.at_ k h[k] p (List.getElem?_eq_getElem lk') c).some n'
        rw [hp] at e'; cases e'
      · exact c
    by_cases ap : a = p
    · subst ap; rw [key i h1 n1, key j h2 n2]
    · have g : ∀ k : Nat, (m ++ [p])[k]? = some a → (∀ us, (h ++ [o])[k]? ≠ some (.fro us)) → m[k]? = some a ∧ ∀ us, h[k]? ≠ some (.fro us) := fun k hk n => by
        rcases get_snoc hk with c | ⟨_, c⟩
        · refine ⟨c, fun us z => n us ?_⟩
          rw [List.getElem?_append_left (List.getElem?_eq_some_iff.mp z).1]; exact z
        · exact absurd c.symm ap
      exact r.nd i j a (g i h1 n1).1 (g j h2 n2).1 (g i h1 n1).2 (g j h2 n2).2
  · rcases get_snoc h1 with c | ⟨c, c2⟩
    · have lk : i < m.length := by rw [hl]; exact (List.getElem?_eq_some_iff.mp c).1
      rw [List.getElem?_append_left lk] at h2
      refine (r.at_ i o' a c h2).move e fun q' hq => ?_
      rw [upd_ne (ne_of_none hq hp)]; exact hq
    · subst c2
      have : a = p := by
        rw [c, ← hl] at h2; simp at h2; exact h2.symm
      subst this
      exact ho _ _ e upd_same

/-- a place is written -/
theorem Rel.write {W : Wd} {m : List Addr} {h : Hb} {H : Hp} (r : Rel W m h H) {k : Nat} {p : Addr} {o o' : O} {q : HO} (hk : h[k]? = some o) (hn : ∀ us, o ≠ .fro us) (hn' : ∀ us, o' ≠ .fro us) (hm : m[k]? = some p)
    (ho : ∀ m1 H1, Ext m H m1 H1 → H1 p = some q → RO W m1 H1 p o') : Rel W m (h.set k o') (upd H p q) ∧ Ext m H m (upd H p q) := by
  obtain ⟨q0, e0, t0, x0, f0⟩ := (r.at_ k o p hk hm).some hn
  have e : Ext m H m (upd H p q) := ext_upd_at e0 t0 x0
  have kl : k < h.length := (List.getElem?_eq_some_iff.mp hk).1
  refine ⟨⟨by simp [r.len], fun i j a h1 h2 n1 n2 => ?_, fun i o2 a h1 h2 => ?_⟩, e⟩
  · have g : ∀ i : Nat, (∀ us, (h.set k o')[i]? ≠ some (.fro us)) → ∀ us, h[i]? ≠ some (.fro us) := fun i n us z => by
      by_cases c : k = i
      · subst c; rw [hk] at z; exact hn us (Option.some.inj z)
      · exact n us (by rw [List.getElem?_set_ne c]; exact z)
    exact r.nd i j a h1 h2 (g i n1) (g j n2)
  · by_cases c : k = i
    · subst c
      rw [List.getElem?_set_self kl] at h1
      cases h1
      rw [hm] at h2; cases h2
      exact ho _ _ e upd_same
    · rw [List.getElem?_set_ne c] at h1
      have R := r.at_ i o2 a h1 h2
      by_cases ap : a = p
      · subst ap
        by_cases fr : ∃ us, o2 = .fro us
        · obtain ⟨us, rfl⟩ := fr
          obtain ⟨vs, h3, rr⟩ := R
          refine ⟨vs, ?_, RVs.mono e us rr⟩
          rcases h3 with ⟨ob, h3⟩ | h3
          · rw [e0] at h3; cases h3; exact absurd rfl (f0 _ _)
          · exact .inr h3
        · exact absurd (r.nd k i a hm h2 (fun us z => hn us (by rw [hk] at z; exact Option.some.inj z)) (fun us z => fr ⟨us, by rw [h1] at z; exact Option.some.inj z⟩)) c
      · exact R.move e fun q' hq => by rw [upd_ne ap]; exact hq

/-! ### slots -/
abbrev Sg := List (Option U)
def RS (K : PySem.W.Frag) (m : List Addr) (H : Hp) : Sg → L2.St → Prop
  | [], t => t = []
  | o :: s, t => ∃ v r, t = v :: r ∧ (∀ u, o = some u → ∃ x, v = some x ∧ RV K m H u x) ∧ RS K m H s r
theorem RS.mono {K : PySem.W.Frag} {m m1 : List Addr} {H H1 : Hp} (e : Ext m H m1 H1) : ∀ {s : Sg} {t : L2.St}, RS K m H s t → RS K m1 H1 s t
  | [], _, h => h
  | o :: s, _, ⟨v, r, e1, a, b⟩ => ⟨v, r, e1, fun u hu => let ⟨x, h1, h2⟩ := a u hu; ⟨x, h1, h2.mono e⟩, RS.mono e b⟩
theorem RS.get {K : PySem.W.Frag} {m : List Addr} {H : Hp} : ∀ {s : Sg} {t : L2.St} {i : Nat} {u : U}, RS K m H s t → s[i]? = some (some u) → ∃ x, t[i]? = some (some x) ∧ RV K m H u x
  | [], _, _, _, _, e => by simp at e
  | o :: s, _, 0, u, ⟨v, r, e1, a, b⟩, e => by
    simp at e; subst e; subst e1
    obtain ⟨x, rfl, h2⟩ := a u rfl
    exact ⟨x, rfl, h2⟩
  | o :: s, _, i + 1, u, ⟨v, r, e1, a, b⟩, e => by
    subst e1
    obtain ⟨x, h1, h2⟩ := RS.get (i := i) b (by simpa using e)
    exact ⟨x, by simpa using h1, h2⟩
theorem RS.set {K : PySem.W.Frag} {m : List Addr} {H : Hp} {u : U} {x : V} (q : RV K m H u x) : ∀ {s : Sg} {t : L2.St} (i : Nat), RS K m H s t → RS K m H (s.set i (some u)) (t.set i (some x))
  | [], _, i, h => by cases h; exact rfl
  | o :: s, _, 0, ⟨v, r, e1, a, b⟩ => by subst e1; exact ⟨_, _, rfl, fun u' hu => by cases hu; exact ⟨x, rfl, q⟩, b⟩
  | o :: s, _, i + 1, ⟨v, r, e1, a, b⟩ => by subst e1; exact ⟨_, _, rfl, a, RS.set q i b⟩
theorem RS.setN {K : PySem.W.Frag} {m : List Addr} {H : Hp} : ∀ {s : Sg} {t : L2.St} (i : Nat), RS K m H s t → RS K m H (s.set i none) (t.set i none)
  | [], _, i, h => by cases h; exact rfl
  | o :: s, _, 0, ⟨v, r, e1, a, b⟩ => by subst e1; exact ⟨_, _, rfl, (fun u' hu => nomatch hu), b⟩
  | o :: s, _, i + 1, ⟨v, r, e1, a, b⟩ => by subst e1; exact ⟨_, _, rfl, a, RS.setN i b⟩
def wipeG (s : Sg) : List Nat → Sg
  | [] => s
  | v :: vs => (wipeG s vs).set v none
theorem RS.wipe {K : PySem.W.Frag} {m : List Addr} {H : Hp} {s : Sg} {t : L2.St} (h : RS K m H s t) : ∀ vs : List Nat, RS K m H (wipeG s vs) (L2.wipe t vs)
  | [] => h
  | v :: vs => RS.setN v (RS.wipe h vs)
end Lz
namespace Lz
open PySem PySem.Spec PyProof.Rows L2

/-! results -/
structure Ex where
  c : Nat
  fs : List (Str × U)
inductive Res (α : Type) where
  | ok (a : α) (h : Hb)
  | ex (x : Ex) (h : Hb)
  | bad
def Res.bind {α β : Type} (r : Res α) (k : α → Hb → Res β) : Res β := match r with
  | .ok a h => k a h
  | .ex x h => .ex x h
  | .bad => .bad
/-- nothing may be raised -/
def Res.calm {α : Type} (r : Res α) : Res α := match r with
  | .ok a h => .ok a h
  | .ex _ _ => .bad
  | .bad => .bad
@[simp] theorem bind_ok {α β : Type} (a : α) (h : Hb) (k : α → Hb → Res β) : (Res.ok a h).bind k = k a h := rfl
@[simp] theorem bind_ex {α β : Type} (x : Ex) (h : Hb) (k : α → Hb → Res β) : (Res.ex x h).bind k = .ex x h := rfl
@[simp] theorem bind_bad {α β : Type} (k : α → Hb → Res β) : (Res.bad : Res α).bind k = .bad := rfl
@[simp] theorem calm_ok {α : Type} (a : α) (h : Hb) : (Res.ok a h).calm = .ok a h := rfl
@[simp] theorem calm_bad {α : Type} : (Res.bad : Res α).calm = .bad := rfl
def RX (W : Wd) (m : List Addr) (H : Hp) (x : Ex) (cls : Value) (d : Option Addr) : Prop :=
  cls = .ref (W.ca x.c) ∧ ((x.fs = [] ∧ d = none) ∨ ∃ dx vs, d = some dx ∧ H dx = some (.xd vs) ∧ RF W.K m H x.fs vs)

def Post {α β : Type} (W : Wd) (R : List Addr → Hp → α → β → Prop) (r : Res α) (m : List Addr) (H : Hp) (Q : β → Hp → Prop) (E : Value → Option Addr → Hp → Prop) : Prop := match r with
  | .ok u h' => ∀ m' H' v, Ext m H m' H' → Rel W m' h' H' → R m' H' u v → Q v H'
  | .ex x h' => ∀ m' H' c d, Ext m H m' H' → Rel W m' h' H' → RX W m' H' x c d → E c d H'
  | .bad => False
theorem Post.later {α β : Type} {W : Wd} {R : List Addr → Hp → α → β → Prop} {r : Res α} {m m1 : List Addr} {H H1 : Hp} {Q : β → Hp → Prop} {E : Value → Option Addr → Hp → Prop} (p : Post W R r m H Q E) (e : Ext m H m1 H1) : Post W R r m1 H1 Q E := by
  cases r with
  | ok u h' => exact fun m' H' v e' => p m' H' v (e.trans e')
  | ex x h' => exact fun m' H' c d e' => p m' H' c d (e.trans e')
  | bad => exact p
theorem Post.bind {α β γ δ : Type} {W : Wd} {R : List Addr → Hp → α → β → Prop} {R' : List Addr → Hp → γ → δ → Prop} {r : Res γ} {k : γ → Hb → Res α} {m : List Addr} {H : Hp} {Q : β → Hp → Prop} {E : Value → Option Addr → Hp → Prop}
    (p : Post W R (r.bind k) m H Q E) {Q' : δ → Hp → Prop} (f : ∀ u h1 m1 H1 v, r = .ok u h1 → Ext m H m1 H1 → Rel W m1 h1 H1 → R' m1 H1 u v → Post W R (k u h1) m1 H1 Q E → Q' v H1) : Post W R' r m H Q' E := by
  cases r with
  | ok u h' => exact fun m' H' v e rl rv => f u h' m' H' v rfl e rl rv (Post.later p e)
  | ex x h' => exact p
  | bad => exact p
/-- a plain answer -/
theorem Post.ok {α β : Type} {W : Wd} {R : List Addr → Hp → α → β → Prop} {u : α} {h : Hb} {m : List Addr} {H : Hp} {Q : β → Hp → Prop} {E : Value → Option Addr → Hp → Prop} (p : Post W R (.ok u h) m H Q E) (rl : Rel W m h H) {v : β} (rv : R m H u v) : Q v H :=
  p m H v (.refl m H) rl rv

def EvT (X : Cx) (e : Expr) : TE := fun t H Q => ∃ te, PE X e te ∧ te t H Q
theorem EvT.pe (X : Cx) (e : Expr) : PE X e (EvT X e) := ⟨fun pins s σ H Q I h => by obtain ⟨te, p, q⟩ := h; exact p.run pins s σ H Q I q⟩
def EvB (X : Cx) (e : Expr) : TT := fun t H Q => ∃ te, PT X e te ∧ te t H Q
theorem EvB.pt (X : Cx) (e : Expr) : PT X e (EvB X e) := ⟨fun pins s σ H Q I h => by obtain ⟨te, p, q⟩ := h; exact p.run pins s σ H Q I q⟩
def EvW (X : Cx) (e : Expr) : TT := fun t H Q => ∃ te, PW X e te ∧ te t H Q
theorem EvW.pw (X : Cx) (e : Expr) : PW X e (EvW X e) := ⟨fun wh pins s σ H Q I h => by obtain ⟨te, p, q⟩ := h; exact p.run wh pins s σ H Q I q⟩
def EvA (X : Cx) (e : List Expr) : TA := fun t H Q => ∃ te, PA X e te ∧ te t H Q
theorem EvA.pa (X : Cx) (e : List Expr) : PA X e (EvA X e) := ⟨fun pos pins s σ H Q I h => by obtain ⟨te, p, q⟩ := h; exact p.run pos pins s σ H Q I q⟩
def EvS (X : Cx) (e : Stmt) : TS := fun D t H => ∃ te, PS X e te ∧ te D t H
theorem EvS.ps (X : Cx) (e : Stmt) : PS X e (EvS X e) := ⟨fun pins s σ H D I h => by obtain ⟨te, p, q⟩ := h; exact p.run pins s σ H D I q⟩
def EvL (X : Cx) (e : List Stmt) : TS := fun D t H => ∃ te, PSs X e te ∧ te D t H
theorem EvL.pss (X : Cx) (e : List Stmt) : PSs X e (EvL X e) := ⟨fun pins s σ H D I h => by obtain ⟨te, p, q⟩ := h; exact p.run pins s σ H D I q⟩
def EvG (X : Cx) (e : Expr) : TG := fun v t H Q => ∃ te, PG X e te ∧ te v t H Q
theorem EvG.pg (X : Cx) (e : Expr) : PG X e (EvG X e) := ⟨fun pins s σ H v u Q I r h => by obtain ⟨te, p, q⟩ := h; exact p.run pins s σ H v u Q I r q⟩
def EvGs (X : Cx) (e : List Expr) : TGs := fun v t H Q => ∃ te, PGs X e te ∧ te v t H Q
theorem EvGs.pgs (X : Cx) (e : List Expr) : PGs X e (EvGs X e) := ⟨fun pins s σ H v u Q I r h => by obtain ⟨te, p, q⟩ := h; exact p.run pins s σ H v u Q I r q⟩
def EvI (X : Cx) (tg e : Expr) : TI := fun t H R => ∃ te, PI X tg e te ∧ te t H R
theorem EvI.pi (X : Cx) (tg e : Expr) : PI X tg e (EvI X tg e) := ⟨fun pins s σ H R I h => by obtain ⟨te, p, q⟩ := h; exact p.run pins s σ H R I q⟩

abbrev Ev := Sg → Hb → Res U
abbrev Eb := Sg → Hb → Res Bool
abbrev Ea := Sg → Hb → Res (List U)
abbrev REq (m : List Addr) (H : Hp) (a b : Bool) : Prop := b = a

structure SE (W : Wd) (X : Cx) (e : Expr) (f : Ev) : Prop where
  run : ∀ (w : WX), Takes X w → ∀ (σ : Sg) (h : Hb) (m : List Addr) (τ : L2.St) (H : Hp) (Q : VK), Rel W m h H → RS W.K m H σ τ → Post W (RV W.K) (f σ h) m H Q (fun c d H' => w c d τ H') → EvT X e τ H Q
structure SB (W : Wd) (X : Cx) (e : Expr) (f : Eb) : Prop where
  run : ∀ (w : WX), Takes X w → ∀ (σ : Sg) (h : Hb) (m : List Addr) (τ : L2.St) (H : Hp) (Q : Bool → Hp → Prop), Rel W m h H → RS W.K m H σ τ → Post W REq (f σ h) m H Q (fun c d H' => w c d τ H') → EvB X e τ H Q
structure SW (W : Wd) (X : Cx) (e : Expr) (f : Eb) : Prop where
  run : ∀ (w : WX), Takes X w → ∀ (σ : Sg) (h : Hb) (m : List Addr) (τ : L2.St) (H : Hp) (Q : Bool → Hp → Prop), Rel W m h H → RS W.K m H σ τ → Post W REq (f σ h) m H Q (fun c d H' => w c d τ H') → EvW X e τ H Q
structure SA (W : Wd) (X : Cx) (e : List Expr) (f : Ea) : Prop where
  run : ∀ (w : WX), Takes X w → ∀ (σ : Sg) (h : Hb) (m : List Addr) (τ : L2.St) (H : Hp) (Q : List V → Hp → Prop), Rel W m h H → RS W.K m H σ τ → Post W (RVs W.K) (f σ h) m H Q (fun c d H' => w c d τ H') → EvA X e τ H Q

/-! statements -/
inductive SR where
  | nx (s : Sg) (h : Hb) | rt (u : U) (h : Hb) | bk (s : Sg) (h : Hb) | ct (s : Sg) (h : Hb)
  | ex (x : Ex) (s : Sg) (h : Hb) | bad
abbrev Sv := Sg → Hb → SR
def Res.thn {α : Type} (r : Res α) (s : Sg) (k : α → Hb → SR) : SR := match r with
  | .ok a h => k a h
  | .ex x h => .ex x s h
  | .bad => .bad
def SR.thn (r : SR) (k : Sg → Hb → SR) : SR := match r with
  | .nx s h => k s h
  | .rt u h => .rt u h
  | .bk s h => .bk s h
  | .ct s h => .ct s h
  | .ex x s h => .ex x s h
  | .bad => .bad
@[simp] theorem thn_ok {α : Type} (a : α) (h : Hb) (s : Sg) (k : α → Hb → SR) : (Res.ok a h).thn s k = k a h := rfl
@[simp] theorem thn_ex {α : Type} (x : Ex) (h : Hb) (s : Sg) (k : α → Hb → SR) : (Res.ex x h).thn s k = .ex x s h := rfl
@[simp] theorem thn_bad {α : Type} (s : Sg) (k : α → Hb → SR) : (Res.bad : Res α).thn s k = .bad := rfl
@[simp] theorem sthn_nx (s : Sg) (h : Hb) (k : Sg → Hb → SR) : (SR.nx s h).thn k = k s h := rfl
@[simp] theorem sthn_rt (u : U) (h : Hb) (k : Sg → Hb → SR) : (SR.rt u h).thn k = .rt u h := rfl
@[simp] theorem sthn_bk (s : Sg) (h : Hb) (k : Sg → Hb → SR) : (SR.bk s h).thn k = .bk s h := rfl
@[simp] theorem sthn_ct (s : Sg) (h : Hb) (k : Sg → Hb → SR) : (SR.ct s h).thn k = .ct s h := rfl
@[simp] theorem sthn_ex (x : Ex) (s : Sg) (h : Hb) (k : Sg → Hb → SR) : (SR.ex x s h).thn k = .ex x s h := rfl
@[simp] theorem sthn_bad (k : Sg → Hb → SR) : (SR.bad).thn k = .bad := rfl
def PostS (W : Wd) (r : SR) (m : List Addr) (H : Hp) (D : Ends) (w : WX) : Prop := match r with
  | .nx s h => ∀ m' H' t, Ext m H m' H' → Rel W m' h H' → RS W.K m' H' s t → D.nx t H'
  | .rt u h => ∀ m' H' v, Ext m H m' H' → Rel W m' h H' → RV W.K m' H' u v → D.rt v H'
  | .bk s h => ∀ m' H' t, Ext m H m' H' → Rel W m' h H' → RS W.K m' H' s t → D.bk t H'
  | .ct s h => ∀ m' H' t, Ext m H m' H' → Rel W m' h H' → RS W.K m' H' s t → D.ct t H'
  | .ex x s h => ∀ m' H' c d t, Ext m H m' H' → Rel W m' h H' → RX W m' H' x c d → RS W.K m' H' s t → w c d t H'
  | .bad => False
theorem PostS.later {W : Wd} {r : SR} {m m1 : List Addr} {H H1 : Hp} {D : Ends} {w : WX} (p : PostS W r m H D w) (e : Ext m H m1 H1) : PostS W r m1 H1 D w := by
  cases r with
  | nx s h => exact fun m' H' v e' => p m' H' v (e.trans e')
  | rt u h => exact fun m' H' v e' => p m' H' v (e.trans e')
  | bk u h => exact fun m' H' v e' => p m' H' v (e.trans e')
  | ct u h => exact fun m' H' v e' => p m' H' v (e.trans e')
  | ex x s h => exact fun m' H' c d t e' => p m' H' c d t (e.trans e')
  | bad => exact p
structure SS (W : Wd) (X : Cx) (st : Stmt) (f : Sv) : Prop where
  run : ∀ (w : WX), Takes X w → ∀ (σ : Sg) (h : Hb) (m : List Addr) (τ : L2.St) (H : Hp) (D : Ends), Rel W m h H → RS W.K m H σ τ → PostS W (f σ h) m H D w → EvS X st D τ H
structure SL (W : Wd) (X : Cx) (st : List Stmt) (f : Sv) : Prop where
  run : ∀ (w : WX), Takes X w → ∀ (σ : Sg) (h : Hb) (m : List Addr) (τ : L2.St) (H : Hp) (D : Ends), Rel W m h H → RS W.K m H σ τ → PostS W (f σ h) m H D w → EvL X st D τ H
/-- an expression ahead in a statement -/
theorem PostS.ahead {α β : Type} {W : Wd} {R : List Addr → Hp → α → β → Prop} {r : Res α} {s : Sg} {k : α → Hb → SR} {m : List Addr} {H : Hp} {D : Ends} {w : WX} {t : L2.St} (rs : RS W.K m H s t)
    (p : PostS W (r.thn s k) m H D w) {Q' : β → Hp → Prop} (f : ∀ u h1 m1 H1 v, r = .ok u h1 → Ext m H m1 H1 → Rel W m1 h1 H1 → R m1 H1 u v → PostS W (k u h1) m1 H1 D w → Q' v H1) : Post W R r m H Q' (fun c d H' => w c d t H') := by
  cases r with
  | ok u h' => exact fun m' H' v e rl rv => f u h' m' H' v rfl e rl rv (PostS.later p e)
  | ex x h' => exact fun m' H' c d e rl rx => p m' H' c d t e rl rx (rs.mono e)
  | bad => exact p
/-- a statement ahead -/
theorem PostS.seq {W : Wd} {r : SR} {k : Sg → Hb → SR} {m : List Addr} {H : Hp} {D : Ends} {w : WX} (p : PostS W (r.thn k) m H D w) {N : L2.St → Hp → Prop}
    (f : ∀ s h1 m1 H1 t, r = .nx s h1 → Ext m H m1 H1 → Rel W m1 h1 H1 → RS W.K m1 H1 s t → PostS W (k s h1) m1 H1 D w → N t H1) : PostS W r m H { D with nx := N } w := by
  cases r with
  | nx s h => exact fun m' H' t e rl rs => f s h m' H' t rfl e rl rs (PostS.later p e)
  | rt u h => exact p
  | bk u h => exact p
  | ct u h => exact p
  | ex x s h => exact p
  | bad => exact p

/-! ### expressions -/
section
variable {W : Wd} {X : Cx} {a b c : Expr} {fa fb fc : Ev} {pos : Pos}

def eVar (i : Nat) : Ev := fun s h => match s[i]? with
  | some (some u) => .ok u h
  | _ => .bad
theorem se_var {i : Nat} {x : Str} (hN : X.N[i]? = some x) (hv : Vis X.env.scope x) (hd : (x == ("__debug__" : Str)) = false) (hcd : (x == ("__classdict__" : Str)) = false) : SE W X (.Name x pos) (eVar i) := by
  refine ⟨fun w tk σ h m τ H Q rl rs p => ⟨_, pe_var hN hv hd hcd, ?_⟩⟩
  unfold eVar at p
  cases e : σ[i]? with
  | none => rw [e] at p; exact p.elim
  | some o =>
    cases o with
    | none => rw [e] at p; exact p.elim
    | some u =>
      rw [e] at p
      obtain ⟨x, h1, h2⟩ := rs.get e
      exact ⟨x, h1, p.ok rl h2⟩
def eCon (u : U) : Ev := fun _ h => .ok u h
theorem se_int {i j} : SE W X (.Constant (.int i) j pos) (eCon (.int i)) := ⟨fun w tk σ h m τ H Q rl rs p => ⟨_, pe_int, p.ok rl (v := V.int i) (by simp [RV])⟩⟩
theorem se_bl {i j} : SE W X (.Constant (.bool i) j pos) (eCon (.bl i)) := ⟨fun w tk σ h m τ H Q rl rs p => ⟨_, pe_bl, p.ok rl (v := V.bl i) (by simp [RV])⟩⟩
theorem se_non {j} : SE W X (.Constant .none j pos) (eCon .non) := ⟨fun w tk σ h m τ H Q rl rs p => ⟨_, pe_non, p.ok rl (v := V.non) (by simp [RV])⟩⟩
theorem se_str {i j} : SE W X (.Constant (.str i) j pos) (eCon (.str i)) := ⟨fun w tk σ h m τ H Q rl rs p => ⟨_, pe_str, p.ok rl (v := V.str i) (by simp [RV])⟩⟩

/-! two values -/
abbrev G2 := U → U → Hb → Res U
/-- what an operation on values does, as HandS reads it -/
def Op2 (W : Wd) (r : R2) (g : G2) : Prop := ∀ (x y : U) (h : Hb) (m : List Addr) (H : Hp) (v u : V) (Q : VK) (E : Value → Option Addr → Hp → Prop), Rel W m h H → RV W.K m H x v → RV W.K m H y u → Post W (RV W.K) (g x y h) m H Q E → r v u H Q
def e2k (g : G2) (fb : Ev) (s : Sg) (x : U) (h : Hb) : Res U := (fb s h).bind (g x)
def e2 (g : G2) (fa fb : Ev) : Ev := fun s h => (fa s h).bind (e2k g fb s)
theorem two {r : R2} {g : G2} (o : Op2 W r g) (ha : SE W X a fa) (hb : SE W X b fb) {w : WX} (tk : Takes X w) {σ : Sg} {h : Hb} {m : List Addr} {τ : L2.St} {H : Hp} {Q : VK} (rl : Rel W m h H) (rs : RS W.K m H σ τ)
    (p : Post W (RV W.K) (e2 g fa fb σ h) m H Q (fun c d H' => w c d τ H')) : tOp r (EvT X a) (EvT X b) τ H Q := by
  refine ha.run w tk σ h m τ H _ rl rs (Post.bind p fun x h1 m1 H1 v _ e1 rl1 rv p1 => ?_)
  refine hb.run w tk σ h1 m1 τ H1 _ rl1 (rs.mono e1) (Post.bind p1 fun y h2 m2 H2 u _ e2 rl2 ru p2 => ?_)
  exact o x y h2 m2 H2 v u Q _ rl2 (RV.mono e2 x rv) ru p2
theorem se_bin {op : Operator} {r : R2} {g : G2} (ho : OpR X (binaryOp op) r) (o : Op2 W r g) (ha : SE W X a fa) (hb : SE W X b fb) : SE W X (.BinOp a op b pos) (e2 g fa fb) :=
  ⟨fun w tk σ h m τ H Q rl rs p => ⟨_, pe_op ho (EvT.pe X a) (EvT.pe X b), two o ha hb tk rl rs p⟩⟩
theorem se_cmp {op : CmpOp} {r : R2} {g : G2} (ho : OpR X (compareOp op) r) (o : Op2 W r g) (ha : SE W X a fa) (hb : SE W X b fb) (hm : behindInMarks op b = false) : SE W X (.Compare a [op] [b] pos) (e2 g fa fb) :=
  ⟨fun w tk σ h m τ H Q rl rs p => ⟨_, pe_cmpR ho (EvT.pe X a) (EvT.pe X b) hm, two o ha hb tk rl rs p⟩⟩
theorem se_ix {r : R2} {g : G2} (ho : IxR X r) (o : Op2 W r g) (ha : SE W X a fa) (hb : SE W X b fb) (hs : PlainIx b) : SE W X (.Subscript a b pos) (e2 g fa fb) :=
  ⟨fun w tk σ h m τ H Q rl rs p => ⟨_, pe_ix ho (EvT.pe X a) (EvT.pe X b) hs, two o ha hb tk rl rs p⟩⟩
/-- a bool that comes, as a test -/
def asBk (x : U) (h : Hb) : Res Bool := match x with
  | .bl k => .ok k h
  | _ => .bad
def asB (f : Ev) : Eb := fun s h => (f s h).bind asBk
theorem Post.asB {r : Res U} {m : List Addr} {H : Hp} {Q : Bool → Hp → Prop} {E : Value → Option Addr → Hp → Prop} (p : Post W REq (r.bind asBk) m H Q E) :
    Post W (RV W.K) r m H (fun x H' => ∃ k, x = .bl k ∧ Q k H') E := by
  refine Post.bind p fun x h1 m1 H1 v _ e rl rv p1 => ?_
  cases x with
  | bl k =>
    unfold RV at rv
    exact ⟨k, rv, p1.ok rl rfl⟩
  | _ => exact p1.elim
theorem sb_cmp {op : CmpOp} {r : R2} {g : G2} (ho : OpR X (compareOp op) r) (o : Op2 W r g) (ha : SE W X a fa) (hb : SE W X b fb) (hm : behindInMarks op b = false) : SB W X (.Compare a [op] [b] pos) (asB (e2 g fa fb)) :=
  ⟨fun w tk σ h m τ H Q rl rs p => ⟨_, pt_cmpR ho (EvT.pe X a) (EvT.pe X b) hm, two o ha hb tk rl rs (Post.asB p)⟩⟩
def ch3 (g' : G2) (fc : Ev) (s : Sg) (y z : U) (h : Hb) : Res U := match z with
  | .bl true => (fc s h).bind (g' y)
  | .bl false => .ok (.bl false) h
  | _ => .bad
def ch2 (g g' : G2) (fc : Ev) (s : Sg) (x y : U) (h : Hb) : Res U := (g x y h).bind (ch3 g' fc s y)
def ch1 (g g' : G2) (fb fc : Ev) (s : Sg) (x : U) (h : Hb) : Res U := (fb s h).bind (ch2 g g' fc s x)
def eChain (g g' : G2) (fa fb fc : Ev) : Ev := fun s h => (fa s h).bind (ch1 g g' fb fc s)
theorem chain {r r' : R2} {g g' : G2} (o : Op2 W r g) (o' : Op2 W r' g') (ha : SE W X a fa) (hb : SE W X b fb) (hc : SE W X c fc) {w : WX} (tk : Takes X w) {σ : Sg} {h : Hb} {m : List Addr} {τ : L2.St} {H : Hp} {Q : VK} (rl : Rel W m h H) (rs : RS W.K m H σ τ)
    (p : Post W (RV W.K) (eChain g g' fa fb fc σ h) m H Q (fun c d H' => w c d τ H')) : tChain r r' (EvT X a) (EvT X b) (EvT X c) τ H Q := by
  refine ha.run w tk σ h m τ H _ rl rs (Post.bind p fun x h1 m1 H1 v _ e1 rl1 rv p1 => ?_)
  refine hb.run w tk σ h1 m1 τ H1 _ rl1 (rs.mono e1) (Post.bind p1 fun y h2 m2 H2 u _ e2 rl2 ru p2 => ?_)
  refine o x y h2 m2 H2 v u _ _ rl2 (RV.mono e2 x rv) ru (Post.bind p2 fun z h3 m3 H3 zv _ e3 rl3 rz p3 => ?_)
  cases z with
  | bl k =>
    unfold RV at rz
    refine ⟨k, rz, ?_⟩
    cases k with
    | true =>
      rw [if_pos rfl]
      refine hc.run w tk σ h3 m3 τ H3 _ rl3 (rs.mono (e1.trans (e2.trans e3))) (Post.bind p3 fun q h4 m4 H4 qv _ e4 rl4 rq p4 => ?_)
      exact o' y q h4 m4 H4 u qv Q _ rl4 (RV.mono (e3.trans e4) y ru) rq p4
    | false =>
      rw [if_neg Bool.false_ne_true]
      exact p3.ok rl3 (v := V.bl false) (by simp [RV])
  | _ => exact p3.elim
theorem se_chain {op op' : CmpOp} {r r' : R2} {g g' : G2} (ho : OpR X (compareOp op) r) (ho' : OpR X (compareOp op') r') (o : Op2 W r g) (o' : Op2 W r' g') (ha : SE W X a fa) (hb : SE W X b fb) (hc : SE W X c fc) (hm : lastMarks [op, op'] [b, c] = false) :
    SE W X (.Compare a [op, op'] [b, c] pos) (eChain g g' fa fb fc) :=
  ⟨fun w tk σ h m τ H Q rl rs p => ⟨_, pe_chain ho ho' (EvT.pe X a) (EvT.pe X b) (EvT.pe X c) hm, chain o o' ha hb hc tk rl rs p⟩⟩
theorem sb_chain {op op' : CmpOp} {r r' : R2} {g g' : G2} (ho : OpR X (compareOp op) r) (ho' : OpR X (compareOp op') r') (o : Op2 W r g) (o' : Op2 W r' g') (ha : SE W X a fa) (hb : SE W X b fb) (hc : SE W X c fc) (hm : lastMarks [op, op'] [b, c] = false) :
    SB W X (.Compare a [op, op'] [b, c] pos) (asB (eChain g g' fa fb fc)) :=
  ⟨fun w tk σ h m τ H Q rl rs p => ⟨_, pt_chain ho ho' (EvT.pe X a) (EvT.pe X b) (EvT.pe X c) hm, chain o o' ha hb hc tk rl rs (Post.asB p)⟩⟩

/-! one value -/
abbrev G1 := U → Hb → Res U
def Op1 (W : Wd) (r : V → Hp → VK → Prop) (g : G1) : Prop := ∀ (x : U) (h : Hb) (m : List Addr) (H : Hp) (v : V) (Q : VK) (E : Value → Option Addr → Hp → Prop), Rel W m h H → RV W.K m H x v → Post W (RV W.K) (g x h) m H Q E → r v H Q
def e1 (g : G1) (fa : Ev) : Ev := fun s h => (fa s h).bind g
theorem se_un {op : UnaryOp} {r : V → Hp → VK → Prop} {g : G1} (ho : UnR X (unaryOp op) r) (o : Op1 W r g) (ha : SE W X a fa) : SE W X (.UnaryOp op a pos) (e1 g fa) :=
  ⟨fun w tk σ h m τ H Q rl rs p => ⟨_, pe_un ho (EvT.pe X a), ha.run w tk σ h m τ H _ rl rs (Post.bind p fun x h1 m1 H1 v _ e rl1 rv p1 => o x h1 m1 H1 v Q _ rl1 rv p1)⟩⟩

/-! tests -/
/-- a value's truth -/
def truU (h : Hb) : U → Option Bool
  | .non => some false
  | .bl b => some b
  | .int i => some (i != 0)
  | .str x => if x.length ≤ sizeLine then some (x.length != 0) else none
  | .tup xs => some (!xs.isEmpty)
  | .ref a => match h[a]? with
    | some (.lst xs) => some (!xs.isEmpty)
    | some (.fro xs) => some (!xs.isEmpty)
    | _ => none
def truK (x : U) (h : Hb) : Res Bool := match truU h x with
  | some k => .ok k h
  | none => .bad
def bTru (f : Ev) : Eb := fun s h => (f s h).bind truK
theorem RO.sql {m : List Addr} {H : Hp} {p : Addr} {us : List U} (h : RO W m H p (.lst us)) : ∃ vs, SqL W.K H p vs ∧ RVs W.K m H us vs := by
  obtain ⟨vs, h1, r⟩ := h
  exact ⟨vs, .inl (.inl h1), r⟩
theorem RO.sqf {m : List Addr} {H : Hp} {p : Addr} {us : List U} (h : RO W m H p (.fro us)) : ∃ vs, SqL W.K H p vs ∧ RVs W.K m H us vs := by
  obtain ⟨vs, h1, r⟩ := h
  refine ⟨vs, ?_, r⟩
  rcases h1 with ⟨o, h1⟩ | h1
  · exact .inl (.inr ⟨o, h1⟩)
  · exact .inr h1
theorem isEmpty_rvs {K : PySem.W.Frag} {m : List Addr} {H : Hp} {us : List U} {vs : List V} (r : RVs K m H us vs) : us.isEmpty = vs.isEmpty := by
  have := r.length
  cases us <;> cases vs <;> simp_all
theorem tru_rel {m : List Addr} {h : Hb} {H : Hp} (rl : Rel W m h H) {x : U} {v : V} (rv : RV W.K m H x v) {k : Bool} (e : truU h x = some k) : TruV W.K v H k := by
  cases x with
  | non => unfold RV at rv; subst rv; simp [truU] at e; exact e.symm ▸ rfl
  | bl b => unfold RV at rv; subst rv; simp [truU] at e; exact e.symm
  | int b => unfold RV at rv; subst rv; simp only [truU, Option.some.injEq] at e; exact e.symm
  | str b =>
    unfold RV at rv; subst rv
    simp only [truU] at e
    split at e
    · rename_i hl
      refine ⟨hl, ?_⟩
      have e' := Option.some.inj e
      rw [← e']
      cases b.length <;> simp
      omega
    · cases e
  | tup us =>
    unfold RV at rv
    obtain ⟨a, vs, rfl, t, r⟩ := rv
    simp only [truU, Option.some.injEq] at e
    refine .inr (.inl ⟨vs, t.sq, ?_⟩)
    rw [← e, isEmpty_rvs r]
  | ref i =>
    unfold RV at rv
    obtain ⟨a, rfl, hm⟩ := rv
    simp only [truU] at e
    cases q : h[i]? with
    | none => rw [q] at e; cases e
    | some o =>
      rw [q] at e
      cases o with
      | lst us =>
        obtain ⟨vs, sq, r⟩ := (rl.at_ i _ a q hm).sql
        refine .inl ⟨vs, sq, ?_⟩
        rw [← isEmpty_rvs r]; exact (Option.some.inj e).symm
      | fro us =>
        obtain ⟨vs, sq, r⟩ := (rl.at_ i _ a q hm).sqf
        refine .inl ⟨vs, sq, ?_⟩
        rw [← isEmpty_rvs r]; exact (Option.some.inj e).symm
      | ins c fs => cases e
theorem sb_tru (hK : X.K = W.K) (ha : SE W X a fa) (he : ∀ whole, isTrue a X.env whole = (do let v ← whole; standAt a.pos; holding [v] (truthy v))) : SB W X a (bTru fa) := by
  refine ⟨fun w tk σ h m τ H Q rl rs p => ⟨_, pt_truth (EvT.pe X a) he, ?_⟩⟩
  refine ha.run w tk σ h m τ H _ rl rs (Post.bind p fun x h1 m1 H1 v _ e rl1 rv p1 => ?_)
  unfold truK at p1
  cases q : truU h1 x with
  | none => rw [q] at p1; exact p1.elim
  | some k =>
    rw [q] at p1
    exact ⟨k, by rw [hK]; exact tru_rel rl1 rv q, p1.ok rl1 rfl⟩
def bNotk (k : Bool) (h : Hb) : Res Bool := .ok (!k) h
def bNot (f : Eb) : Eb := fun s h => (f s h).bind bNotk
theorem sb_not {f : Eb} (ha : SB W X a f) : SB W X (.UnaryOp .Not a pos) (bNot f) :=
  ⟨fun w tk σ h m τ H Q rl rs p => ⟨_, pt_not (EvB.pt X a), ha.run w tk σ h m τ H _ rl rs (Post.bind p fun x h1 m1 H1 v _ e rl1 rv p1 => by subst rv; exact p1.ok rl1 rfl)⟩⟩
def bAndk (g : Eb) (s : Sg) (k : Bool) (h : Hb) : Res Bool := match k with | true => g s h | false => .ok false h
def bAnd (f g : Eb) : Eb := fun s h => (f s h).bind (bAndk g s)
def bOrk (g : Eb) (s : Sg) (k : Bool) (h : Hb) : Res Bool := match k with | true => .ok true h | false => g s h
def bOr (f g : Eb) : Eb := fun s h => (f s h).bind (bOrk g s)
variable {rest : List Expr}
theorem sw_and1 {f : Eb} (ha : SB W X a f) : SW W X (.BoolOp .And [a] pos) f := ⟨fun w tk σ h m τ H Q rl rs p => ⟨_, pw_and1 (EvB.pt X a), ha.run w tk σ h m τ H _ rl rs p⟩⟩
theorem sw_or1 {f : Eb} (ha : SB W X a f) : SW W X (.BoolOp .Or [a] pos) f := ⟨fun w tk σ h m τ H Q rl rs p => ⟨_, pw_or1 (EvB.pt X a), ha.run w tk σ h m τ H _ rl rs p⟩⟩
theorem sw_and {f g : Eb} (ha : SB W X a f) (hb : SW W X (.BoolOp .And (b :: rest) pos) g) : SW W X (.BoolOp .And (a :: b :: rest) pos) (bAnd f g) := by
  refine ⟨fun w tk σ h m τ H Q rl rs p => ⟨_, pw_and (EvB.pt X a) (EvW.pw X _), ?_⟩⟩
  refine ha.run w tk σ h m τ H _ rl rs (Post.bind p fun x h1 m1 H1 v _ e rl1 rv p1 => ?_)
  subst rv
  cases v with
  | true => rw [if_pos rfl]; exact hb.run w tk σ h1 m1 τ H1 _ rl1 (rs.mono e) p1
  | false => rw [if_neg Bool.false_ne_true]; exact p1.ok rl1 rfl
theorem sw_or {f g : Eb} (ha : SB W X a f) (hb : SW W X (.BoolOp .Or (b :: rest) pos) g) : SW W X (.BoolOp .Or (a :: b :: rest) pos) (bOr f g) := by
  refine ⟨fun w tk σ h m τ H Q rl rs p => ⟨_, pw_or (EvB.pt X a) (EvW.pw X _), ?_⟩⟩
  refine ha.run w tk σ h m τ H _ rl rs (Post.bind p fun x h1 m1 H1 v _ e rl1 rv p1 => ?_)
  subst rv
  cases v with
  | true => rw [if_pos rfl]; exact p1.ok rl1 rfl
  | false => rw [if_neg Bool.false_ne_true]; exact hb.run w tk σ h1 m1 τ H1 _ rl1 (rs.mono e) p1
theorem SW.sb {f : Eb} (h : SW W X a f) : SB W X a f := ⟨fun w tk σ h' m τ H Q rl rs p => by
  obtain ⟨t, q, r⟩ := h.run w tk σ h' m τ H Q rl rs p
  exact ⟨t, q.pt, r⟩⟩
/-- and, or, not as values, by truth -/
def eAndk (g : Ev) (s : Sg) (x : U) (h : Hb) : Res U := match truU h x with | some true => g s h | some false => .ok x h | none => .bad
def eAnd (f g : Ev) : Ev := fun s h => (f s h).bind (eAndk g s)
def eOrk (g : Ev) (s : Sg) (x : U) (h : Hb) : Res U := match truU h x with | some true => .ok x h | some false => g s h | none => .bad
def eOr (f g : Ev) : Ev := fun s h => (f s h).bind (eOrk g s)
theorem se_one {op} (ha : SE W X a fa) : SE W X (.BoolOp op [a] pos) fa := ⟨fun w tk σ h m τ H Q rl rs p => ⟨_, pe_one (EvT.pe X a), ha.run w tk σ h m τ H _ rl rs p⟩⟩
theorem se_and (hK : X.K = W.K) (ha : SE W X a fa) (hb : SE W X (.BoolOp .And (b :: rest) pos) fb) : SE W X (.BoolOp .And (a :: b :: rest) pos) (eAnd fa fb) := by
  refine ⟨fun w tk σ h m τ H Q rl rs p => ⟨_, pe_andT (EvT.pe X a) (EvT.pe X _), ?_⟩⟩
  refine ha.run w tk σ h m τ H _ rl rs (Post.bind p fun x h1 m1 H1 v _ e rl1 rv p1 => ?_)
  unfold eAndk at p1
  cases q : truU h1 x with
  | none => rw [q] at p1; exact p1.elim
  | some k =>
    rw [q] at p1
    refine ⟨k, by rw [hK]; exact tru_rel rl1 rv q, ?_⟩
    cases k with
    | true => rw [if_pos rfl]; exact hb.run w tk σ h1 m1 τ H1 _ rl1 (rs.mono e) p1
    | false => rw [if_neg Bool.false_ne_true]; exact p1.ok rl1 rv
theorem se_or (hK : X.K = W.K) (ha : SE W X a fa) (hb : SE W X (.BoolOp .Or (b :: rest) pos) fb) : SE W X (.BoolOp .Or (a :: b :: rest) pos) (eOr fa fb) := by
  refine ⟨fun w tk σ h m τ H Q rl rs p => ⟨_, pe_orT (EvT.pe X a) (EvT.pe X _), ?_⟩⟩
  refine ha.run w tk σ h m τ H _ rl rs (Post.bind p fun x h1 m1 H1 v _ e rl1 rv p1 => ?_)
  unfold eOrk at p1
  cases q : truU h1 x with
  | none => rw [q] at p1; exact p1.elim
  | some k =>
    rw [q] at p1
    refine ⟨k, by rw [hK]; exact tru_rel rl1 rv q, ?_⟩
    cases k with
    | true => rw [if_pos rfl]; exact p1.ok rl1 rv
    | false => rw [if_neg Bool.false_ne_true]; exact hb.run w tk σ h1 m1 τ H1 _ rl1 (rs.mono e) p1
def eNotk (x : U) (h : Hb) : Res U := match truU h x with | some k => .ok (.bl (!k)) h | none => .bad
def eNot (f : Ev) : Ev := fun s h => (f s h).bind eNotk
theorem se_not (hK : X.K = W.K) (ha : SE W X a fa) : SE W X (.UnaryOp .Not a pos) (eNot fa) := by
  refine ⟨fun w tk σ h m τ H Q rl rs p => ⟨_, pe_notT (EvT.pe X a), ?_⟩⟩
  refine ha.run w tk σ h m τ H _ rl rs (Post.bind p fun x h1 m1 H1 v _ e rl1 rv p1 => ?_)
  unfold eNotk at p1
  cases q : truU h1 x with
  | none => rw [q] at p1; exact p1.elim
  | some k =>
    rw [q] at p1
    exact ⟨k, by rw [hK]; exact tru_rel rl1 rv q, p1.ok rl1 (v := V.bl (!k)) (by simp [RV])⟩
def eIfk (f g : Ev) (s : Sg) (k : Bool) (h : Hb) : Res U := match k with | true => f s h | false => g s h
def eIf (c : Eb) (f g : Ev) : Ev := fun s h => (c s h).bind (eIfk f g s)
theorem se_if {f : Eb} (hc : SB W X c f) (ha : SE W X a fa) (hb : SE W X b fb) : SE W X (.IfExp c a b pos) (eIf f fa fb) := by
  refine ⟨fun w tk σ h m τ H Q rl rs p => ⟨_, pe_ifExp (EvB.pt X c) (EvT.pe X a) (EvT.pe X b), ?_⟩⟩
  refine hc.run w tk σ h m τ H _ rl rs (Post.bind p fun x h1 m1 H1 v _ e rl1 rv p1 => ?_)
  subst rv
  cases v with
  | true => rw [if_pos rfl]; exact ha.run w tk σ h1 m1 τ H1 _ rl1 (rs.mono e) p1
  | false => rw [if_neg Bool.false_ne_true]; exact hb.run w tk σ h1 m1 τ H1 _ rl1 (rs.mono e) p1

/-! argument lists, displays -/
variable {es : List Expr} {fs : Ea}
def aNil : Ea := fun _ h => .ok [] h
def aC2 (x : U) (xs : List U) (h : Hb) : Res (List U) := .ok (x :: xs) h
def aC1 (g : Ea) (s : Sg) (x : U) (h : Hb) : Res (List U) := (g s h).bind (aC2 x)
def aCons (f : Ev) (g : Ea) : Ea := fun s h => (f s h).bind (aC1 g s)
theorem sa_nil : SA W X [] aNil := ⟨fun w tk σ h m τ H Q rl rs p => ⟨_, pa_nil, p.ok rl .nil⟩⟩
theorem sa_cons (ha : SE W X a fa) (hr : SA W X es fs) (hs : starEach (a :: es) X.env = (false, eval a X.env) :: starEach es X.env) : SA W X (a :: es) (aCons fa fs) := by
  refine ⟨fun w tk σ h m τ H Q rl rs p => ⟨_, pa_cons (EvT.pe X a) (EvA.pa X es) hs, ?_⟩⟩
  refine ha.run w tk σ h m τ H _ rl rs (Post.bind p fun x h1 m1 H1 v _ e1 rl1 rv p1 => ?_)
  refine hr.run w tk σ h1 m1 τ H1 _ rl1 (rs.mono e1) (Post.bind p1 fun xs h2 m2 H2 vs _ e2 rl2 rvs p2 => ?_)
  exact p2.ok rl2 (.cons (RV.mono e2 x rv) rvs)
def eTupk (xs : List U) (h : Hb) : Res U := if xs.length ≤ sizeLine then .ok (.tup xs) h else .bad
def eTup (g : Ea) : Ev := fun s h => (g s h).bind eTupk
def eLstk (xs : List U) (h : Hb) : Res U := if xs.length ≤ sizeLine then .ok (.ref h.length) (h ++ [.lst xs]) else .bad
def eLst (g : Ea) : Ev := fun s h => (g s h).bind eLstk
theorem se_tup {k} (ha : SA W X es fs) : SE W X (.Tuple es k pos) (eTup fs) := by
  refine ⟨fun w tk σ h m τ H Q rl rs p => ⟨_, pe_tup (EvA.pa X es), ?_⟩⟩
  refine ha.run w tk σ h m τ H _ rl rs (Post.bind p fun xs h1 m1 H1 vs _ e1 rl1 rvs p1 => ?_)
  unfold eTupk at p1
  split at p1
  · rename_i hl
    refine ⟨by rw [← rvs.length]; exact hl, fun q hq => ?_⟩
    obtain ⟨rl2, e2⟩ := rl1.junk (o := .tup vs) hq
    refine p1 m1 _ (.ref q) e2 rl2 ?_
    unfold RV
    exact ⟨q, vs, rfl, .inl upd_same, RVs.mono e2 xs rvs⟩
  · exact p1.elim
/-- a new list -/
theorem new_lst {h : Hb} {m : List Addr} {H : Hp} {us : List U} {vs : List V} {Q : VK} {E : Value → Option Addr → Hp → Prop} (rl : Rel W m h H) (rv : RVs W.K m H us vs)
    (p : Post W (RV W.K) (.ok (.ref h.length) (h ++ [.lst us])) m H Q E) : ∀ q, H q = none → Q (.ref q) (upd H q (.lst vs)) := fun q hq => by
  obtain ⟨rl2, e2, hm⟩ := rl.alloc (o := .lst us) (q := .lst vs) hq (fun m1 H1 e h1 => ⟨vs, h1, RVs.mono e us rv⟩)
  refine p _ _ (.ref q) e2 rl2 ?_
  unfold RV
  exact ⟨q, rfl, hm⟩
theorem se_lst (ha : SA W X es fs) : SE W X (.List es pos) (eLst fs) := by
  refine ⟨fun w tk σ h m τ H Q rl rs p => ⟨_, pe_lst (EvA.pa X es), ?_⟩⟩
  refine ha.run w tk σ h m τ H _ rl rs (Post.bind p fun xs h1 m1 H1 vs _ e1 rl1 rvs p1 => ?_)
  unfold eLstk at p1
  split at p1
  · rename_i hl
    exact ⟨by rw [← rvs.length]; exact hl, new_lst rl1 rvs p1⟩
  · exact p1.elim
end
end Lz
namespace Lz
open PySem PySem.Spec PyProof.Rows L2
open Classical

/-! ### statements -/
section
variable {W : Wd} {X : Cx} {a b c e : Expr} {fa fb fc fe : Ev} {pos : Pos} {st : Stmt} {rest : List Stmt} {f g : Sv}

def sNil : Sv := fun s h => .nx s h
def sSeq (f g : Sv) : Sv := fun s h => (f s h).thn g
theorem sl_nil : SL W X [] sNil := ⟨fun w tk σ h m τ H D rl rs p => ⟨_, pss_nil, p m H τ (.refl m H) rl rs⟩⟩
theorem sl_cons (h1 : SS W X st f) (h2 : SL W X rest g) : SL W X (st :: rest) (sSeq f g) :=
  ⟨fun w tk σ h m τ H D rl rs p => ⟨_, pss_cons (EvS.ps X st) (EvL.pss X rest), h1.run w tk σ h m τ H _ rl rs (PostS.seq p fun s h1 m1 H1 t _ e rl1 rs1 p1 => h2.run w tk s h1 m1 t H1 D rl1 rs1 p1)⟩⟩
theorem sl_one (h1 : SS W X st f) : SL W X [st] f :=
  ⟨fun w tk σ h m τ H D rl rs p => ⟨_, pss_one (EvS.ps X st), h1.run w tk σ h m τ H _ rl rs p⟩⟩
theorem ss_pass : SS W X (.Pass pos) sNil := ⟨fun w tk σ h m τ H D rl rs p => ⟨_, ps_pass, p m H τ (.refl m H) rl rs⟩⟩
def sBrk : Sv := fun s h => .bk s h
def sCnt : Sv := fun s h => .ct s h
theorem ss_break : SS W X (.Break pos) sBrk := ⟨fun w tk σ h m τ H D rl rs p => ⟨_, ps_break, p m H τ (.refl m H) rl rs⟩⟩
/-- a statement of which nothing is said (raise): a run that reaches it promises nothing -/
def sBad : Sv := fun _ _ => .bad
theorem ss_bad : SS W X st sBad := ⟨fun w tk σ h m τ H D rl rs p => p.elim⟩
theorem ss_continue : SS W X (.Continue pos) sCnt := ⟨fun w tk σ h m τ H D rl rs p => ⟨_, ps_continue, p m H τ (.refl m H) rl rs⟩⟩
theorem ss_doc {x j pos'} : SS W X (.Expr (.Constant (.str x) j pos) pos') sNil := ⟨fun w tk σ h m τ H D rl rs p => ⟨_, ps_doc, p m H τ (.refl m H) rl rs⟩⟩
def sExpk (s : Sg) (_ : U) (h : Hb) : SR := .nx s h
def sExp (f : Ev) : Sv := fun s h => (f s h).thn s (sExpk s)
theorem ss_expr (he : SE W X e fe) (hs : swapsWith e none pos.line X.env = pure false) : SS W X (.Expr e pos) (sExp fe) :=
  ⟨fun w tk σ h m τ H D rl rs p => ⟨_, ps_expr (EvT.pe X e) hs, he.run w tk σ h m τ H _ rl rs (PostS.ahead rs p fun u h1 m1 H1 v _ e rl1 rv p1 => p1 m1 H1 τ (.refl m1 H1) rl1 (rs.mono e))⟩⟩
def sRet (f : Ev) : Sv := fun s h => (f s h).thn s SR.rt
theorem ss_ret (he : SE W X e fe) : SS W X (.Return (some e) pos) (sRet fe) :=
  ⟨fun w tk σ h m τ H D rl rs p => ⟨_, ps_ret (EvT.pe X e), he.run w tk σ h m τ H _ rl rs (PostS.ahead rs p fun u h1 m1 H1 v _ e rl1 rv p1 => p1 m1 H1 v (.refl m1 H1) rl1 rv)⟩⟩
def sRetN : Sv := fun _ h => .rt .non h
theorem ss_retN : SS W X (.Return none pos) sRetN := ⟨fun w tk σ h m τ H D rl rs p => ⟨_, ps_retN, p m H .non (.refl m H) rl (by simp [RV])⟩⟩
def brS (f g : Sv) (s : Sg) (k : Bool) (h : Hb) : SR := match k with | true => f s h | false => g s h
def sIf (c : Eb) (f g : Sv) : Sv := fun s h => (c s h).thn s (brS f g s)
theorem ss_if {A B : List Stmt} {k : Eb} (hc : SB W X c k) (ha : SL W X A f) (hb : SL W X B g) : SS W X (.If c A B pos) (sIf k f g) := by
  refine ⟨fun w tk σ h m τ H D rl rs p => ⟨_, ps_if (EvB.pt X c) (EvL.pss X A) (EvL.pss X B), ?_⟩⟩
  refine hc.run w tk σ h m τ H _ rl rs (PostS.ahead rs p fun k h1 m1 H1 v _ e rl1 rv p1 => ?_)
  subst rv
  cases v with
  | true => rw [if_pos rfl]; exact ha.run w tk σ h1 m1 τ H1 D rl1 (rs.mono e) p1
  | false => rw [if_neg Bool.false_ne_true]; exact hb.run w tk σ h1 m1 τ H1 D rl1 (rs.mono e) p1

/-! targets -/
abbrev Tg := U → Sv
structure SG (W : Wd) (X : Cx) (t : Expr) (g : Tg) : Prop where
  run : ∀ (w : WX), Takes X w → ∀ (u : U) (v : V) (σ : Sg) (h : Hb) (m : List Addr) (τ : L2.St) (H : Hp) (Q : L2.St → Hp → Prop), Rel W m h H → RS W.K m H σ τ → RV W.K m H u v →
    PostS W (g u σ h) m H { nx := Q, rt := fun _ _ => False } w → EvG X t v τ H Q
structure SGs (W : Wd) (X : Cx) (t : List Expr) (g : List U → Sv) : Prop where
  run : ∀ (w : WX), Takes X w → ∀ (u : List U) (v : List V) (σ : Sg) (h : Hb) (m : List Addr) (τ : L2.St) (H : Hp) (Q : L2.St → Hp → Prop), Rel W m h H → RS W.K m H σ τ → RVs W.K m H u v →
    PostS W (g u σ h) m H { nx := Q, rt := fun _ _ => False } w → EvGs X t v τ H Q
def gNm (i : Nat) : Tg := fun u s h => .nx (s.set i (some u)) h
theorem sg_name {i : Nat} {x : Str} (hN : X.N.Nodup) (hi : X.N[i]? = some x) (hx : Loc X.env.scope x) (hf : X.fn x = true ∨ X.env.scope.names.lookup x = some .local) : SG W X (.Name x pos) (gNm i) :=
  ⟨fun w tk u v σ h m τ H Q rl rs rv p => ⟨_, pg_name hN hi hx hf, p m H _ (.refl m H) rl (RS.set rv i rs)⟩⟩
def gsNil : List U → Sv := fun us s h => match us with | [] => .nx s h | _ => .bad
def gsCons (g : Tg) (gs : List U → Sv) : List U → Sv := fun us s h => match us with | u :: r => (g u s h).thn (gs r) | [] => .bad
theorem sgs_nil : SGs W X [] gsNil := ⟨fun w tk u v σ h m τ H Q rl rs rv p => by
  cases u with
  | nil => rw [rv.inv_nil]; exact ⟨_, pgs_nil, rfl, p m H τ (.refl m H) rl rs⟩
  | cons _ _ => exact p.elim⟩
theorem sgs_cons {es : List Expr} {g : Tg} {gs : List U → Sv} (h1 : SG W X e g) (h2 : SGs W X es gs) (hs : (assignEach (e :: es) X.env).map (·.2) = assign e X.env :: (assignEach es X.env).map (·.2)) : SGs W X (e :: es) (gsCons g gs) := ⟨fun w tk u v σ h m τ H Q rl rs rv p => by
  cases u with
  | nil => exact p.elim
  | cons u r =>
    obtain ⟨x, y, rfl, a, b⟩ := rv.inv_cons
    refine ⟨_, pgs_cons (EvG.pg X e) (EvGs.pgs X es) hs, x, y, rfl, h1.run w tk u x σ h m τ H _ rl rs a ?_⟩
    exact PostS.seq p fun s1 h1 m1 H1 t _ e rl1 rs1 p1 => h2.run w tk r y s1 h1 m1 t H1 Q rl1 rs1 (RVs.mono e r b) p1⟩
def gTp (n : Nat) (gs : List U → Sv) : Tg := fun u s h => match u with | .tup us => if us.length = n then gs us s h else .bad | _ => .bad
theorem sg_tup {es : List Expr} {k : Nat} {gs : List U → Sv} {n : Nat} (hK : X.K = W.K) (hc : X.calm = true) (hg : SGs W X es gs) (hn : (assignEach es X.env).length = n) (hst : (assignEach es X.env).findIdx? (·.1) = none) : SG W X (.Tuple es k pos) (gTp n gs) := ⟨fun w tk u v σ h m τ H Q rl rs rv p => by
  cases u with
  | tup us =>
    unfold RV at rv
    obtain ⟨a, vs, rfl, t, r⟩ := rv
    simp only [gTp] at p
    split at p
    · rename_i hl
      exact ⟨_, pg_tup hc (EvGs.pgs X es) hn hst, a, vs, rfl, by rw [hK]; exact t.sq, by rw [← r.length]; exact hl, hg.run w tk us vs σ h m τ H Q rl rs r p⟩
    · exact p.elim
  | _ => exact p.elim⟩
/-- o[i] = v -/
abbrev G3 := U → U → U → Hb → Option Hb
def Op3 (W : Wd) (r : TSet) (g : G3) : Prop := ∀ (o i u : U) (h h' : Hb) (m : List Addr) (H : Hp) (ov iv v : V) (Q : Hp → Prop), g o i u h = some h' → Rel W m h H → RV W.K m H o ov → RV W.K m H i iv → RV W.K m H u v →
  (∀ m' H', Ext m H m' H' → Rel W m' h' H' → Q H') → r ov iv v H Q
def gI2 (g : G3) (u : U) (s : Sg) (o i : U) (h : Hb) : SR := match g o i u h with | some h3 => .nx s h3 | none => .bad
def gI1 (g : G3) (fi : Ev) (u : U) (s : Sg) (o : U) (h : Hb) : SR := (fi s h).thn s (gI2 g u s o)
def gIx (g : G3) (fo fi : Ev) : Tg := fun u s h => (fo s h).thn s (gI1 g fi u s)
theorem sg_sub {g : G3} {r : TSet} (hs : PSet X r) (og : Op3 W r g) (ha : SE W X a fa) (hb : SE W X b fb)
    (hh : ∀ v, assign (.Subscript a b pos) X.env v = (do
      let ov ← holding [v] (eval a X.env)
      let iv ← holding [v, ov] (eval b X.env)
      standAt pos
      holding [v, ov, iv] (setItem ov iv v)
      release [v, ov, iv] [])) : SG W X (.Subscript a b pos) (gIx g fa fb) := ⟨fun w tk u v σ h m τ H Q rl rs rv p => by
  refine ⟨_, pg_sub (EvT.pe X a) (EvT.pe X b) hs hh, ?_⟩
  refine ha.run w tk σ h m τ H _ rl rs (PostS.ahead rs p fun o h1 m1 H1 ov _ e1 rl1 ro p1 => ?_)
  refine hb.run w tk σ h1 m1 τ H1 _ rl1 (rs.mono e1) (PostS.ahead (rs.mono e1) p1 fun i h2 m2 H2 iv _ e2 rl2 ri p2 => ?_)
  unfold gI2 at p2
  cases q : g o i u h2 with
  | none => rw [q] at p2; exact p2.elim
  | some h3 =>
    rw [q] at p2
    exact og o i u h2 h3 m2 H2 ov iv v _ q rl2 (RV.mono e2 o ro) ri (RV.mono (e1.trans e2) u rv) fun m' H' e' rl' => p2 m' H' τ e' rl' (rs.mono (e1.trans (e2.trans e')))⟩
def sAsgk (g : Tg) (s : Sg) (u : U) (h : Hb) : SR := g u s h
def sAsg (f : Ev) (g : Tg) : Sv := fun s h => (f s h).thn s (sAsgk g s)
theorem PostS.tgt {r : SR} {m : List Addr} {H : Hp} {D : Ends} {w : WX} (p : PostS W r m H D w) (hr : ∀ u h, r ≠ .rt u h) (hb : ∀ u h, r ≠ .bk u h) (hc : ∀ u h, r ≠ .ct u h) : PostS W r m H { nx := D.nx, rt := fun _ _ => False } w := by
  cases r with
  | nx s h => exact p
  | rt u h => exact absurd rfl (hr u h)
  | bk u h => exact absurd rfl (hb u h)
  | ct u h => exact absurd rfl (hc u h)
  | ex x s h => exact p
  | bad => exact p
/-- a target only stores -/
def OnlyNx (g : Tg) : Prop := ∀ u s h, (∀ u' h', g u s h ≠ .rt u' h') ∧ (∀ u' h', g u s h ≠ .bk u' h') ∧ ∀ u' h', g u s h ≠ .ct u' h'
def OnlyNxs (g : List U → Sv) : Prop := ∀ u s h, (∀ u' h', g u s h ≠ .rt u' h') ∧ (∀ u' h', g u s h ≠ .bk u' h') ∧ ∀ u' h', g u s h ≠ .ct u' h'
theorem on_name {i : Nat} : OnlyNx (gNm i) := fun u s h => ⟨by simp [gNm], by simp [gNm], by simp [gNm]⟩
theorem on_nil : OnlyNxs gsNil := fun u s h => by cases u <;> simp [gsNil]
theorem on_cons {g : Tg} {gs : List U → Sv} (a : OnlyNx g) (b : OnlyNxs gs) : OnlyNxs (gsCons g gs) := fun u s h => by
  cases u with
  | nil => simp [gsCons]
  | cons u r =>
    have x := a u s h
    simp only [gsCons]
    cases q : g u s h with
    | nx s1 h1 => exact b r s1 h1
    | rt u h => rw [q] at x; exact absurd rfl (x.1 _ _)
    | bk u h => rw [q] at x; exact absurd rfl (x.2.1 _ _)
    | ct u h => rw [q] at x; exact absurd rfl (x.2.2 _ _)
    | ex x s h => simp [SR.thn]
    | bad => simp [SR.thn]
theorem on_tup {n : Nat} {gs : List U → Sv} (b : OnlyNxs gs) : OnlyNx (gTp n gs) := fun u s h => by
  cases u with
  | tup us =>
    simp only [gTp]
    split
    · exact b us s h
    · simp
  | _ => simp [gTp]
theorem on_ix {g : G3} {fo fi : Ev} : OnlyNx (gIx g fo fi) := fun u s h => by
  simp only [gIx]
  cases fo s h with
  | ok o h1 =>
    simp only [thn_ok, gI1]
    cases fi s h1 with
    | ok i h2 =>
      simp only [thn_ok, gI2]
      cases g o i u h2 <;> simp
    | ex x h => simp
    | bad => simp
  | ex x h => simp
  | bad => simp
theorem ss_asg {tg : Expr} {g : Tg} (he : SE W X e fe) (hg : SG W X tg g) (on : OnlyNx g) (hs : swapsWithSole [tg] e pos.line X.env = pure false) (hw : swappedStores [tg] e X.env = pure none)
    (h1 : (assignEach [tg] X.env).map (·.2) = [assign tg X.env]) : SS W X (.Assign [tg] e pos) (sAsg fe g) := by
  refine ⟨fun w tk σ h m τ H D rl rs p => ⟨_, ps_asg (EvT.pe X e) (EvG.pg X tg) hs hw h1, ?_⟩⟩
  refine he.run w tk σ h m τ H _ rl rs (PostS.ahead rs p fun u h1 m1 H1 v _ e rl1 rv p1 => ?_)
  have o := on u σ h1
  exact hg.run w tk u v σ h1 m1 τ H1 D.nx rl1 (rs.mono e) rv (p1.tgt o.1 o.2.1 o.2.2)
def sSetk (i : Nat) (s : Sg) (u : U) (h : Hb) : SR := .nx (s.set i (some u)) h
def sSet (i : Nat) (f : Ev) : Sv := fun s h => (f s h).thn s (sSetk i s)
theorem ss_set {i : Nat} {x : Str} {pos' : Pos} (hN : X.N.Nodup) (hi : X.N[i]? = some x) (hx : Loc X.env.scope x) (he : SE W X e fe) (hs : swapsWith e (some (.Name x pos')) pos.line X.env = pure false) (hf : X.fn x = true ∨ X.env.scope.names.lookup x = some .local) :
    SS W X (.Assign [.Name x pos'] e pos) (sSet i fe) := by
  refine ⟨fun w tk σ h m τ H D rl rs p => ⟨_, ps_set hN hi hx (EvT.pe X e) hs hf, ?_⟩⟩
  exact he.run w tk σ h m τ H _ rl rs (PostS.ahead rs p fun u h1 m1 H1 v _ e rl1 rv p1 => p1 m1 H1 _ (.refl m1 H1) rl1 (RS.set rv i (rs.mono e)))
/-- a, b = x, y -/
def sPark (i j : Nat) (s : Sg) (us : List U) (h : Hb) : SR := match us with | [x, y] => .nx ((s.set i (some x)).set j (some y)) h | _ => .bad
def sPar (i j : Nat) (f : Ea) : Sv := fun s h => (f s h).thn s (sPark i j s)
theorem ss_par {i j : Nat} {x y : Str} {fab : Ea} {px py pt : Pos} {kt k2 pt2} (hc : X.calm = true) (hN : X.N.Nodup) (hi : X.N[i]? = some x) (hj : X.N[j]? = some y) (hij : i ≠ j)
    (hx : X.env.scope.names.lookup x = some .local) (hy : X.env.scope.names.lookup y = some .local) (ha : SA W X [a, b] fab)
    (hw : swappedStores [.Tuple [.Name x px, .Name y py] kt pt] (.Tuple [a, b] k2 pt2) X.env = pure (some [x, y]))
    (hs : swapsWithSole [.Tuple [.Name x px, .Name y py] kt pt] (.Tuple [a, b] k2 pt2) pos.line X.env = pure false) :
    SS W X (.Assign [.Tuple [.Name x px, .Name y py] kt pt] (.Tuple [a, b] k2 pt2) pos) (sPar i j fab) := by
  refine ⟨fun w tk σ h m τ H D rl rs p => ⟨_, ps_par hc hN hi hj hij hx hy (EvA.pa X [a, b]) hw hs, ?_⟩⟩
  refine ha.run w tk σ h m τ H _ rl rs (PostS.ahead rs p fun us h1 m1 H1 v _ e rl1 rv p1 => ?_)
  match us, rv, p1 with
  | [x, y], rv, p1 =>
    obtain ⟨v1, r1, rfl, a1, b1⟩ := rv.inv_cons
    obtain ⟨v2, r2, rfl, a2, b2⟩ := b1.inv_cons
    rw [b2.inv_nil]
    exact ⟨v1, v2, rfl, p1 m1 H1 _ (.refl m1 H1) rl1 (RS.set a2 j (RS.set a1 i (rs.mono e)))⟩
  | [], _, p1 => exact p1.elim
  | [_], _, p1 => exact p1.elim
  | _ :: _ :: _ :: _, _, p1 => exact p1.elim
/-- x op= e -/
def sAugk (i : Nat) (g : G2) (s : Sg) (x y : U) (h : Hb) : SR := (g x y h).thn s (sSetk i s)
def sAug0 (i : Nat) (g : G2) (f : Ev) (s : Sg) (h : Hb) (o : Option (Option U)) : SR := match o with
  | some (some x) => (f s h).thn s (sAugk i g s x)
  | _ => .bad
def sAug (i : Nat) (g : G2) (f : Ev) : Sv := fun s h => sAug0 i g f s h s[i]?
theorem ss_aug {i : Nat} {x : Str} {op : Operator} {r : R2} {g : G2} {pos' : Pos} (hN : X.N.Nodup) (hi : X.N[i]? = some x) (hx : Loc X.env.scope x) (he : SE W X e fe) (ho : OpR X (inplaceOp op) r) (o : Op2 W r g) (hf : X.fn x = true ∨ X.env.scope.names.lookup x = some .local) :
    SS W X (.AugAssign (.Name x pos') op e pos) (sAug i g fe) := by
  refine ⟨fun w tk σ h m τ H D rl rs p => ?_⟩
  unfold sAug sAug0 at p
  split at p
  · rename_i x0 e0
    obtain ⟨v0, t0, rv0⟩ := rs.get e0
    refine ⟨_, ps_aug (ti := r) hN hi hx (EvT.pe X e) ho hf, v0, t0, ?_⟩
    refine he.run w tk σ h m τ H _ rl rs (PostS.ahead rs p fun y h1 m1 H1 v _ e1 rl1 rv p1 => ?_)
    refine o x0 y h1 m1 H1 v0 v _ (fun c d H' => w c d τ H') rl1 (RV.mono e1 x0 rv0) rv (PostS.ahead (rs.mono e1) p1 fun z h2 m2 H2 zv _ e2 rl2 rz p2 => ?_)
    exact p2 m2 H2 _ (.refl m2 H2) rl2 (RS.set rz i (rs.mono (e1.trans e2)))
  · exact p.elim

/-! ### loops -/
/-- what a loop does with a turn's end -/
def SR.lp (r : SR) (k : Sg → Hb → SR) : SR := match r with
  | .nx s h => k s h
  | .ct s h => k s h
  | .bk s h => .nx s h
  | .rt u h => .rt u h
  | .ex x s h => .ex x s h
  | .bad => .bad
@[simp] theorem lp_nx (s : Sg) (h : Hb) (k : Sg → Hb → SR) : (SR.nx s h).lp k = k s h := rfl
@[simp] theorem lp_ct (s : Sg) (h : Hb) (k : Sg → Hb → SR) : (SR.ct s h).lp k = k s h := rfl
@[simp] theorem lp_bk (s : Sg) (h : Hb) (k : Sg → Hb → SR) : (SR.bk s h).lp k = .nx s h := rfl
@[simp] theorem lp_rt (u : U) (h : Hb) (k : Sg → Hb → SR) : (SR.rt u h).lp k = .rt u h := rfl
@[simp] theorem lp_ex (x : Ex) (s : Sg) (h : Hb) (k : Sg → Hb → SR) : (SR.ex x s h).lp k = .ex x s h := rfl
@[simp] theorem lp_bad (k : Sg → Hb → SR) : (SR.bad).lp k = .bad := rfl
structure Src where
  xs : List U
  ok : Hb → Prop
/-- the iterator J yields what src says -/
structure ItOk (W : Wd) (src : Src) (m : List Addr) (H : Hp) (J : It) : Prop where
  go : ∀ i m1 h1 H1, Ext m H m1 H1 → Rel W m1 h1 H1 → src.ok h1 → i < src.xs.length → J.go i H1
  yld : ∀ i m1 h1 H1 x H', Ext m H m1 H1 → Rel W m1 h1 H1 → src.ok h1 → J.yld i H1 x H' → i < src.xs.length → ∃ u, src.xs[i]? = some u ∧ Rel W m1 h1 H' ∧ Ext m1 H1 m1 H' ∧ RV W.K m1 H' u x
  stop : ∀ m1 h1 H1, Ext m H m1 H1 → Rel W m1 h1 H1 → src.ok h1 → J.stop src.xs.length H1
abbrev Si := Sg → Hb → Res Src
def PostI (W : Wd) (r : Res Src) (m : List Addr) (H : Hp) (R : It → Hp → Prop) (E : Value → Option Addr → Hp → Prop) : Prop := match r with
  | .ok src h' => ∀ m' H' J, Ext m H m' H' → Rel W m' h' H' → ItOk W src m' H' J → R J H'
  | .ex x h' => ∀ m' H' c d, Ext m H m' H' → Rel W m' h' H' → RX W m' H' x c d → E c d H'
  | .bad => False
structure SI (W : Wd) (X : Cx) (tg iter : Expr) (f : Si) : Prop where
  run : ∀ (w : WX), Takes X w → ∀ (σ : Sg) (h : Hb) (m : List Addr) (τ : L2.St) (H : Hp) (R : It → Hp → Prop), Rel W m h H → RS W.K m H σ τ → PostI W (f σ h) m H R (fun c d H' => w c d τ H') → EvI X tg iter τ H R
noncomputable def forL (ok : Hb → Prop) (g : Tg) (b : Sv) : List U → Sv
  | [], s, h => if ok h then .nx s h else .bad
  | x :: xs, s, h => if ok h then ((g x s h).thn b).lp (forL ok g b xs) else .bad
noncomputable def sFork (g : Tg) (b : Sv) (s : Sg) (src : Src) (h : Hb) : SR := forL src.ok g b src.xs s h
noncomputable def sFor (f : Si) (g : Tg) (b : Sv) : Sv := fun s h => (f s h).thn s (sFork g b s)
theorem PostS.turn {r : SR} {k : Sg → Hb → SR} {m : List Addr} {H : Hp} {D : Ends} {w : WX} {N : L2.St → Hp → Prop} (p : PostS W (r.lp k) m H D w)
    (f : ∀ s h1 m1 H1 t, Ext m H m1 H1 → Rel W m1 h1 H1 → RS W.K m1 H1 s t → PostS W (k s h1) m1 H1 D w → N t H1) : PostS W r m H { D with nx := N, ct := N, bk := D.nx } w := by
  cases r with
  | nx s h => exact fun m' H' t e rl rs => f s h m' H' t e rl rs (PostS.later p e)
  | ct s h => exact fun m' H' t e rl rs => f s h m' H' t e rl rs (PostS.later p e)
  | rt u h => exact p
  | bk u h => exact p
  | ex x s h => exact p
  | bad => exact p
theorem ss_for {tg iter : Expr} {body : List Stmt} {fi : Si} {g : Tg} {fb : Sv} (hp : PassesOwn (model X.prog X.w) X.A X.env X.xe) (hc : X.calm = true) (hi : SI W X tg iter fi) (hg : SG W X tg g) (on : OnlyNx g) (hb : SL W X body fb)
    (hs : ∀ x, foldedSetIterable iter X.env x = pure x) : SS W X (.For tg iter body [] pos) (sFor fi g fb) := by
  refine ⟨fun w tk σ h m τ H D rl rs p => ⟨_, ps_for hp hc (EvI.pi X tg iter) (EvG.pg X tg) (EvL.pss X body) hs, ?_⟩⟩
  refine hi.run w tk σ h m τ H _ rl rs ?_
  unfold sFor at p
  cases q : fi σ h with
  | bad => rw [q] at p; exact p.elim
  | ex x h' => rw [q] at p; exact fun m' H' c d e rl' rx => p m' H' c d τ e rl' rx (rs.mono e)
  | ok src h0 =>
    rw [q] at p
    intro m0 H0 J e0 rl0 it
    have p0 : PostS W (forL src.ok g fb src.xs σ h0) m0 H0 D w := PostS.later p e0
    refine ⟨fun i k t H1 => ∃ m1 h1 s1, i ≤ src.xs.length ∧ k = src.xs.length - i ∧ Ext m0 H0 m1 H1 ∧ Rel W m1 h1 H1 ∧ RS W.K m1 H1 s1 t ∧ PostS W (forL src.ok g fb (src.xs.drop i) s1 h1) m1 H1 D w,
      ⟨src.xs.length, m0, h0, σ, Nat.zero_le _, by simp, .refl _ _, rl0, rs.mono e0, by simpa using p0⟩, ?_⟩
    rintro i k t H1 ⟨m1, h1, s1, hi1, rfl, e1, rl1, rs1, p1⟩
    by_cases hlt : i < src.xs.length
    · rw [List.drop_eq_getElem_cons hlt] at p1
      simp only [forL] at p1
      split at p1
      · rename_i hok
        refine .inr ⟨it.go i m1 h1 H1 e1 rl1 hok hlt, fun t' H' => ∃ m2 h2 s2, i + 1 ≤ src.xs.length ∧ Ext m0 H0 m2 H' ∧ Rel W m2 h2 H' ∧ RS W.K m2 H' s2 t' ∧ PostS W (forL src.ok g fb (src.xs.drop (i + 1)) s2 h2) m2 H' D w, fun t' H' ⟨m2, h2, s2, a1, a2, a3, a4, a5⟩ => ⟨src.xs.length - (i + 1), by omega, m2, h2, s2, a1, rfl, a2, a3, a4, a5⟩, fun x H' y => ?_⟩
        obtain ⟨u, hu, rl2, e2, rv2⟩ := it.yld i m1 h1 H1 x H' e1 rl1 hok y hlt
        have hu' : src.xs[i] = u := by rw [List.getElem?_eq_getElem hlt] at hu; exact Option.some.inj hu
        rw [hu'] at p1
        have o := on u s1 h1
        have pp := PostS.turn (N := fun t' H' => ∃ m2 h2 s2, i + 1 ≤ src.xs.length ∧ Ext m0 H0 m2 H' ∧ Rel W m2 h2 H' ∧ RS W.K m2 H' s2 t' ∧ PostS W (forL src.ok g fb (src.xs.drop (i + 1)) s2 h2) m2 H' D w) (PostS.later p1 e2)
          (fun s2 h2 m2 H2 t2 e3 rl3 rs3 p3 => ⟨m2, h2, s2, hlt, e1.trans (e2.trans e3), rl3, rs3, p3⟩)
        have pq := PostS.seq (N := fun t2 H2 => EvL X body { D with nx := fun t' H' => ∃ m2 h2 s2, i + 1 ≤ src.xs.length ∧ Ext m0 H0 m2 H' ∧ Rel W m2 h2 H' ∧ RS W.K m2 H' s2 t' ∧ PostS W (forL src.ok g fb (src.xs.drop (i + 1)) s2 h2) m2 H' D w, ct := fun t' H' => ∃ m2 h2 s2, i + 1 ≤ src.xs.length ∧ Ext m0 H0 m2 H' ∧ Rel W m2 h2 H' ∧ RS W.K m2 H' s2 t' ∧ PostS W (forL src.ok g fb (src.xs.drop (i + 1)) s2 h2) m2 H' D w, bk := D.nx } t2 H2) pp
          (fun s2 h2 m2 H2 t2 _ e3 rl3 rs3 p3 => hb.run w tk s2 h2 m2 t2 H2 _ rl3 rs3 p3)
        exact hg.run w tk u x s1 h1 m1 t H' _ rl2 (rs1.mono e2) rv2 (pq.tgt o.1 o.2.1 o.2.2)
      · exact p1.elim
    · have ei : i = src.xs.length := by omega
      subst ei
      rw [List.drop_length] at p1
      simp only [forL] at p1
      split at p1
      · rename_i hok
        exact .inl ⟨it.stop m1 h1 H1 e1 rl1 hok, p1 m1 H1 t (.refl _ _) rl1 rs1⟩
      · exact p1.elim

/-- while: so many turns -/
def whileN (c : Eb) (b : Sv) : Nat → Sg → Hb → Option SR
  | 0, _, _ => none
  | n + 1, s, h => match c s h with
    | .ok true h1 => match b s h1 with
      | .nx s2 h2 => whileN c b n s2 h2
      | .ct s2 h2 => whileN c b n s2 h2
      | .bk s2 h2 => some (.nx s2 h2)
      | r => some r
    | .ok false h1 => some (.nx s h1)
    | .ex x h1 => some (.ex x s h1)
    | .bad => some .bad
noncomputable def sWhile (c : Eb) (b : Sv) : Sv := fun s h => if hx : ∃ n r, whileN c b n s h = some r then (Classical.choose_spec hx |> fun _ => Classical.choose (Classical.choose_spec hx)) else .bad
theorem sWhile_spec {k : Eb} {b : Sv} {s : Sg} {h : Hb} (hx : sWhile k b s h ≠ .bad) : ∃ n, whileN k b n s h = some (sWhile k b s h) := by
  unfold sWhile at hx ⊢
  split
  · rename_i hy
    exact ⟨Classical.choose hy, Classical.choose_spec (Classical.choose_spec hy)⟩
  · rename_i hy
    rw [dif_neg hy] at hx
    exact absurd rfl hx
theorem whileN_mono {k : Eb} {b : Sv} : ∀ {n : Nat} {s : Sg} {h : Hb} {r : SR}, whileN k b n s h = some r → ∀ d, whileN k b (n + d) s h = some r
  | 0, _, _, _, e, _ => by cases e
  | n + 1, s, h, r, e, d => by
    rw [show n + 1 + d = (n + d) + 1 by omega]
    simp only [whileN] at e ⊢
    split at e
    · split at e
      · exact whileN_mono e d
      · exact whileN_mono e d
      · exact e
      · exact e
    · exact e
    · exact e
    · exact e
theorem sWhile_of {k : Eb} {b : Sv} {n : Nat} {s : Sg} {h : Hb} {r : SR} (e : whileN k b n s h = some r) : sWhile k b s h = r := by
  unfold sWhile
  have hx : ∃ n r, whileN k b n s h = some r := ⟨n, r, e⟩
  rw [dif_pos hx]
  have e2 := Classical.choose_spec (Classical.choose_spec hx)
  have a := whileN_mono e (Classical.choose hx)
  have a2 := whileN_mono e2 n
  rw [Nat.add_comm] at a2
  rw [a] at a2
  exact (Option.some.inj a2).symm
theorem ss_while {body : List Stmt} {k : Eb} {fb : Sv} (hp : PassesOwn (model X.prog X.w) X.A X.env X.xe) (hc : SB W X c k) (hb : SL W X body fb) : SS W X (.While c body [] pos) (sWhile k fb) := by
  refine ⟨fun w tk σ h m τ H D rl rs p => ⟨_, ps_while hp (EvB.pt X c) (EvL.pss X body), ?_⟩⟩
  have nb : sWhile k fb σ h ≠ .bad := fun z => by rw [z] at p; exact p
  obtain ⟨n, en⟩ := sWhile_spec nb
  refine ⟨fun n t H1 => ∃ m1 h1 s1 r, whileN k fb n s1 h1 = some r ∧ Rel W m1 h1 H1 ∧ RS W.K m1 H1 s1 t ∧ PostS W r m1 H1 D w, ⟨n, m, h, σ, _, en, rl, rs, p⟩, ?_⟩
  rintro n t H1 ⟨m1, h1, s1, r, e, rl1, rs1, p1⟩
  cases n with
  | zero => cases e
  | succ n =>
    simp only [whileN] at e
    cases q : k s1 h1 with
    | bad => rw [q] at e; cases e; exact p1.elim
    | ex x h2 => rw [q] at e; cases e; exact hc.run w tk s1 h1 m1 t H1 _ rl1 rs1 (by rw [q]; exact fun m' H' c d e rl' rx => p1 m' H' c d t e rl' rx (rs1.mono e))
    | ok kb h2 =>
      rw [q] at e
      refine hc.run w tk s1 h1 m1 t H1 _ rl1 rs1 ?_
      rw [q]
      intro m2 H2 v e2 rl2 rv
      have rv : v = kb := rv
      subst rv
      cases v with
      | false =>
        rw [if_neg Bool.false_ne_true]
        cases e
        exact p1 m2 H2 t e2 rl2 (rs1.mono e2)
      | true =>
        rw [if_pos rfl]
        refine ⟨fun t' H' => ∃ m3 h3 s3 r, whileN k fb n s3 h3 = some r ∧ Rel W m3 h3 H' ∧ RS W.K m3 H' s3 t' ∧ PostS W r m3 H' D w, fun t' H' z => ⟨n, by omega, z⟩, ?_⟩
        refine hb.run w tk s1 h2 m2 t H2 _ rl2 (rs1.mono e2) ?_
        simp only [] at e
        cases z : fb s1 h2 with
        | nx s3 h3 => rw [z] at e; exact fun m3 H3 t3 e3 rl3 rs3 => ⟨m3, h3, s3, r, e, rl3, rs3, PostS.later p1 (e2.trans e3)⟩
        | ct s3 h3 => rw [z] at e; exact fun m3 H3 t3 e3 rl3 rs3 => ⟨m3, h3, s3, r, e, rl3, rs3, PostS.later p1 (e2.trans e3)⟩
        | bk s3 h3 => rw [z] at e; cases e; exact PostS.later p1 e2
        | rt u h3 => rw [z] at e; cases e; exact PostS.later p1 e2
        | ex x s h3 => rw [z] at e; cases e; exact PostS.later p1 e2
        | bad => rw [z] at e; cases e; exact PostS.later p1 e2
end
end Lz
namespace HT
open PySem PySem.Spec PyProof.Rows L2
section
variable {prog : Program} {w : World} {A : Around} {E : Value → Shared → Prop} {s : Shared}
theorem adjust_rev (n : Nat) : Builtin.Slice.sliceAdjust none none (-1) (n : Int) = ((n : Int) - 1, -1) := by
  have h1 : ((-1 : Int) < 0) := by omega
  unfold Builtin.Slice.sliceAdjust
  simp only [h1, if_true]
theorem places_rev (n : Nat) : Builtin.Slice.slicePlaces ((n : Int) - 1) (-1) (-1) = n := by
  unfold Builtin.Slice.slicePlaces
  have h1 : ¬ ((-1 : Int) > 0) := by omega
  simp only [h1, if_false]
  rw [show (- -1 : Int) = 1 by decide, Int.ediv_one]
  split <;> omega
theorem sliceApplied_rev {sl : Addr} {vs : Value} {n : Nat} {Q : Int × Int × Nat → Shared → Prop} (hs : s.heap.IsSliceOf sl .none .none vs) (ps : IsPart vs (some (-1)))
    (h : Q ((n : Int) - 1, -1, n) s) : wpAny (model prog w) A (Builtin.Slice.sliceApplied (.ref sl) (pure (n : Int))) Q E s := by
  obtain ⟨os, hos, hcs, hds⟩ := id hs
  unfold Builtin.Slice.sliceApplied Builtin.Slice.sliceFields
  refine wpAny_bind (wpAny_bind (wpAny_field hos hds (x := .none) rfl (wpAny_bind (wpAny_field hos hds (x := .none) rfl (wpAny_bind (wpAny_field hos hds (x := vs) rfl (wpAny_pure ?_)))))))
  refine wpAny_bind (slicePart_ ps ?_)
  show wpAny _ _ (if ((-1 : Int) == 0) = true then _ else _) _ _ s
  rw [if_neg (by decide)]
  refine wpAny_bind (slicePart_ .none (wpAny_bind (slicePart_ .none (wpAny_bind (wpAny_pure ?_)))))
  show wpAny _ _ (match Builtin.Slice.sliceAdjust none none (-1) (n : Int) with | (lo, hi) => pure (lo, (-1 : Int), Builtin.Slice.slicePlaces lo hi (-1))) _ _ s
  rw [adjust_rev n]
  show wpAny _ _ (pure ((n : Int) - 1, (-1 : Int), Builtin.Slice.slicePlaces ((n : Int) - 1) (-1) (-1))) _ _ s
  rw [places_rev]
  exact wpAny_pure h
theorem fm_congr {α β : Type} {f g : α → Option β} : ∀ {l : List α}, (∀ x ∈ l, f x = g x) → l.filterMap f = l.filterMap g
  | [], _ => rfl
  | x :: l, h => by
    have h1 := h x (by simp)
    have h2 := fm_congr (l := l) fun y hy => h y (by simp [hy])
    rw [List.filterMap_cons, List.filterMap_cons, h1, h2]
theorem pick_rev (xs : Array Value) : ((List.range xs.size).filterMap fun (m : Nat) => xs[((xs.size : Int) - 1 + (m : Int) * (-1)).toNat]?).toArray = xs.toList.reverse.toArray := by
  have e : (List.range xs.size).filterMap (fun (m : Nat) => xs[((xs.size : Int) - 1 + (m : Int) * (-1)).toNat]?) = ((List.range xs.size).map fun k => xs.size - 1 - k).filterMap fun k => xs[k]? := by
    rw [List.filterMap_map]
    apply fm_congr
    intro m hm
    have := List.mem_range.mp hm
    have e1 : ((xs.size : Int) - 1 + (m : Int) * (-1)).toNat = xs.size - 1 - m := by omega
    simp only [Function.comp, e1]
  rw [e, PySem.W.krv_range, List.filterMap_reverse, PySem.W.krv_all]
theorem getItem_tuple_rev {t sl : Addr} {items : Array Value} {vs : Value} {Q : Value → Shared → Prop} (ht : IsTup s.heap t items) (hs : s.heap.IsSliceOf sl .none .none vs) (ps : IsPart vs (some (-1)))
    (h : Q (.ref s.heap.objs.size) { s with heap := s.heap.push { cls := .type "tuple", data := .seq items.toList.reverse.toArray } })
    (hsz : items.size ≤ sizeLine) : wpAny (model prog w) A (getItem (.ref t) (.ref sl)) Q E s := by
  have htake : sizeOk (.seq items.toList.reverse.toArray) := by
    show items.toList.reverse.toArray.size ≤ sizeLine
    rw [List.size_toArray, List.length_reverse, Array.length_toList]
    exact hsz
  obtain ⟨os, hos, hcs, hds⟩ := id hs
  have hTs : s.TypeIs (.ref sl) "slice" := ⟨os, hos, hcs⟩
  unfold getItem
  try with_reducible refine wpAny_holding ?_
  first | refine wpAny_bind (wpAny_pure ?_) | skip
  refine wpAny_bind (wpAny_sequenceKey ht.typeIs (by decide) ?_)
  refine wpAny_bind (wpAny_callSpecial?_slot (name := Str.ofString "__getitem__") ht.typeIs PyProof.Rows.slot_tuple_getitem
    (wpAny_call_entry PyProof.Rows.slot_tuple_getitem ht.typeIs entry_tuple_getitem ?_ (args_tuple_getitem _ _)))
  show wpAny _ _ (Builtin.Tuple.tupleItemsOf (.ref t) >>= _) _ _ s
  refine wpAny_bind (tupleItemsOf_ ht ?_)
  refine wpAny_bind (wpAny_typeOf hTs ?_)
  rw [if_pos (by decide)]
  refine wpAny_bind (sliceApplied_rev hs ps ?_)
  have hno : ¬ ((((items.size : Int) - 1) == 0 && (-1 : Int) == 1 && items.size == items.size) = true) := by
    simp
  show wpAny _ _ (if (((items.size : Int) - 1) == 0 && (-1 : Int) == 1 && items.size == items.size) = true then _ else _) _ _ s
  rw [if_neg hno, pick_rev]
  first
    | exact wpAny_bind (m := Builtin.Tuple.tupleExact _) (wpAny_newObj_type (wpAny_pure ⟨_, rfl, wpAny_pure h⟩) htake)
    | exact wpAny_bind (m := Builtin.Tuple.tupleExact _) (wpAny_newObj_type (wpAny_bind (wpAny_pure (wpAny_pure ⟨_, rfl, wpAny_pure h⟩))) htake)
    | exact wpAny_bind (wpAny_bind (m := Builtin.Tuple.tupleExact _) (wpAny_newObj_type (wpAny_pure (wpAny_pure ⟨_, rfl, wpAny_pure h⟩)) htake))
    | exact wpAny_bind (wpAny_bind (m := Builtin.Tuple.tupleExact _) (wpAny_newObj_type (wpAny_pure ⟨_, rfl, wpAny_pure h⟩) htake))
end
end HT
namespace L2
open PySem PySem.Spec PyProof.Rows
/-! ### xs[::-1] of a tuple or a list -/
def qRevA (K : PySem.W.Frag) (x : V) (H1 : Hp) (Q : VK) : Prop := (∃ a xs, x = .ref a ∧ SqL K H1 a xs ∧ ∀ p, H1 p = none → Q (.ref p) (upd H1 p (.lst xs.reverse))) ∨ (∃ a xs, x = .ref a ∧ SqT K H1 a xs ∧ ∀ p, H1 p = none → Q (.ref p) (upd H1 p (.tup xs.reverse)))
def tRevA (K : PySem.W.Frag) (te : TE) : TE := fun σ H Q => te σ H fun x H1 => qRevA K x H1 Q
variable {X : Cx}
theorem pe_revA {e : Expr} {te : TE} {k : Nat} {p1 p2 p3 pos : Pos} (he : PE X e te) : PE X (.Subscript e (.Slice none none (some (.UnaryOp .USub (.Constant (.int 1) k p1) p2)) p3) pos) (tRevA X.K te) := by
  refine ⟨fun pins s σ H Q I h => ?_⟩
  refine Subscript_ (thn (he.run pins s σ H _ I h) fun v s1 ⟨x, H1, I1, r1, q1⟩ => ?_)
  have hst : PO X (some (.UnaryOp .USub (.Constant (.int 1) k p1) p2)) (tPart (tUn (rU fun i => .int (-i)) (tC (.int 1)))) := po_some (pe_un un_neg pe_int)
  refine wpAny_Slice (thn (po_none.run pins s1 σ H1 (fun o H2 => o = none ∧ H2 = H1) I1 ⟨rfl, rfl⟩) fun vl s2 ⟨l, H2, I2, pl, el, e2⟩ => ?_)
  subst el e2
  refine thn (po_none.run pins s2 σ H2 (fun o H3 => o = none ∧ H3 = H2) I2 ⟨rfl, rfl⟩) fun vu s3 ⟨u, H3, I3, pu, eu, e3⟩ => ?_
  subst eu e3
  refine thn (hst.run pins s3 σ H3 (fun o H4 => o = some (-1) ∧ H4 = H3) I3 ⟨1, rfl, -1, rfl, rfl, rfl⟩) fun vs s4 ⟨o, H4, I4, ps, eo, e4⟩ => ?_
  subst eo e4
  have I5 : Inv X pins σ H4 { s4 with heap := s4.heap.push { cls := .type "slice", data := .fields #[vl, vu, vs] } } := I4.kept (t' := s4.toks) fun b ob q => Heap.get?_push_of_some _ q
  rcases q1 with ⟨a, xs, ex, hx, q⟩ | ⟨a, xs, ex, hx, q⟩
  · subst ex
    cases r1
    obtain ⟨its, r, ht, hz⟩ := I5.list hx
    have hlen := r.length
    show wpAny (model X.prog X.w) X.A (subscriptTail e (.Slice none none (some (.UnaryOp .USub (.Constant (.int 1) k p1) p2)) p3) (.ref a) (.ref s4.heap.objs.size)) (EP X pins σ Q) X.xe { s4 with heap := s4.heap.push { cls := .type "slice", data := .fields #[vl, vu, vs] } }
    refine tail_any (ops := [.ref a, .ref s4.heap.objs.size]) ht.isList.typeIs (PySem.slot_list_getitem.lookup) ?_ (by with_unfolding_all rfl)
    refine wpAny_getItem_list_slice ht.isList (Heap.IsSliceOf.new _ vl vu vs) pl pu ps (by decide) ?_ (by rw [List.size_toArray]; omega)
    rw [PySem.W.krv_pick]
    refine ⟨.ref _, _, I5.laid (t' := s4.toks) (o := .lst xs.reverse) (fun b ob q => Heap.get?_push_of_some _ q) (Nat.le_refl _) ?_, rfl, q _ (I5.hok.fresh (Nat.le_refl _))⟩
    exact ⟨by rw [List.length_reverse]; exact hz, _, 0, r.reverse, Heap.get?_push_size _ rfl⟩
  · subst ex
    cases r1
    cases pl
    cases pu
    obtain ⟨its, r, ht, hz⟩ := I5.tuple hx
    have hlen := r.length
    show wpAny (model X.prog X.w) X.A (subscriptTail e (.Slice none none (some (.UnaryOp .USub (.Constant (.int 1) k p1) p2)) p3) (.ref a) (.ref s4.heap.objs.size)) (EP X pins σ Q) X.xe { s4 with heap := s4.heap.push { cls := .type "slice", data := .fields #[.none, .none, vs] } }
    refine tail_any (ops := [.ref a, .ref s4.heap.objs.size]) ht.typeIs (PyProof.Rows.slot_tuple_getitem.lookup) ?_ (by with_unfolding_all rfl)
    refine HT.getItem_tuple_rev ht (Heap.IsSliceOf.new _ .none .none vs) ps ?_ (by rw [List.size_toArray]; omega)
    refine ⟨.ref _, _, I5.laid (t' := s4.toks) (o := .tup xs.reverse) (fun b ob q => Heap.get?_push_of_some _ q) (Nat.le_refl _) ?_, rfl, q _ (I5.hok.fresh (Nat.le_refl _))⟩
    exact ⟨by rw [List.length_reverse]; exact hz, _, r.reverse, IsTup.new _ _⟩
end L2
namespace Lz
open PySem PySem.Spec PyProof.Rows L2
open Classical

section
variable {W : Wd} {m : List Addr} {h : Hb} {H : Hp}
theorem RV.int_inv {i : Int} {v : V} (r : RV W.K m H (.int i) v) : v = .int i := by unfold RV at r; exact r
theorem RV.bl_inv {i : Bool} {v : V} (r : RV W.K m H (.bl i) v) : v = .bl i := by unfold RV at r; exact r
theorem RV.str_inv {i : Str} {v : V} (r : RV W.K m H (.str i) v) : v = .str i := by unfold RV at r; exact r
theorem RV.non_inv {v : V} (r : RV W.K m H .non v) : v = .non := by unfold RV at r; exact r
theorem RV.tup_inv {us : List U} {v : V} (r : RV W.K m H (.tup us) v) : ∃ a vs, v = .ref a ∧ TupAt W.K H a vs ∧ RVs W.K m H us vs := by unfold RV at r; exact r
theorem RV.ref_inv {i : Nat} {v : V} (r : RV W.K m H (.ref i) v) : ∃ a, v = .ref a ∧ m[i]? = some a := by unfold RV at r; exact r
theorem RV.mk_int (i : Int) : RV W.K m H (.int i) (.int i) := by unfold RV; rfl
theorem RV.mk_bl (i : Bool) : RV W.K m H (.bl i) (.bl i) := by unfold RV; rfl
theorem RV.mk_str (i : Str) : RV W.K m H (.str i) (.str i) := by unfold RV; rfl
theorem RV.mk_non : RV W.K m H .non .non := by unfold RV; rfl
theorem RV.mk_tup {us : List U} {a : Addr} {vs : List V} (t : TupAt W.K H a vs) (r : RVs W.K m H us vs) : RV W.K m H (.tup us) (.ref a) := by unfold RV; exact ⟨a, vs, rfl, t, r⟩
theorem Rel.lst (rl : Rel W m h H) {i : Nat} {us : List U} {v : V} (r : RV W.K m H (.ref i) v) (e : h[i]? = some (.lst us)) : ∃ a vs, v = .ref a ∧ m[i]? = some a ∧ H a = some (.lst vs) ∧ RVs W.K m H us vs := by
  obtain ⟨a, rfl, hm⟩ := r.ref_inv
  obtain ⟨vs, h1, h2⟩ := rl.at_ i _ a e hm
  exact ⟨a, vs, rfl, hm, h1, h2⟩

/-- the items of a list or a tuple -/
def seqU (h : Hb) : U → Option (List U)
  | .tup xs => some xs
  | .ref a => match h[a]? with
    | some (.lst xs) => some xs
    | some (.fro xs) => some xs
    | _ => none
  | _ => none
theorem Rel.seq (rl : Rel W m h H) {x : U} {us : List U} {v : V} (r : RV W.K m H x v) (e : seqU h x = some us) : ∃ a vs, v = .ref a ∧ (SqL W.K H a vs ∨ SqT W.K H a vs) ∧ RVs W.K m H us vs := by
  cases x with
  | tup xs =>
    simp [seqU] at e; subst e
    obtain ⟨a, vs, rfl, t, rr⟩ := r.tup_inv
    exact ⟨a, vs, rfl, .inr t.sq, rr⟩
  | ref i =>
    obtain ⟨a, rfl, hm⟩ := r.ref_inv
    simp only [seqU] at e
    cases q : h[i]? with
    | none => rw [q] at e; cases e
    | some o =>
      rw [q] at e
      cases o with
      | lst xs =>
        cases e
        obtain ⟨vs, sq, rr⟩ := (rl.at_ i _ a q hm).sql
        exact ⟨a, vs, rfl, .inl sq, rr⟩
      | fro xs =>
        cases e
        obtain ⟨vs, sq, rr⟩ := (rl.at_ i _ a q hm).sqf
        exact ⟨a, vs, rfl, .inl sq, rr⟩
      | ins c fs => cases e
  | _ => cases e
/-- a new tuple is answered -/
theorem new_tup {us : List U} {vs : List V} {Q : VK} {E : Value → Option Addr → Hp → Prop} (rl : Rel W m h H) (rv : RVs W.K m H us vs)
    (p : Post W (RV W.K) (.ok (.tup us) h) m H Q E) : ∀ q, H q = none → Q (.ref q) (upd H q (.tup vs)) := fun q hq => by
  obtain ⟨rl2, e2⟩ := rl.junk (o := .tup vs) hq
  exact p _ _ (.ref q) e2 rl2 (.mk_tup (.inl upd_same) (RVs.mono e2 us rv))
/-- a list is written -/
theorem put_lst {i : Nat} {us ws : List U} {xs : List V} {a : Addr} {u : U} {v : V} {Q : VK} {E : Value → Option Addr → Hp → Prop} (rl : Rel W m h H) (e : h[i]? = some (.lst us)) (hm : m[i]? = some a) (rw' : RVs W.K m H ws xs) (ru : RV W.K m H u v)
    (p : Post W (RV W.K) (.ok u (h.set i (.lst ws))) m H Q E) : Q v (upd H a (.lst xs)) := by
  obtain ⟨rl2, e2⟩ := rl.write (q := .lst xs) e (by intro _ z; cases z) (o' := .lst ws) (by intro _ z; cases z) hm (fun m1 H1 e h1 => ⟨xs, h1, RVs.mono e ws rw'⟩)
  exact p _ _ v e2 rl2 (RV.mono e2 u ru)
end

/-! ### numbers -/
def oI2 (c : Int → Int → Prop) [∀ i j, Decidable (c i j)] (f : Int → Int → Int) : G2 := fun x y h => match x, y with
  | .int i, .int j => if c i j then .ok (.int (f i j)) h else .bad
  | _, _ => .bad
theorem op_oI2 {W : Wd} {C : Int → Int → Prop} {c : Int → Int → Prop} [∀ i j, Decidable (c i j)] {g : Int → Int → V} {f : Int → Int → Int} (hc : ∀ i j, c i j → C i j ∧ g i j = .int (f i j)) : Op2 W (rI C g) (oI2 c f) := by
  intro x y h m H v u Q E rl rx ry p
  cases x with
  | int i =>
    cases y with
    | int j =>
      simp only [oI2] at p
      split at p
      · rename_i hh
        obtain ⟨h1, h2⟩ := hc i j hh
        exact ⟨i, j, rx.int_inv, ry.int_inv, h1, by rw [h2]; exact p.ok rl (.mk_int _)⟩
      · exact p.elim
    | _ => exact p.elim
  | _ => exact p.elim

def cMul (i j : Int) : Prop := (-18446744073709551616 < i ∧ i < 18446744073709551616) ∨ (-18446744073709551616 < j ∧ j < 18446744073709551616) ∨ i.natAbs.log2 + j.natAbs.log2 < 1000000
def cDiv (_ j : Int) : Prop := (j ≠ 0 ∧ -1073741824 < j ∧ j < 1073741824) ∨ (0 < j ∧ j.natAbs.log2 < 9000)
instance (i j : Int) : Decidable (cMul i j) := by unfold cMul; infer_instance
instance (i j : Int) : Decidable (cDiv i j) := by unfold cDiv; infer_instance
theorem cMul_r {i j : Int} (h1 : -18446744073709551616 < j) (h2 : j < 18446744073709551616) : cMul i j := .inr (.inl ⟨h1, h2⟩)
theorem cMul_l {i j : Int} (h1 : -18446744073709551616 < i) (h2 : i < 18446744073709551616) : cMul i j := .inl ⟨h1, h2⟩
theorem cDiv_r {i j : Int} (h0 : j ≠ 0) (h1 : -1073741824 < j) (h2 : j < 1073741824) : cDiv i j := .inl ⟨h0, h1, h2⟩
abbrev cMod (_ j : Int) : Prop := j ≠ 0
abbrev cPow (i j : Int) : Prop := 0 ≤ j ∧ j ≤ 1000000 ∧ i.natAbs < 18446744073709551616

/-- + -/
def vAdd : G2 := fun x y h => match x, y with
  | .int i, .int j => .ok (.int (i + j)) h
  | .str a, .str b => if a.length + b.length ≤ sizeLine then .ok (.str (a ++ b)) h else .bad
  | .tup a, .tup b => if a.length + b.length ≤ sizeLine then .ok (.tup (a ++ b)) h else .bad
  | .ref a, .ref b => match h[a]?, h[b]? with
    | some (.lst xs), some (.lst ys) => if xs.length + ys.length ≤ sizeLine then .ok (.ref h.length) (h ++ [.lst (xs ++ ys)]) else .bad
    | _, _ => .bad
  | _, _ => .bad
@[simp] theorem vAdd_int (i j : Int) (h : Hb) : vAdd (.int i) (.int j) h = .ok (.int (i + j)) h := rfl
@[simp] theorem vAdd_str (a b : Str) (h : Hb) : vAdd (.str a) (.str b) h = if a.length + b.length ≤ sizeLine then .ok (.str (a ++ b)) h else .bad := rfl
@[simp] theorem vAdd_tup (a b : List U) (h : Hb) : vAdd (.tup a) (.tup b) h = if a.length + b.length ≤ sizeLine then .ok (.tup (a ++ b)) h else .bad := rfl
def rAddA (K : PySem.W.Frag) : R2 := fun x y H Q => ((rI0 (fun i j => .int (i + j)) x y H Q ∨ (∃ i j, x = .str i ∧ y = .str j ∧ i.length + j.length ≤ sizeLine ∧ Q (.str (i ++ j)) H)) ∨ rCatA K x y H Q) ∨ rCat x y H Q
theorem op_addA {X : Cx} : OpR X (binaryOp .Add) (rAddA X.K) := (((op_add.or op_add_str).or op_catA).or op_cat)
theorem o_add {W : Wd} : Op2 W (rAddA W.K) vAdd := by
  intro x y h m H v u Q E rl rx ry p
  cases x with
  | int i =>
    cases y with
    | int j => exact .inl (.inl (.inl ⟨i, j, rx.int_inv, ry.int_inv, p.ok rl (.mk_int _)⟩))
    | _ => exact p.elim
  | str i =>
    cases y with
    | str j =>
      simp only [vAdd_str] at p
      split at p
      · rename_i hh
        exact .inl (.inl (.inr ⟨i, j, rx.str_inv, ry.str_inv, hh, p.ok rl (.mk_str _)⟩))
      · exact p.elim
    | _ => exact p.elim
  | tup a =>
    cases y with
    | tup b =>
      simp only [vAdd_tup] at p
      split at p
      · rename_i hh
        obtain ⟨pa, va, rfl, ta, ra⟩ := rx.tup_inv
        obtain ⟨pb, vb, rfl, tb, rb⟩ := ry.tup_inv
        refine .inl (.inr ⟨pa, pb, va, vb, rfl, rfl, ta.sq, tb.sq, by rw [← ra.length, ← rb.length]; exact hh, fun z => ?_, fun _ z => ?_, fun _ _ => new_tup rl (ra.append rb) p⟩)
        · subst z
          have : a = [] := by cases a with | nil => rfl | cons _ _ => exact absurd ra.length (by simp)
          subst this
          exact p.ok rl ry
        · subst z
          have : b = [] := by cases b with | nil => rfl | cons _ _ => exact absurd rb.length (by simp)
          subst this
          rw [List.append_nil] at p
          exact p.ok rl rx
      · exact p.elim
    | _ => exact p.elim
  | ref i =>
    cases y with
    | ref j =>
      simp only [vAdd] at p
      split at p
      · rename_i xs ys e1 e2
        split at p
        · rename_i hh
          obtain ⟨pa, va, rfl, ma, ha, ra⟩ := rl.lst rx e1
          obtain ⟨pb, vb, rfl, mb, hb, rb⟩ := rl.lst ry e2
          exact .inr ⟨pa, pb, va, vb, rfl, rfl, ha, hb, by rw [← ra.length, ← rb.length]; exact hh, new_lst rl (ra.append rb) p⟩
        · exact p.elim
      · exact p.elim
    | _ => exact p.elim
  | _ => exact p.elim

def vSub : G2 := oI2 (fun _ _ => True) (fun i j => i - j)
@[simp] theorem vSub_int (i j : Int) (h : Hb) : vSub (.int i) (.int j) h = .ok (.int (i - j)) h := by simp [vSub, oI2]
theorem op_subA {X : Cx} : OpR X (binaryOp .Sub) (rI (fun _ _ => True) fun i j => .int (i - j)) := opI fun _ _ _ _ _ _ _ _ q => sub_int q
theorem o_sub {W : Wd} : Op2 W (rI (fun _ _ => True) fun i j => .int (i - j)) vSub := op_oI2 fun i j _ => ⟨trivial, rfl⟩

/-- * -/
def vMul : G2 := fun x y h => match x, y with
  | .int i, .int j => if cMul i j then .ok (.int (i * j)) h else .bad
  | .ref a, .int k => match h[a]? with
    | some (.lst xs) => if -9223372036854775808 ≤ k ∧ k < 9223372036854775808 ∧ xs.length * k.toNat ≤ sizeLine then .ok (.ref h.length) (h ++ [.lst (List.replicate k.toNat xs).flatten]) else .bad
    | _ => .bad
  | _, _ => .bad
@[simp] theorem vMul_of {i j : Int} {h : Hb} (e : cMul i j) : vMul (.int i) (.int j) h = .ok (.int (i * j)) h := if_pos e
theorem vMul_int (i j : Int) (h : Hb) : vMul (.int i) (.int j) h = if cMul i j then .ok (.int (i * j)) h else .bad := rfl
def rMulA : R2 := fun x y H Q => (rI CMul (fun i j => .int (i * j)) x y H Q ∨ rI CMulW (fun i j => .int (i * j)) x y H Q) ∨ rRep x y H Q
theorem op_mulA {X : Cx} : OpR X (binaryOp .Mult) rMulA := ((op_mul.or op_mulW).or op_rep)
theorem RVs.rep {K : PySem.W.Frag} {m : List Addr} {H : Hp} {us : List U} {vs : List V} (r : RVs K m H us vs) : ∀ k : Nat, RVs K m H (List.replicate k us).flatten (List.replicate k vs).flatten
  | 0 => .nil
  | k + 1 => by
    rw [List.replicate_succ, List.replicate_succ, List.flatten_cons, List.flatten_cons]
    exact r.append (RVs.rep r k)
theorem o_mul {W : Wd} : Op2 W rMulA vMul := by
  intro x y h m H v u Q E rl rx ry p
  cases x with
  | int i =>
    cases y with
    | int j =>
      simp only [vMul_int] at p
      split at p
      · rename_i hh
        have q := p.ok rl (RV.mk_int (i * j))
        rcases hh with hh | hh | hh
        · exact .inl (.inl ⟨i, j, rx.int_inv, ry.int_inv, .inl (by omega), q⟩)
        · exact .inl (.inl ⟨i, j, rx.int_inv, ry.int_inv, .inr (by omega), q⟩)
        · exact .inl (.inr ⟨i, j, rx.int_inv, ry.int_inv, hh, q⟩)
      · exact p.elim
    | _ => exact p.elim
  | ref i =>
    cases y with
    | int k =>
      simp only [vMul] at p
      split at p
      · rename_i xs e1
        split at p
        · rename_i hh
          obtain ⟨pa, va, rfl, ma, ha, ra⟩ := rl.lst rx e1
          exact .inr ⟨pa, k, va, rfl, ry.int_inv, ha, by omega, by omega, by rw [← ra.length]; exact hh.2.2, new_lst rl (ra.rep k.toNat) p⟩
        · exact p.elim
      · exact p.elim
    | _ => exact p.elim
  | _ => exact p.elim

def vDiv : G2 := oI2 cDiv (fun i j => i.fdiv j)
@[simp] theorem vDiv_of {i j : Int} {h : Hb} (e : cDiv i j) : vDiv (.int i) (.int j) h = .ok (.int (i.fdiv j)) h := if_pos e
theorem vDiv_int (i j : Int) (h : Hb) : vDiv (.int i) (.int j) h = if cDiv i j then .ok (.int (i.fdiv j)) h else .bad := rfl
def rDivA : R2 := fun x y H Q => rI CDivN (fun i j => .int (i.fdiv j)) x y H Q ∨ rI CDivW (fun i j => .int (i / j)) x y H Q
theorem op_divA {X : Cx} : OpR X (binaryOp .FloorDiv) rDivA := op_fdivN.or op_fdivW
theorem o_div {W : Wd} : Op2 W rDivA vDiv := by
  intro x y h m H v u Q E rl rx ry p
  cases x with
  | int i =>
    cases y with
    | int j =>
      simp only [vDiv_int] at p
      split at p
      · rename_i hh
        have q := p.ok rl (RV.mk_int (i.fdiv j))
        rcases hh with hh | hh
        · exact .inl ⟨i, j, rx.int_inv, ry.int_inv, ⟨hh.1, by omega⟩, q⟩
        · exact .inr ⟨i, j, rx.int_inv, ry.int_inv, hh, by show Q (V.int (i / j)) H; rw [← Int.fdiv_eq_ediv_of_nonneg i (by omega)]; exact q⟩
      · exact p.elim
    | _ => exact p.elim
  | _ => exact p.elim
def vMod : G2 := oI2 cMod (fun i j => i.fmod j)
@[simp] theorem vMod_of {i j : Int} {h : Hb} (e : j ≠ 0) : vMod (.int i) (.int j) h = .ok (.int (i.fmod j)) h := if_pos e
theorem vMod_int (i j : Int) (h : Hb) : vMod (.int i) (.int j) h = if j ≠ 0 then .ok (.int (i.fmod j)) h else .bad := rfl
theorem o_mod {W : Wd} : Op2 W (rI (fun _ j => j ≠ 0) fun i j => .int (i.fmod j)) vMod := op_oI2 fun i j hh => ⟨hh, rfl⟩
def vPow : G2 := oI2 cPow (fun i j => i ^ j.toNat)
@[simp] theorem vPow_int (i j : Int) (h : Hb) : vPow (.int i) (.int j) h = if 0 ≤ j ∧ j ≤ 1000000 ∧ i.natAbs < 18446744073709551616 then .ok (.int (i ^ j.toNat)) h else .bad := rfl
theorem o_pow {W : Wd} : Op2 W (rI CPow fun i j => .int (i ^ j.toNat)) vPow := op_oI2 fun i j hh => ⟨hh, rfl⟩
def vNeg : G1 := fun x h => match x with | .int i => .ok (.int (-i)) h | _ => .bad
@[simp] theorem vNeg_int (i : Int) (h : Hb) : vNeg (.int i) h = .ok (.int (-i)) h := rfl
theorem o_neg {W : Wd} : Op1 W (rU fun i => .int (-i)) vNeg := by
  intro x h m H v Q E rl rx p
  cases x with
  | int i => exact ⟨i, rx.int_inv, p.ok rl (.mk_int _)⟩
  | _ => exact p.elim

/-! ### comparisons -/
def vCmp (c : Int → Int → Bool) : G2 := fun x y h => match x, y with
  | .int i, .int j => .ok (.bl (c i j)) h
  | _, _ => .bad
@[simp] theorem vCmp_int (c : Int → Int → Bool) (i j : Int) (h : Hb) : vCmp c (.int i) (.int j) h = .ok (.bl (c i j)) h := rfl
theorem o_cmp {W : Wd} {c : Int → Int → Bool} : Op2 W (rI0 fun i j => .bl (c i j)) (vCmp c) := by
  intro x y h m H v u Q E rl rx ry p
  cases x with
  | int i =>
    cases y with
    | int j => exact ⟨i, j, rx.int_inv, ry.int_inv, p.ok rl (.mk_bl _)⟩
    | _ => exact p.elim
  | _ => exact p.elim
abbrev vLt : G2 := vCmp fun i j => decide (i < j)
abbrev vLe : G2 := vCmp fun i j => decide (i ≤ j)
abbrev vGt : G2 := vCmp fun i j => decide (j < i)
abbrev vGe : G2 := vCmp fun i j => decide (j ≤ i)

/-! data -/
def mapO {α β : Type} (f : α → Option β) : List α → Option (List β)
  | [] => some []
  | x :: xs => match f x, mapO f xs with
    | some y, some ys => some (y :: ys)
    | _, _ => none
def toD (h : Hb) : Nat → U → Option PyData
  | _, .non => some .none
  | _, .bl b => some (.bool b)
  | _, .int i => some (.int i)
  | _, .str x => some (.str x)
  | n + 1, .tup xs => (mapO (toD h n) xs).map .tuple
  | n + 1, .ref a => match h[a]? with
    | some (.lst xs) => (mapO (toD h n) xs).map .list
    | some (.fro xs) => (mapO (toD h n) xs).map .list
    | _ => none
  | 0, _ => none
theorem dp_all {W : Wd} {m : List Addr} {h : Hb} {H : Hp} {f : U → Option PyData} (hf : ∀ u v d, RV W.K m H u v → f u = some d → Dp W.K H v d) : ∀ {us : List U} {vs : List V} {ds : List PyData}, RVs W.K m H us vs → mapO f us = some ds → DpAll W.K H vs ds
  | [], _, _, r, e => by cases e; rw [r.inv_nil]; exact .nil
  | u :: us, _, ds, r, e => by
    obtain ⟨v, q, rfl, a, b⟩ := r.inv_cons
    simp only [mapO] at e
    split at e
    · rename_i y ys e1 e2
      cases e
      exact .cons (hf _ _ _ a e1) (dp_all (h := h) hf b e2)
    · cases e
theorem toD_dp {W : Wd} {m : List Addr} {h : Hb} {H : Hp} (rl : Rel W m h H) : ∀ (n : Nat) (u : U) (v : V) (d : PyData), RV W.K m H u v → toD h n u = some d → Dp W.K H v d
  | _, .non, v, d, r, e => by unfold toD at e; cases e; rw [r.non_inv]; exact .non
  | _, .bl b, v, d, r, e => by unfold toD at e; cases e; rw [r.bl_inv]; exact .bl b
  | _, .int i, v, d, r, e => by unfold toD at e; cases e; rw [r.int_inv]; exact .int i
  | _, .str x, v, d, r, e => by unfold toD at e; cases e; rw [r.str_inv]; exact .str x
  | n + 1, .tup xs, v, d, r, e => by
    unfold toD at e
    obtain ⟨a, vs, rfl, t, rr⟩ := r.tup_inv
    cases q : mapO (toD h n) xs with
    | none => rw [q] at e; cases e
    | some ds => rw [q] at e; cases e; exact .tup t.sq (dp_all (h := h) (toD_dp rl n) rr q)
  | n + 1, .ref i, v, d, r, e => by
    unfold toD at e
    obtain ⟨a, rfl, hm⟩ := r.ref_inv
    split at e
    · rename_i xs q0
      obtain ⟨vs, sq, rr⟩ := (rl.at_ i _ a q0 hm).sql
      cases q : mapO (toD h n) xs with
      | none => rw [q] at e; cases e
      | some ds => rw [q] at e; cases e; exact .lst sq (dp_all (h := h) (toD_dp rl n) rr q)
    · rename_i xs q0
      obtain ⟨vs, sq, rr⟩ := (rl.at_ i _ a q0 hm).sqf
      cases q : mapO (toD h n) xs with
      | none => rw [q] at e; cases e
      | some ds => rw [q] at e; cases e; exact .lst sq (dp_all (h := h) (toD_dp rl n) rr q)
    · cases e
  | 0, .tup _, _, _, _, e => by unfold toD at e; cases e
  | 0, .ref _, _, _, _, e => by unfold toD at e; cases e
/-- == -/
def eqU (h : Hb) : U → U → Option Bool
  | .int i, .int j => some (decide (i = j))
  | .bl i, .bl j => some (decide (i = j))
  | .str i, .str j => some (decide (i = j))
  | .non, .non => some true
  | .non, .int _ => some false
  | .int _, .non => some false
  | .non, .str _ => some false
  | .str _, .non => some false
  | .non, .bl _ => some false
  | .bl _, .non => some false
  | .int _, .str _ => some false
  | .str _, .int _ => some false
  | x, y => match toD h 60 x, toD h 60 y with
    | some d, some e => if SeqAt.shaped d = true ∧ SeqAt.shaped e = true then some (PyData.eqv d e) else none
    | _, _ => none
def rEqA (K : PySem.W.Frag) : R2 := fun x y H Q => rEq x y H Q ∨ rEqD K x y H Q
def rNeA (K : PySem.W.Frag) : R2 := fun x y H Q => rNe x y H Q ∨ rNeD K x y H Q
theorem op_eqA {X : Cx} (hu : X.A.units + 64 < cLine) : OpR X (compareOp .Eq) (rEqA X.K) := op_eq.or (op_eqD hu)
theorem op_neA {X : Cx} (hu : X.A.units + 64 < cLine) : OpR X (compareOp .NotEq) (rNeA X.K) := op_ne.or (op_neD hu)
theorem eqU_rel {W : Wd} {m : List Addr} {h : Hb} {H : Hp} (rl : Rel W m h H) {x y : U} {v u : V} (rx : RV W.K m H x v) (ry : RV W.K m H y u) {b : Bool} (e : eqU h x y = some b) :
    (scal v u = true ∧ b = decide (v = u)) ∨ ∃ d d', Dp W.K H v d ∧ Dp W.K H u d' ∧ SeqAt.shaped d = true ∧ SeqAt.shaped d' = true ∧ b = PyData.eqv d d' := by
  have deep : (match toD h 60 x, toD h 60 y with
    | some d, some e => if SeqAt.shaped d = true ∧ SeqAt.shaped e = true then some (PyData.eqv d e) else none
    | _, _ => none) = some b → (scal v u = true ∧ b = decide (v = u)) ∨ ∃ d d', Dp W.K H v d ∧ Dp W.K H u d' ∧ SeqAt.shaped d = true ∧ SeqAt.shaped d' = true ∧ b = PyData.eqv d d' := fun e => by
    split at e
    · rename_i d d' e1 e2
      split at e
      · rename_i hs
        cases e
        exact .inr ⟨d, d', toD_dp rl 60 x v d rx e1, toD_dp rl 60 y u d' ry e2, hs.1, hs.2, rfl⟩
      · cases e
    · cases e
  unfold eqU at e
  split at e
  · rw [rx.int_inv, ry.int_inv]; exact .inl ⟨rfl, by rw [← Option.some.inj e]; simp⟩
  · rw [rx.bl_inv, ry.bl_inv]; exact .inl ⟨rfl, by rw [← Option.some.inj e]; simp⟩
  · rw [rx.str_inv, ry.str_inv]; exact .inl ⟨rfl, by rw [← Option.some.inj e]; simp⟩
  · rw [rx.non_inv, ry.non_inv]; refine .inr ⟨.none, .none, .non, .non, rfl, rfl, ?_⟩; rw [← Option.some.inj e]; rfl
  · rw [rx.non_inv, ry.int_inv]; exact .inl ⟨rfl, by rw [← Option.some.inj e]; simp⟩
  · rw [rx.int_inv, ry.non_inv]; exact .inl ⟨rfl, by rw [← Option.some.inj e]; simp⟩
  · rw [rx.non_inv, ry.str_inv]; exact .inl ⟨rfl, by rw [← Option.some.inj e]; simp⟩
  · rw [rx.str_inv, ry.non_inv]; exact .inl ⟨rfl, by rw [← Option.some.inj e]; simp⟩
  · rw [rx.non_inv, ry.bl_inv]; exact .inl ⟨rfl, by rw [← Option.some.inj e]; simp⟩
  · rw [rx.bl_inv, ry.non_inv]; exact .inl ⟨rfl, by rw [← Option.some.inj e]; simp⟩
  · rw [rx.int_inv, ry.str_inv]; exact .inl ⟨rfl, by rw [← Option.some.inj e]; simp⟩
  · rw [rx.str_inv, ry.int_inv]; exact .inl ⟨rfl, by rw [← Option.some.inj e]; simp⟩
  · exact deep e
def vEq : G2 := fun x y h => match eqU h x y with | some b => .ok (.bl b) h | none => .bad
def vNe : G2 := fun x y h => match eqU h x y with | some b => .ok (.bl (!b)) h | none => .bad
@[simp] theorem vEq_int (i j : Int) (h : Hb) : vEq (.int i) (.int j) h = .ok (.bl (decide (i = j))) h := rfl
@[simp] theorem vNe_int (i j : Int) (h : Hb) : vNe (.int i) (.int j) h = .ok (.bl (!decide (i = j))) h := rfl
@[simp] theorem vEq_str (i j : Str) (h : Hb) : vEq (.str i) (.str j) h = .ok (.bl (decide (i = j))) h := rfl
@[simp] theorem vNe_str (i j : Str) (h : Hb) : vNe (.str i) (.str j) h = .ok (.bl (!decide (i = j))) h := rfl
@[simp] theorem vEq_bl (i j : Bool) (h : Hb) : vEq (.bl i) (.bl j) h = .ok (.bl (decide (i = j))) h := rfl
@[simp] theorem vNe_bl (i j : Bool) (h : Hb) : vNe (.bl i) (.bl j) h = .ok (.bl (!decide (i = j))) h := rfl
theorem o_eq {W : Wd} : Op2 W (rEqA W.K) vEq := by
  intro x y h m H v u Q E rl rx ry p
  unfold vEq at p
  cases q : eqU h x y with
  | none => rw [q] at p; exact p.elim
  | some b =>
    rw [q] at p
    have k := p.ok rl (.mk_bl b)
    rcases eqU_rel rl rx ry q with ⟨a, c⟩ | ⟨d, d', h1, h2, h3, h4, c⟩
    · exact .inl ⟨a, by rw [← c]; exact k⟩
    · exact .inr ⟨d, d', h1, h2, h3, h4, by rw [← c]; exact k⟩
theorem o_ne {W : Wd} : Op2 W (rNeA W.K) vNe := by
  intro x y h m H v u Q E rl rx ry p
  unfold vNe at p
  cases q : eqU h x y with
  | none => rw [q] at p; exact p.elim
  | some b =>
    rw [q] at p
    have k := p.ok rl (.mk_bl (!b))
    rcases eqU_rel rl rx ry q with ⟨a, c⟩ | ⟨d, d', h1, h2, h3, h4, c⟩
    · exact .inl ⟨a, by rw [← c]; exact k⟩
    · exact .inr ⟨d, d', h1, h2, h3, h4, by rw [← c]; exact k⟩
/-- is None, is not None -/
@[simp] def isNonU : U → Bool
  | .non => true
  | _ => false
theorem isNonU_rel {W : Wd} {m : List Addr} {H : Hp} {x : U} {v : V} (r : RV W.K m H x v) : decide (v = .non) = isNonU x := by
  cases x with
  | non => rw [r.non_inv]; rfl
  | bl b => rw [r.bl_inv]; simp
  | int b => rw [r.int_inv]; simp
  | str b => rw [r.str_inv]; simp
  | tup b => obtain ⟨a, vs, rfl, _⟩ := r.tup_inv; simp
  | ref b => obtain ⟨a, rfl, _⟩ := r.ref_inv; simp
def vIs : G2 := fun x y h => match y with | .non => .ok (.bl (isNonU x)) h | .bl b => (match x with | .bl a => .ok (.bl (decide (a = b))) h | _ => .bad) | _ => .bad
def vIsN : G2 := fun x y h => match y with | .non => .ok (.bl (!isNonU x)) h | .bl b => (match x with | .bl a => .ok (.bl (!decide (a = b))) h | _ => .bad) | _ => .bad
@[simp] theorem vIs_non (x : U) (h : Hb) : vIs x .non h = .ok (.bl (isNonU x)) h := rfl
@[simp] theorem vIsN_non (x : U) (h : Hb) : vIsN x .non h = .ok (.bl (!isNonU x)) h := rfl
theorem op_isA {X : Cx} : OpR X (compareOp .Is) (fun x y H Q => (y = .non ∧ Q (.bl (decide (x = .non))) H) ∨ ∃ a b, x = .bl a ∧ y = .bl b ∧ Q (.bl (decide (a = b))) H) := by
  intro pins s σ H x y v u Q I rx ry h
  rcases h with h | h
  · exact op_isN pins s σ H x y v u Q I rx ry h
  · exact op_is_bl pins s σ H x y v u Q I rx ry h
theorem op_notA {X : Cx} : OpR X (compareOp .IsNot) (fun x y H Q => (y = .non ∧ Q (.bl (!decide (x = .non))) H) ∨ ∃ a b, x = .bl a ∧ y = .bl b ∧ Q (.bl (!decide (a = b))) H) := by
  intro pins s σ H x y v u Q I rx ry h
  rcases h with h | h
  · exact op_notN pins s σ H x y v u Q I rx ry h
  · exact op_isnot_bl pins s σ H x y v u Q I rx ry h
theorem o_is {W : Wd} : Op2 W (fun x y H Q => (y = .non ∧ Q (.bl (decide (x = .non))) H) ∨ ∃ a b, x = .bl a ∧ y = .bl b ∧ Q (.bl (decide (a = b))) H) vIs := by
  intro x y h m H v u Q E rl rx ry p
  cases y with
  | non => exact .inl ⟨ry.non_inv, by rw [isNonU_rel rx]; exact p.ok rl (.mk_bl _)⟩
  | bl b => cases x with
    | bl a => exact .inr ⟨a, b, rx.bl_inv, ry.bl_inv, p.ok rl (.mk_bl _)⟩
    | _ => exact p.elim
  | _ => exact p.elim
theorem o_isN {W : Wd} : Op2 W (fun x y H Q => (y = .non ∧ Q (.bl (!decide (x = .non))) H) ∨ ∃ a b, x = .bl a ∧ y = .bl b ∧ Q (.bl (!decide (a = b))) H) vIsN := by
  intro x y h m H v u Q E rl rx ry p
  cases y with
  | non => exact .inl ⟨ry.non_inv, by rw [isNonU_rel rx]; exact p.ok rl (.mk_bl _)⟩
  | bl b => cases x with
    | bl a => exact .inr ⟨a, b, rx.bl_inv, ry.bl_inv, p.ok rl (.mk_bl _)⟩
    | _ => exact p.elim
  | _ => exact p.elim

/-! ### subscripts -/
def vIx : G2 := fun x y h => match y with
  | .int i => match x with
    | .str z => if z.length ≤ sizeLine then match atI z.cps.toList i with | some c => .ok (.str ⟨#[c]⟩) h | none => .bad else .bad
    | _ => match seqU h x with
      | some xs => match atI xs i with | some u => .ok u h | none => .bad
      | none => .bad
  | _ => .bad
theorem ixN_len {n k : Nat} {i : Int} (h : ixN n i = some k) : k < n := (ixN_seq h).2.1
theorem RVs.atI {K : PySem.W.Frag} {m : List Addr} {H : Hp} {us : List U} {vs : List V} {i : Int} {u : U} (r : RVs K m H us vs) (e : L2.atI us i = some u) : ∃ v, L2.atI vs i = some v ∧ RV K m H u v := by
  unfold L2.atI at e ⊢
  rw [← r.length]
  cases q : ixN us.length i with
  | none => rw [q] at e; cases e
  | some k => rw [q] at e; exact r.get e
theorem o_ix {W : Wd} : Op2 W (rIx W.K) vIx := by
  intro x y h m H v u Q E rl rx ry p
  cases y with
  | int i =>
    rw [ry.int_inv]
    simp only [vIx] at p
    split at p
    · rename_i z
      split at p
      · rename_i hz
        split at p
        · rename_i c hc
          exact .inr (.inr ⟨z, i, c, rx.str_inv, rfl, hz, hc, p.ok rl (.mk_str _)⟩)
        · exact p.elim
      · exact p.elim
    · split at p
      · rename_i xs e1
        split at p
        · rename_i w e2
          obtain ⟨a, vs, rfl, sq, rr⟩ := rl.seq rx e1
          obtain ⟨y, h1, h2⟩ := rr.atI e2
          rcases sq with sq | sq
          · exact .inl ⟨a, vs, i, y, rfl, rfl, sq, h1, p.ok rl h2⟩
          · exact .inr (.inl ⟨a, vs, i, y, rfl, rfl, sq, h1, p.ok rl h2⟩)
        · exact p.elim
      · exact p.elim
  | _ => exact p.elim
/-- xs[i] = u -/
def pIx : G3 := fun o i u h => match o, i with
  | .ref a, .int k => match h[a]? with
    | some (.lst xs) => match ixN xs.length k with | some j => some (h.set a (.lst (xs.set j u))) | none => none
    | _ => none
  | _, _ => none
theorem o_pix {W : Wd} : Op3 W rSetL pIx := by
  intro o i u h h' m H ov iv v Q e rl ro ri ru k
  unfold pIx at e
  split at e
  · rename_i a kk
    split at e
    · rename_i xs e1
      split at e
      · rename_i j e2
        cases e
        obtain ⟨pa, va, rfl, ma, ha, ra⟩ := rl.lst ro e1
        refine ⟨pa, va, kk, j, rfl, ri.int_inv, ha, by rw [← ra.length]; exact e2, ?_⟩
        obtain ⟨rl2, e3⟩ := rl.write (q := .lst (va.set j v)) e1 (by intro _ z; cases z) (o' := .lst (xs.set j u)) (by intro _ z; cases z) ma (fun m1 H1 e h1 => ⟨_, h1, RVs.mono e _ (RVs.set ru j ra)⟩)
        exact k _ _ e3 rl2
      · cases e
    · cases e
  · cases e
/-! slices -/
section
variable {W : Wd} {X : Cx} {a b c e : Expr} {fa fb fc fe : Ev} {pos p2 : Pos}
abbrev Eo := Sg → Hb → Res (Option Int)
def EvO (X : Cx) (e : Option Expr) : TO := fun t H Q => ∃ te, PO X e te ∧ te t H Q
theorem EvO.po (X : Cx) (e : Option Expr) : PO X e (EvO X e) := ⟨fun pins s σ H Q I h => by obtain ⟨te, p, q⟩ := h; exact p.run pins s σ H Q I q⟩
structure SO (W : Wd) (X : Cx) (e : Option Expr) (f : Eo) : Prop where
  run : ∀ (w : WX), Takes X w → ∀ (σ : Sg) (h : Hb) (m : List Addr) (τ : L2.St) (H : Hp) (Q : Option Int → Hp → Prop), Rel W m h H → RS W.K m H σ τ → Post W (fun _ _ a b => b = a) (f σ h) m H Q (fun c d H' => w c d τ H') → EvO X e τ H Q
def oNo : Eo := fun _ h => .ok none h
def oSok (x : U) (h : Hb) : Res (Option Int) := match x with | .int i => .ok (some i) h | _ => .bad
def oSo (f : Ev) : Eo := fun s h => (f s h).bind oSok
theorem so_none : SO W X none oNo := ⟨fun w tk σ h m τ H Q rl rs p => ⟨_, po_none, p.ok rl rfl⟩⟩
theorem so_some (he : SE W X e fe) : SO W X (some e) (oSo fe) := by
  refine ⟨fun w tk σ h m τ H Q rl rs p => ⟨_, po_some (EvT.pe X e), ?_⟩⟩
  refine he.run w tk σ h m τ H _ rl rs (Post.bind p fun x h1 m1 H1 v _ e1 rl1 rv p1 => ?_)
  cases x with
  | int i => exact ⟨i, rv.int_inv, p1.ok rl1 rfl⟩
  | _ => exact p1.elim
def cutU {α : Type} (xs : List α) (lo hi : Option Int) : List α := (xs.drop (HT.sIx xs.length 0 lo)).take (HT.sIx xs.length xs.length hi - HT.sIx xs.length 0 lo)
theorem RVs.cut {K : PySem.W.Frag} {m : List Addr} {H : Hp} {us : List U} {vs : List V} (r : RVs K m H us vs) (lo hi : Option Int) : RVs K m H (cutU us lo hi) (cutV vs lo hi) := by
  unfold cutU cutV
  rw [← r.length]
  exact (r.drop _).take _
def vSl (x : U) (lo hi : Option Int) : Hb → Res U := fun h => match x with
  | .tup us => .ok (.tup (cutU us lo hi)) h
  | .ref a => match h[a]? with
    | some (.lst xs) => .ok (.ref h.length) (h ++ [.lst (cutU xs lo hi)])
    | some (.fro xs) => .ok (.ref h.length) (h ++ [.lst (cutU xs lo hi)])
    | _ => .bad
  | .str z => if z.length ≤ sizeLine then .ok (.str (cutS z lo hi)) h else .bad
  | _ => .bad
def rSl (K : PySem.W.Frag) : V → Option Int → Option Int → Hp → VK → Prop := fun x lo hi H Q => (rSlA K x lo hi H Q ∨ rSlL K x lo hi H Q) ∨ rSlS x lo hi H Q
theorem op_sl : SlR X (rSl X.K) := (sl_tupA.or sl_list).or sl_str
/-- the whole of it -/
theorem cut_whole {α : Type} {xs : List α} {lo hi : Option Int} (h : HT.sIx xs.length 0 lo = 0 ∧ HT.sIx xs.length xs.length hi = xs.length) : cutU xs lo hi = xs := by
  unfold cutU
  rw [h.1, h.2]; simp
theorem o_sl {x : U} {lo hi : Option Int} {h : Hb} {m : List Addr} {H : Hp} {v : V} {Q : VK} {E : Value → Option Addr → Hp → Prop} (rl : Rel W m h H) (rx : RV W.K m H x v) (p : Post W (RV W.K) (vSl x lo hi h) m H Q E) : rSl W.K v lo hi H Q := by
  unfold vSl at p
  split at p
  · rename_i us
    obtain ⟨a, vs, rfl, t, rr⟩ := rx.tup_inv
    refine .inl (.inl ⟨a, vs, rfl, t.sq, fun z => ?_, fun _ => new_tup rl (rr.cut lo hi) p⟩)
    rw [← rr.length] at z
    rw [cut_whole z] at p
    exact p.ok rl rx
  · rename_i i
    obtain ⟨a, rfl, hm⟩ := rx.ref_inv
    split at p
    · rename_i xs q0
      obtain ⟨vs, sq, rr⟩ := (rl.at_ i _ a q0 hm).sql
      exact .inl (.inr ⟨a, vs, rfl, sq, new_lst rl (rr.cut lo hi) p⟩)
    · rename_i xs q0
      obtain ⟨vs, sq, rr⟩ := (rl.at_ i _ a q0 hm).sqf
      exact .inl (.inr ⟨a, vs, rfl, sq, new_lst rl (rr.cut lo hi) p⟩)
    · exact p.elim
  · rename_i z
    split at p
    · rename_i hz
      exact .inr ⟨z, rx.str_inv, hz, p.ok rl (.mk_str _)⟩
    · exact p.elim
  · exact p.elim
def sl2 (fh : Eo) (s : Sg) (x : U) (l : Option Int) (h : Hb) : Res U := (fh s h).bind (vSl x l)
def sl1 (fl fh : Eo) (s : Sg) (x : U) (h : Hb) : Res U := (fl s h).bind (sl2 fh s x)
def eSl (fa : Ev) (fl fh : Eo) : Ev := fun s h => (fa s h).bind (sl1 fl fh s)
theorem se_sl {lo hi : Option Expr} {fl fh : Eo} (hK : X.K = W.K) (ha : SE W X a fa) (hl : SO W X lo fl) (hu : SO W X hi fh) : SE W X (.Subscript a (.Slice lo hi none p2) pos) (eSl fa fl fh) := by
  refine ⟨fun w tk σ h m τ H Q rl rs p => ⟨_, pe_slice op_sl (EvT.pe X a) (EvO.po X lo) (EvO.po X hi), ?_⟩⟩
  refine ha.run w tk σ h m τ H _ rl rs (Post.bind p fun x h1 m1 H1 v _ e1 rl1 rv p1 => ?_)
  refine hl.run w tk σ h1 m1 τ H1 _ rl1 (rs.mono e1) (Post.bind p1 fun l h2 m2 H2 l' _ e2 rl2 el p2 => ?_)
  refine hu.run w tk σ h2 m2 τ H2 _ rl2 (rs.mono (e1.trans e2)) (Post.bind p2 fun u h3 m3 H3 u' _ e3 rl3 eu p3 => ?_)
  subst el eu
  rw [hK]
  exact o_sl rl3 (RV.mono (e2.trans e3) x rv) p3
/-- xs[::-1] of a list, of a tuple -/
def vRev (x : U) (h : Hb) : Res U := match x with
  | .tup us => .ok (.tup us.reverse) h
  | .ref a => match h[a]? with
    | some (.lst xs) => .ok (.ref h.length) (h ++ [.lst xs.reverse])
    | some (.fro xs) => .ok (.ref h.length) (h ++ [.lst xs.reverse])
    | _ => .bad
  | _ => .bad
theorem o_rev {x : U} {h : Hb} {m : List Addr} {H : Hp} {v : V} {Q : VK} {E : Value → Option Addr → Hp → Prop} (rl : Rel W m h H) (rv : RV W.K m H x v) (p1 : Post W (RV W.K) (vRev x h) m H Q E) : qRevA W.K v H Q := by
  cases x with
  | ref i =>
    unfold vRev at p1
    obtain ⟨a, rfl, hm⟩ := rv.ref_inv
    simp only [] at p1
    split at p1
    · rename_i xs q0
      obtain ⟨vs, sq, rr⟩ := (rl.at_ i _ a q0 hm).sql
      exact .inl ⟨a, vs, rfl, sq, new_lst rl rr.reverse p1⟩
    · rename_i xs q0
      obtain ⟨vs, sq, rr⟩ := (rl.at_ i _ a q0 hm).sqf
      exact .inl ⟨a, vs, rfl, sq, new_lst rl rr.reverse p1⟩
    · exact p1.elim
  | tup us =>
    obtain ⟨a, vs, rfl, t, rr⟩ := rv.tup_inv
    exact .inr ⟨a, vs, rfl, t.sq, new_tup rl rr.reverse p1⟩
  | _ => exact p1.elim
theorem se_rev {k : Nat} {q1 q2 q3 : Pos} (hK : X.K = W.K) (ha : SE W X a fa) : SE W X (.Subscript a (.Slice none none (some (.UnaryOp .USub (.Constant (.int 1) k q1) q2)) q3) pos) (e1 vRev fa) := by
  refine ⟨fun w tk σ h m τ H Q rl rs p => ⟨_, pe_revA (EvT.pe X a), ?_⟩⟩
  refine ha.run w tk σ h m τ H _ rl rs (Post.bind p fun x h1 m1 H1 v _ e1 rl1 rv p1 => ?_)
  rw [hK]
  exact o_rev rl1 rv p1

/-! ### calls of built-ins -/
abbrev GC := List U → Hb → Res U
def OpC (W : Wd) (r : List V → Hp → VK → Prop) (g : GC) : Prop := ∀ (us : List U) (h : Hb) (m : List Addr) (H : Hp) (vs : List V) (Q : VK) (E : Value → Option Addr → Hp → Prop), Rel W m h H → RVs W.K m H us vs → Post W (RV W.K) (g us h) m H Q E → r vs H Q
def eC (g : GC) (fs : Ea) : Ev := fun s h => (fs s h).bind g
variable {es : List Expr} {fs : Ea} {x : Str} {p : Pos}
theorem se_callB {id : String} {r : List V → Hp → VK → Prop} {g : GC} (hc : CallR X (.builtin id) r) (o : OpC W r g) (hg : Gl X x) (hm : X.mg x = none) (hv : bootBuiltins x = some (.builtin id)) (ha : SA W X (e :: es) fs) (hn : x ≠ "__name__") (hdb : (x == ("__debug__" : Str)) = false)
    (he : starEach (e :: es) X.env = (false, eval e X.env) :: starEach es X.env) (hpl : (backTo pos (starEach es X.env)).any (·.1) = false) : SE W X (.Call (.Name x p) (e :: es) [] pos) (eC g fs) :=
  ⟨fun w tk σ h m τ H Q rl rs q => ⟨_, pe_callB hc hg hm hv (EvA.pa X _) hn hdb he hpl, ha.run w tk σ h m τ H _ rl rs (Post.bind q fun us h1 m1 H1 vs _ e1 rl1 rv q1 => o us h1 m1 H1 vs Q _ rl1 rv q1)⟩⟩
theorem se_callTy {T : String} {r : List V → Hp → VK → Prop} {g : GC} (hc : CallR X (.type T) r) (o : OpC W r g) (hg : Gl X x) (hm : X.mg x = none) (hv : bootBuiltins x = some (.type T)) (ha : SA W X (e :: es) fs) (hn : x ≠ "__name__") (hdb : (x == ("__debug__" : Str)) = false)
    (he : starEach (e :: es) X.env = (false, eval e X.env) :: starEach es X.env) (hpl : (backTo pos (starEach es X.env)).any (·.1) = false) : SE W X (.Call (.Name x p) (e :: es) [] pos) (eC g fs) :=
  ⟨fun w tk σ h m τ H Q rl rs q => ⟨_, pe_callTy hc hg hm hv (EvA.pa X _) hn hdb he hpl, ha.run w tk σ h m τ H _ rl rs (Post.bind q fun us h1 m1 H1 vs _ e1 rl1 rv q1 => o us h1 m1 H1 vs Q _ rl1 rv q1)⟩⟩

def cInt : GC := fun us h => match us with
  | [.int i] => .ok (.int i) h
  | [.bl k] => .ok (.int (if k then 1 else 0)) h
  | _ => .bad
@[simp] theorem cInt_int (i : Int) (h : Hb) : cInt [.int i] h = .ok (.int i) h := rfl
theorem o_cint : OpC W (fun xs H Q => (∃ i, xs = [.int i] ∧ Q (.int i) H) ∨ ∃ k, xs = [.bl k] ∧ Q (.int (if k then 1 else 0)) H) cInt := by
  intro us h m H vs Q E rl rv q
  unfold cInt at q
  split at q
  · obtain ⟨v, r, rfl, a, b⟩ := rv.inv_cons
    rw [b.inv_nil, a.int_inv]
    exact .inl ⟨_, rfl, q.ok rl (.mk_int _)⟩
  · obtain ⟨v, r, rfl, a, b⟩ := rv.inv_cons
    rw [b.inv_nil, a.bl_inv]
    exact .inr ⟨_, rfl, q.ok rl (.mk_int _)⟩
  · exact q.elim
def cLen : GC := fun us h => match us with
  | [.str y] => if y.length ≤ sizeLine then .ok (.int y.length) h else .bad
  | [x] => match seqU h x with | some xs => .ok (.int xs.length) h | none => .bad
  | _ => .bad
theorem o_len : OpC W (fun xs H Q => ∃ x n, xs = [x] ∧ LenV W.K x H n ∧ Q (.int n) H) cLen := by
  intro us h m H vs Q E rl rv q
  unfold cLen at q
  split at q
  · obtain ⟨v, r, rfl, a, b⟩ := rv.inv_cons
    rw [b.inv_nil, a.str_inv]
    split at q
    · rename_i hz
      exact ⟨_, _, rfl, ⟨hz, rfl⟩, q.ok rl (.mk_int _)⟩
    · exact q.elim
  · obtain ⟨v, r, rfl, a, b⟩ := rv.inv_cons
    rw [b.inv_nil]
    split at q
    · rename_i xs e1
      obtain ⟨pa, ws, rfl, sq, rr⟩ := rl.seq a e1
      refine ⟨_, ws.length, rfl, ?_, by rw [← rr.length]; exact q.ok rl (.mk_int _)⟩
      rcases sq with sq | sq
      · exact .inl ⟨ws, sq, rfl⟩
      · exact .inr ⟨ws, sq, rfl⟩
    · exact q.elim
  · exact q.elim
def cAbs : GC := fun us h => match us with
  | [.int i] => .ok (.int (if i < 0 then -i else i)) h
  | _ => .bad
@[simp] theorem cAbs_int (i : Int) (h : Hb) : cAbs [.int i] h = .ok (.int (if i < 0 then -i else i)) h := rfl
theorem o_abs : OpC W (fun xs H Q => ∃ i, xs = [.int i] ∧ Q (.int (if i < 0 then -i else i)) H) cAbs := by
  intro us h m H vs Q E rl rv q
  unfold cAbs at q
  split at q
  · obtain ⟨v, r, rfl, a, b⟩ := rv.inv_cons
    rw [b.inv_nil, a.int_inv]
    exact ⟨_, rfl, q.ok rl (.mk_int _)⟩
  · exact q.elim
def boolsU : List U → Option (List Bool)
  | [] => some []
  | .bl b :: r => (boolsU r).map (b :: ·)
  | _ => none
def intsU : List U → Option (List Int)
  | [] => some []
  | .int b :: r => (intsU r).map (b :: ·)
  | _ => none
theorem RVs.bools {K : PySem.W.Frag} {m : List Addr} {H : Hp} : ∀ {us : List U} {vs : List V} {bs : List Bool}, RVs K m H us vs → boolsU us = some bs → vs = bs.map V.bl
  | [], _, _, r, e => by cases e; exact r.inv_nil
  | u :: us, _, bs, r, e => by
    obtain ⟨v, q, rfl, a, b⟩ := r.inv_cons
    cases u with
    | bl k =>
      simp only [boolsU] at e
      cases e2 : boolsU us with
      | none => rw [e2] at e; cases e
      | some cs =>
        rw [e2] at e; cases e
        rw [RVs.bools b e2]
        unfold RV at a; rw [a]; rfl
    | _ => cases e
theorem RVs.ints {K : PySem.W.Frag} {m : List Addr} {H : Hp} : ∀ {us : List U} {vs : List V} {bs : List Int}, RVs K m H us vs → intsU us = some bs → vs = bs.map V.int
  | [], _, _, r, e => by cases e; exact r.inv_nil
  | u :: us, _, bs, r, e => by
    obtain ⟨v, q, rfl, a, b⟩ := r.inv_cons
    cases u with
    | int k =>
      simp only [intsU] at e
      cases e2 : intsU us with
      | none => rw [e2] at e; cases e
      | some cs =>
        rw [e2] at e; cases e
        rw [RVs.ints b e2]
        unfold RV at a; rw [a]; rfl
    | _ => cases e
/-- the items of a list -/
def lstU (h : Hb) : U → Option (List U)
  | .ref a => match h[a]? with
    | some (.lst xs) => some xs
    | some (.fro xs) => some xs
    | _ => none
  | _ => none
theorem lst_rel {m : List Addr} {h : Hb} {H : Hp} (rl : Rel W m h H) {x : U} {us : List U} {v : V} (r : RV W.K m H x v) (e : lstU h x = some us) : ∃ a vs, v = .ref a ∧ SqL W.K H a vs ∧ RVs W.K m H us vs := by
  cases x with
  | ref i =>
    obtain ⟨a, rfl, hm⟩ := r.ref_inv
    simp only [lstU] at e
    cases q : h[i]? with
    | none => rw [q] at e; cases e
    | some o =>
      rw [q] at e
      cases o with
      | lst xs =>
        cases e
        obtain ⟨vs, sq, rr⟩ := (rl.at_ i _ a q hm).sql
        exact ⟨a, vs, rfl, sq, rr⟩
      | fro xs =>
        cases e
        obtain ⟨vs, sq, rr⟩ := (rl.at_ i _ a q hm).sqf
        exact ⟨a, vs, rfl, sq, rr⟩
      | ins c fs => cases e
  | _ => cases e
def cB (f : List Bool → Bool) : GC := fun us h => match us with
  | [x] => match (lstU h x).bind boolsU with | some bs => .ok (.bl (f bs)) h | none => .bad
  | _ => .bad
abbrev cAll : GC := cB fun bs => bs.all id
abbrev cAny : GC := cB fun bs => bs.any id
theorem o_cB {f : List Bool → Bool} : OpC W (fun vs H Q => ∃ (a : Addr) (bs : List Bool), vs = [V.ref a] ∧ SqL W.K H a (bs.map V.bl) ∧ Q (.bl (f bs)) H) (cB f) := by
  intro us h m H vs Q E rl rv q
  unfold cB at q
  split at q
  · rename_i x
    obtain ⟨v, r, rfl, a, b⟩ := rv.inv_cons
    rw [b.inv_nil]
    cases e1 : lstU h x with
    | none => rw [e1] at q; exact q.elim
    | some us =>
      rw [e1] at q
      simp only [Option.bind_some] at q
      split at q
      · rename_i bs e2
        obtain ⟨pa, ws, rfl, sq, rr⟩ := lst_rel rl a e1
        exact ⟨pa, bs, rfl, by rw [← rr.bools e2]; exact sq, q.ok rl (.mk_bl _)⟩
      · exact q.elim
  · exact q.elim
def sumU (h : Hb) : U → Option (List U)
  | .tup us => some us
  | u => lstU h u
def cSum : GC := fun us h => match us with
  | [x] => match (sumU h x).bind intsU with | some bs => .ok (.int bs.sum) h | none => .bad
  | _ => .bad
/-- of a list or of a tuple -/
def rSumA (K : PySem.W.Frag) : List V → Hp → VK → Prop := fun vs H Q => ∃ (a : Addr) (ns : List Int), vs = [V.ref a] ∧ (SqL K H a (ns.map V.int) ∨ SqT K H a (ns.map V.int)) ∧ Q (.int ns.sum) H
theorem cr_sumA {X : Cx} (hc : X.calm = true) : CallR X (.builtin "sum") (rSumA X.K) := by
  intro pins s σ H vs us Q I r h
  obtain ⟨a, ns, rfl, hs | hs, q⟩ := h
  · exact cr_sum hc pins s σ H _ us Q I r ⟨a, ns, rfl, hs, q⟩
  · obtain ⟨its, rv, hl, _⟩ := I.tuple hs
    rw [Vals.ref1 r]
    obtain ⟨xs, e⟩ := rv.ints.allInts.items
    have hn : numsOf (intItems xs).toList = ns := by rw [← e]; exact rv.ints.numsOf
    rw [nums_intItems] at hn
    have hl : s.heap.IsTuple a its.toArray := hl
    rw [e] at hl
    refine PySem.W.ktm_sumG (I.ok.hd hc) hl fun h' tk t' hk => ⟨.int ns.sum, H, I.kept hk, ?_, q⟩
    refine ⟨t', ?_⟩
    rw [preSum_eq, List.take_of_length_le (by simp), hn]
theorem o_sum : OpC W (rSumA W.K) cSum := by
  intro us h m H vs Q E rl rv q
  unfold cSum at q
  split at q
  · rename_i x
    obtain ⟨v, r, rfl, a, b⟩ := rv.inv_cons
    rw [b.inv_nil]
    cases e1 : sumU h x with
    | none => rw [e1] at q; exact q.elim
    | some us =>
      rw [e1] at q
      simp only [Option.bind_some] at q
      split at q
      · rename_i bs e2
        unfold sumU at e1
        split at e1
        · cases e1
          obtain ⟨pa, ws, rfl, t, rr⟩ := a.tup_inv
          exact ⟨pa, bs, rfl, .inr (by rw [← rr.ints e2]; exact t.sq), q.ok rl (.mk_int _)⟩
        · obtain ⟨pa, ws, rfl, sq, rr⟩ := lst_rel rl a e1
          exact ⟨pa, bs, rfl, .inl (by rw [← rr.ints e2]; exact sq), q.ok rl (.mk_int _)⟩
      · exact q.elim
  · exact q.elim
/-- max, min: of two ints, of a list of ints -/
def maxI : List Int → Option Int
  | [] => none
  | x :: xs => some (xs.foldl (fun a b => if b > a then b else a) x)
def minI : List Int → Option Int
  | [] => none
  | x :: xs => some (xs.foldl (fun a b => if b < a then b else a) x)
def cMax : GC := fun us h => match us with
  | [.int i, .int j] => .ok (.int (if j > i then j else i)) h
  | [x] => match (lstU h x).bind intsU with | some bs => (match maxI bs with | some k => .ok (.int k) h | none => .bad) | none => .bad
  | _ => .bad
def cMin : GC := fun us h => match us with
  | [.int i, .int j] => .ok (.int (if j < i then j else i)) h
  | [x] => match (lstU h x).bind intsU with | some bs => (match minI bs with | some k => .ok (.int k) h | none => .bad) | none => .bad
  | _ => .bad
@[simp] theorem cMax_two (i j : Int) (h : Hb) : cMax [.int i, .int j] h = .ok (.int (if j > i then j else i)) h := rfl
@[simp] theorem cMin_two (i j : Int) (h : Hb) : cMin [.int i, .int j] h = .ok (.int (if j < i then j else i)) h := rfl
theorem maxI_fold : ∀ (xs : List Int) (x : Int), x ≤ xs.foldl (fun a b => if b > a then b else a) x ∧ (∀ y ∈ xs, y ≤ xs.foldl (fun a b => if b > a then b else a) x) ∧ (xs.foldl (fun a b => if b > a then b else a) x = x ∨ xs.foldl (fun a b => if b > a then b else a) x ∈ xs)
  | [], x => ⟨Int.le_refl x, by simp, .inl rfl⟩
  | y :: xs, x => by
    obtain ⟨h1, h2, h3⟩ := maxI_fold xs (if y > x then y else x)
    have hy : y ≤ (if y > x then y else x) ∧ x ≤ (if y > x then y else x) := by split <;> omega
    refine ⟨Int.le_trans hy.2 h1, fun z hz => ?_, ?_⟩
    · rcases List.mem_cons.mp hz with e | hz
      · rw [e]; exact Int.le_trans hy.1 h1
      · exact h2 z hz
    · rcases h3 with h3 | h3
      · simp only [List.foldl_cons]
        rw [h3]
        split
        · exact .inr List.mem_cons_self
        · exact .inl rfl
      · exact .inr (List.mem_cons_of_mem _ h3)
theorem minI_fold : ∀ (xs : List Int) (x : Int), xs.foldl (fun a b => if b < a then b else a) x ≤ x ∧ (∀ y ∈ xs, xs.foldl (fun a b => if b < a then b else a) x ≤ y) ∧ (xs.foldl (fun a b => if b < a then b else a) x = x ∨ xs.foldl (fun a b => if b < a then b else a) x ∈ xs)
  | [], x => ⟨Int.le_refl x, by simp, .inl rfl⟩
  | y :: xs, x => by
    obtain ⟨h1, h2, h3⟩ := minI_fold xs (if y < x then y else x)
    have hy : (if y < x then y else x) ≤ y ∧ (if y < x then y else x) ≤ x := by split <;> omega
    refine ⟨Int.le_trans h1 hy.2, fun z hz => ?_, ?_⟩
    · rcases List.mem_cons.mp hz with e | hz
      · rw [e]; exact Int.le_trans h1 hy.1
      · exact h2 z hz
    · rcases h3 with h3 | h3
      · simp only [List.foldl_cons]
        rw [h3]
        split
        · exact .inr List.mem_cons_self
        · exact .inl rfl
      · exact .inr (List.mem_cons_of_mem _ h3)
theorem maxI_spec {xs : List Int} {k : Int} (e : maxI xs = some k) : k ∈ xs ∧ ∀ y ∈ xs, y ≤ k := by
  cases xs with
  | nil => cases e
  | cons x xs =>
    cases e
    obtain ⟨h1, h2, h3⟩ := maxI_fold xs x
    refine ⟨?_, fun y hy => ?_⟩
    · rcases h3 with h3 | h3
      · rw [h3]; exact List.mem_cons_self
      · exact List.mem_cons_of_mem _ h3
    · rcases List.mem_cons.mp hy with e | hy
      · rw [e]; exact h1
      · exact h2 y hy
theorem minI_spec {xs : List Int} {k : Int} (e : minI xs = some k) : k ∈ xs ∧ ∀ y ∈ xs, k ≤ y := by
  cases xs with
  | nil => cases e
  | cons x xs =>
    cases e
    obtain ⟨h1, h2, h3⟩ := minI_fold xs x
    refine ⟨?_, fun y hy => ?_⟩
    · rcases h3 with h3 | h3
      · rw [h3]; exact List.mem_cons_self
      · exact List.mem_cons_of_mem _ h3
    · rcases List.mem_cons.mp hy with e | hy
      · rw [e]; exact h1
      · exact h2 y hy
theorem CallR.or {f : Value} {r r' : List V → Hp → VK → Prop} (h : CallR X f r) (h' : CallR X f r') : CallR X f (fun xs H Q => r xs H Q ∨ r' xs H Q) := by
  intro pins s σ H xs us Q I r q
  rcases q with q | q
  · exact h pins s σ H xs us Q I r q
  · exact h' pins s σ H xs us Q I r q
theorem o_max : OpC W (fun xs H Q => (∃ i j, xs = [.int i, .int j] ∧ Q (.int (if j > i then j else i)) H) ∨ rMax W.K xs H Q) cMax := by
  intro us h m H vs Q E rl rv q
  unfold cMax at q
  split at q
  · obtain ⟨v, r, rfl, a, b⟩ := rv.inv_cons
    obtain ⟨v2, r, rfl, a2, b⟩ := b.inv_cons
    rw [b.inv_nil, a.int_inv, a2.int_inv]
    exact .inl ⟨_, _, rfl, q.ok rl (.mk_int _)⟩
  · rename_i x
    obtain ⟨v, r, rfl, a, b⟩ := rv.inv_cons
    rw [b.inv_nil]
    cases e1 : lstU h x with
    | none => rw [e1] at q; exact q.elim
    | some us =>
      rw [e1] at q
      simp only [Option.bind_some] at q
      split at q
      · rename_i bs e2
        split at q
        · rename_i k e3
          obtain ⟨pa, ws, rfl, sq, rr⟩ := lst_rel rl a e1
          obtain ⟨h1, h2⟩ := maxI_spec e3
          refine .inr ⟨pa, bs, rfl, by rw [← rr.ints e2]; exact sq, by cases bs with | nil => cases e3 | cons _ _ => simp, fun n hn hle => ?_⟩
          have : n = k := Int.le_antisymm (h2 n hn) (hle k h1)
          rw [this]
          exact q.ok rl (.mk_int _)
        · exact q.elim
      · exact q.elim
  · exact q.elim
theorem o_min : OpC W (fun xs H Q => (∃ i j, xs = [.int i, .int j] ∧ Q (.int (if j < i then j else i)) H) ∨ rMin W.K xs H Q) cMin := by
  intro us h m H vs Q E rl rv q
  unfold cMin at q
  split at q
  · obtain ⟨v, r, rfl, a, b⟩ := rv.inv_cons
    obtain ⟨v2, r, rfl, a2, b⟩ := b.inv_cons
    rw [b.inv_nil, a.int_inv, a2.int_inv]
    exact .inl ⟨_, _, rfl, q.ok rl (.mk_int _)⟩
  · rename_i x
    obtain ⟨v, r, rfl, a, b⟩ := rv.inv_cons
    rw [b.inv_nil]
    cases e1 : lstU h x with
    | none => rw [e1] at q; exact q.elim
    | some us =>
      rw [e1] at q
      simp only [Option.bind_some] at q
      split at q
      · rename_i bs e2
        split at q
        · rename_i k e3
          obtain ⟨pa, ws, rfl, sq, rr⟩ := lst_rel rl a e1
          obtain ⟨h1, h2⟩ := minI_spec e3
          refine .inr ⟨pa, bs, rfl, by rw [← rr.ints e2]; exact sq, by cases bs with | nil => cases e3 | cons _ _ => simp, fun n hn hle => ?_⟩
          have : n = k := Int.le_antisymm (hle k h1) (h2 n hn)
          rw [this]
          exact q.ok rl (.mk_int _)
        · exact q.elim
      · exact q.elim
  · exact q.elim
def cLst : GC := fun us h => match us with
  | [x] => match seqU h x with | some xs => .ok (.ref h.length) (h ++ [.lst xs]) | none => .bad
  | _ => .bad
theorem o_clst : OpC W (fun xs H Q => ∃ p ys, xs = [.ref p] ∧ (SqL W.K H p ys ∨ SqT W.K H p ys) ∧ ∀ l, H l = none → Q (.ref l) (upd H l (.lst ys))) cLst := by
  intro us h m H vs Q E rl rv q
  unfold cLst at q
  split at q
  · rename_i x
    obtain ⟨v, r, rfl, a, b⟩ := rv.inv_cons
    rw [b.inv_nil]
    split at q
    · rename_i xs e1
      obtain ⟨pa, ws, rfl, sq, rr⟩ := rl.seq a e1
      exact ⟨pa, ws, rfl, sq, new_lst rl rr q⟩
    · exact q.elim
  · exact q.elim
def cTup : GC := fun us h => match us with
  | [.tup xs] => .ok (.tup xs) h
  | [x] => match lstU h x with | some xs => .ok (.tup xs) h | none => .bad
  | _ => .bad
@[simp] theorem cTup_tup (xs : List U) (h : Hb) : cTup [.tup xs] h = .ok (.tup xs) h := rfl
theorem o_ctup : OpC W (fun xs H Q => ∃ p ys, xs = [.ref p] ∧ ((SqL W.K H p ys ∧ ∀ l, H l = none → Q (.ref l) (upd H l (.tup ys))) ∨ (SqT W.K H p ys ∧ Q (.ref p) H))) cTup := by
  intro us h m H vs Q E rl rv q
  unfold cTup at q
  split at q
  · obtain ⟨v, r, rfl, a, b⟩ := rv.inv_cons
    rw [b.inv_nil]
    obtain ⟨pa, ws, rfl, t, rr⟩ := a.tup_inv
    exact ⟨pa, ws, rfl, .inr ⟨t.sq, q.ok rl a⟩⟩
  · rename_i x _
    obtain ⟨v, r, rfl, a, b⟩ := rv.inv_cons
    rw [b.inv_nil]
    split at q
    · rename_i xs e1
      obtain ⟨pa, ws, rfl, sq, rr⟩ := lst_rel rl a e1
      exact ⟨pa, ws, rfl, .inl ⟨sq, new_tup rl rr q⟩⟩
    · exact q.elim
  · exact q.elim

/-! isinstance(x, T), T a built-in type -/
def tyU (h : Hb) : U → Option String
  | .non => some "NoneType"
  | .bl _ => some "bool"
  | .int _ => some "int"
  | .str _ => some "str"
  | .tup _ => some "tuple"
  | .ref a => match h[a]? with
    | some (.lst _) => some "list"
    | some (.fro _) => some "list"
    | _ => none
theorem tyU_rel {m : List Addr} {h : Hb} {H : Hp} (rl : Rel W m h H) {x : U} {v : V} (r : RV W.K m H x v) {t : String} (e : tyU h x = some t) : TyX W.K H v (.type t) := by
  cases x with
  | non => cases e; rw [r.non_inv]; exact .base .non
  | bl b => cases e; rw [r.bl_inv]; exact .base (.bl b)
  | int b => cases e; rw [r.int_inv]; exact .base (.int b)
  | str b => cases e; rw [r.str_inv]; exact .base (.str b)
  | tup us =>
    cases e
    obtain ⟨a, vs, rfl, t, rr⟩ := r.tup_inv
    rcases t with t | ⟨o, its, n, hk, hc, _⟩
    · exact .base (.tup t)
    · exact .kTuple hk hc
  | ref i =>
    obtain ⟨a, rfl, hm⟩ := r.ref_inv
    simp only [tyU] at e
    split at e
    · rename_i xs q
      cases e
      obtain ⟨vs, h1, r⟩ := rl.at_ i _ a q hm
      exact .base (.lst h1)
    · rename_i xs q
      cases e
      obtain ⟨vs, h1, r⟩ := rl.at_ i _ a q hm
      rcases h1 with ⟨o, h1⟩ | ⟨o, its, n, hk, hc, _⟩
      · exact .base (.frz h1)
      · exact .kList hk hc
    · cases e
def isiU (T : String) : G1 := fun x h => match tyU h x with
  | some t => match kitB t T with | some b => .ok (.bl b) h | none => .bad
  | none => .bad
theorem se_isi {T : Str} {tn : String} {pt : Pos} (hK : X.K = W.K) (ha : SE W X a fa) (hg : Gl X "isinstance") (hm : X.mg "isinstance" = none) (hgT : Gl X T) (hmT : X.mg T = none) (hvT : bootBuiltins T = some (.type tn)) (hnT : T ≠ "__name__") (hdT : (T == ("__debug__" : Str)) = false)
    (he : starEach [a, .Name T pt] X.env = (false, eval a X.env) :: starEach [.Name T pt] X.env) : SE W X (.Call (.Name "isinstance" p) [a, .Name T pt] [] pos) (e1 (isiU tn) fa) := by
  refine ⟨fun w tk σ h m τ H Q rl rs q => ⟨_, pe_callB call_isi hg hm (by decide +kernel) (pa_cons (EvT.pe X a) (pa_cons (pe_bltn (v := .ty tn) hgT hmT hvT rfl hnT hdT) pa_nil (by rfl)) he) (by decide) (by decide) he (by rfl), ?_⟩⟩
  refine ha.run w tk σ h m τ H _ rl rs (Post.bind q fun x h1 m1 H1 v _ e1 rl1 rv q1 => ?_)
  unfold isiU at q1
  split at q1
  · rename_i t et
    split at q1
    · rename_i b eb
      exact ⟨v, .ty tn, .type t, .type tn, b, rfl, .ty tn, by rw [hK]; exact tyU_rel rl1 rv et, kit_ty eb, q1.ok rl1 (.mk_bl b)⟩
    · exact q1.elim
  · exact q1.elim
end
end Lz
namespace Lz
open PySem PySem.Spec PyProof.Rows L2
open Classical

/-! ### methods of lists -/
section
variable {W : Wd} {X : Cx} {a b c e o : Expr} {fa fb fc fe : Ev} {fs : Ea} {es : List Expr} {pos p2 apos cpos : Pos} {name : Str} {id : String}
abbrev GM := U → List U → Hb → Res U
def OpM (W : Wd) (r : V → List V → Hp → VK → Prop) (g : GM) : Prop := ∀ (x : U) (us : List U) (h : Hb) (m : List Addr) (H : Hp) (v : V) (vs : List V) (Q : VK) (E : Value → Option Addr → Hp → Prop), Rel W m h H → RV W.K m H x v → RVs W.K m H us vs → Post W (RV W.K) (g x us h) m H Q E → r v vs H Q
def eMk (g : GM) (fs : Ea) (s : Sg) (x : U) (h : Hb) : Res U := match lstU h x with
  | some _ => (fs s h).bind (g x)
  | none => .bad
def eM (g : GM) (fa : Ev) (fs : Ea) : Ev := fun s h => (fa s h).bind (eMk g fs s)
def noSuper : Expr → Bool
  | .Call (.Name _ _) [] [] _ => false
  | _ => true
theorem noSuper_base (ho : noSuper o = true) (env : Env) (w : Sem Value) : attributeBase o name env w = w := by
  unfold attributeBase
  split
  · rename_i h
    simp [noSuper] at ho
  · rfl
theorem se_m0 {r : V → List V → Hp → VK → Prop} {g : GM} (hK : X.K = W.K) (pa : PlainAttrs "list") (slot : Slot "list" name id) (hty : typeOf (.builtin id) = pure (.type "method_descriptor")) (hm : MtR X id r) (og : OpM W r g) (ho : SE W X o fa)
    (hbase : noSuper o = true) (hline : (apos.endLine == cpos.line) = true) : SE W X (.Call (.Attribute o name apos) [] [] cpos) (eM g fa aNil) := by
  refine ⟨fun w tk σ h m τ H Q rl rs p => ⟨_, pe_bm0 pa slot hty hm (EvT.pe X o) (noSuper_base hbase _ _) hline, ?_⟩⟩
  refine ho.run w tk σ h m τ H _ rl rs (Post.bind p fun x h1 m1 H1 v _ e1 rl1 rv p1 => ?_)
  unfold eMk at p1
  split at p1
  · rename_i xs ex
    obtain ⟨pa, vs, rfl, sq, rr⟩ := lst_rel rl1 rv ex
    exact ⟨.inl ⟨rfl, vs, by rw [hK]; exact sq⟩, og x [] h1 m1 H1 _ [] Q _ rl1 rv .nil p1⟩
  · exact p1.elim
theorem se_m {r : V → List V → Hp → VK → Prop} {g : GM} (hK : X.K = W.K) (pa : PlainAttrs "list") (slot : Slot "list" name id) (hty : typeOf (.builtin id) = pure (.type "method_descriptor")) (hm : MtR X id r) (og : OpM W r g) (ho : SE W X o fa) (ha : SA W X (e :: es) fs)
    (hbase : noSuper o = true) (hfew : ((backTo cpos (starEach (e :: es) X.env)).all (fun x => !x.1) && (backToKw cpos (keywordEach [] X.env)).all (fun x => x.1.isSome)
      && decide ((e :: es).length + ([] : List Keyword).length + (if ([] : List Keyword).isEmpty then 0 else 1) < 30)) = true) (hline : (apos.endLine == cpos.line) = true)
    (hs : starEach (e :: es) X.env = (false, eval e X.env) :: starEach es X.env) (hplain : (backTo cpos (starEach es X.env)).any (·.1) = false) : SE W X (.Call (.Attribute o name apos) (e :: es) [] cpos) (eM g fa fs) := by
  refine ⟨fun w tk σ h m τ H Q rl rs p => ⟨_, pe_bm pa slot hty hm (EvT.pe X o) (EvA.pa X (e :: es)) (noSuper_base hbase _ _) hfew hline hs hplain, ?_⟩⟩
  refine ho.run w tk σ h m τ H _ rl rs (Post.bind p fun x h1 m1 H1 v _ e1 rl1 rv p1 => ?_)
  unfold eMk at p1
  split at p1
  · rename_i xs ex
    obtain ⟨pa, vs, rfl, sq, rr⟩ := lst_rel rl1 rv ex
    refine ⟨.inl ⟨rfl, vs, by rw [hK]; exact sq⟩, ?_⟩
    exact ha.run w tk σ h1 m1 τ H1 _ rl1 (rs.mono e1) (Post.bind p1 fun us h2 m2 H2 ws _ e2 rl2 rvs p2 => og x us h2 m2 H2 _ ws Q _ rl2 (RV.mono e2 x rv) rvs p2)
  · exact p1.elim

def mAppend : GM := fun x us h => match x, us with
  | .ref a, [y] => match h[a]? with
    | some (.lst xs) => if xs.length < sizeLine then .ok .non (h.set a (.lst (xs ++ [y]))) else .bad
    | _ => .bad
  | _, _ => .bad
theorem o_append : OpM W rAppend mAppend := by
  intro x us h m H v vs Q E rl rv rvs p
  unfold mAppend at p
  split at p
  · rename_i a y
    split at p
    · rename_i xs e1
      split at p
      · rename_i hz
        obtain ⟨pa, va, rfl, ma, ha, ra⟩ := rl.lst rv e1
        obtain ⟨w, r, rfl, q1, q2⟩ := rvs.inv_cons
        rw [q2.inv_nil]
        exact ⟨pa, va, w, rfl, rfl, ha, by rw [← ra.length]; exact hz, put_lst rl e1 ma (ra.append (.cons q1 .nil)) .mk_non p⟩
      · exact p.elim
    · exact p.elim
  · exact p.elim
def mPop : GM := fun x us h => match x, us with
  | .ref a, [] => match h[a]? with
    | some (.lst xs) => match xs.getLast? with | some y => .ok y (h.set a (.lst xs.dropLast)) | none => .bad
    | _ => .bad
  | .ref a, [.int i] => match h[a]? with
    | some (.lst xs) => if -9223372036854775808 ≤ i ∧ i < 9223372036854775808 then match ixN xs.length i with
        | some k => match xs[k]? with | some y => .ok y (h.set a (.lst (xs.eraseIdx k))) | none => .bad
        | none => .bad
      else .bad
    | _ => .bad
  | _, _ => .bad
theorem o_pop : OpM W (fun x vs H Q => rPop x vs H Q ∨ rPopAt x vs H Q) mPop := by
  intro x us h m H v vs Q E rl rv rvs p
  unfold mPop at p
  split at p
  · rename_i a
    split at p
    · rename_i xs e1
      split at p
      · rename_i y e2
        obtain ⟨pa, va, rfl, ma, ha, ra⟩ := rl.lst rv e1
        rw [rvs.inv_nil]
        rw [List.getLast?_eq_getElem?] at e2
        obtain ⟨w, h1, h2⟩ := ra.get e2
        rw [ra.length] at h1
        exact .inl ⟨pa, va, w, rfl, rfl, ha, h1, put_lst rl e1 ma ra.dropLast h2 p⟩
      · exact p.elim
    · exact p.elim
  · rename_i a i
    split at p
    · rename_i xs e1
      split at p
      · rename_i hb
        split at p
        · rename_i k ek
          split at p
          · rename_i y e2
            obtain ⟨pa, va, rfl, ma, ha, ra⟩ := rl.lst rv e1
            obtain ⟨w, r, rfl, q1, q2⟩ := rvs.inv_cons
            rw [q2.inv_nil, q1.int_inv]
            obtain ⟨w, h1, h2⟩ := ra.get e2
            exact .inr ⟨pa, va, i, k, w, rfl, rfl, ha, by omega, by omega, by rw [← ra.length]; exact (ixN_seq ek).1, h1, put_lst rl e1 ma (ra.eraseIdx k) h2 p⟩
          · exact p.elim
        · exact p.elim
      · exact p.elim
    · exact p.elim
  · exact p.elim
def mInsert : GM := fun x us h => match x, us with
  | .ref a, [.int i, y] => match h[a]? with
    | some (.lst xs) => if xs.length < sizeLine ∧ 0 ≤ i ∧ i < 9223372036854775808 then .ok .non (h.set a (.lst (xs.take i.toNat ++ [y] ++ xs.drop i.toNat))) else .bad
    | _ => .bad
  | _, _ => .bad
theorem o_insert : OpM W (fun x vs H Q => ∃ (l : Addr) (xs : List V) (i : Int) (y : V), x = .ref l ∧ vs = [.int i, y] ∧ H l = some (.lst xs) ∧ xs.length < sizeLine ∧ 0 ≤ i ∧ i < 2 ^ 63 ∧
    Q .non (upd H l (.lst (xs.take i.toNat ++ [y] ++ xs.drop i.toNat)))) mInsert := by
  intro x us h m H v vs Q E rl rv rvs p
  unfold mInsert at p
  split at p
  · rename_i a i y
    split at p
    · rename_i xs e1
      split at p
      · rename_i hz
        obtain ⟨pa, va, rfl, ma, ha, ra⟩ := rl.lst rv e1
        obtain ⟨w, r, rfl, q1, q2⟩ := rvs.inv_cons
        obtain ⟨w2, r, rfl, q3, q4⟩ := q2.inv_cons
        rw [q4.inv_nil, q1.int_inv]
        exact ⟨pa, va, i, w2, rfl, rfl, ha, by rw [← ra.length]; exact hz.1, hz.2.1, by omega, put_lst rl e1 ma (((ra.take _).append (.cons q3 .nil)).append (ra.drop _)) .mk_non p⟩
      · exact p.elim
    · exact p.elim
  · exact p.elim
def mExtend : GM := fun x us h => match x, us with
  | .ref a, [.ref b] => match h[a]?, h[b]? with
    | some (.lst xs), some (.lst ys) => if xs.length + ys.length ≤ sizeLine then .ok .non (h.set a (.lst (xs ++ ys))) else .bad
    | _, _ => .bad
  | _, _ => .bad
theorem o_extend : OpM W rExtend mExtend := by
  intro x us h m H v vs Q E rl rv rvs p
  unfold mExtend at p
  split at p
  · rename_i a b
    split at p
    · rename_i xs ys e1 e2
      split at p
      · rename_i hz
        obtain ⟨pa, va, rfl, ma, ha, ra⟩ := rl.lst rv e1
        obtain ⟨w, r, rfl, q1, q2⟩ := rvs.inv_cons
        rw [q2.inv_nil]
        obtain ⟨pb, vb, rfl, mb, hb, rb⟩ := rl.lst q1 e2
        exact ⟨pa, pb, va, vb, rfl, rfl, ha, hb, by rw [← ra.length, ← rb.length]; exact hz, put_lst rl e1 ma (ra.append rb) .mk_non p⟩
      · exact p.elim
    · exact p.elim
  · exact p.elim
def mReverse : GM := fun x us h => match x, us with
  | .ref a, [] => match h[a]? with
    | some (.lst xs) => .ok .non (h.set a (.lst xs.reverse))
    | _ => .bad
  | _, _ => .bad
theorem o_reverse : OpM W rReverse mReverse := by
  intro x us h m H v vs Q E rl rv rvs p
  unfold mReverse at p
  split at p
  · rename_i a
    split at p
    · rename_i xs e1
      obtain ⟨pa, va, rfl, ma, ha, ra⟩ := rl.lst rv e1
      rw [rvs.inv_nil]
      exact ⟨pa, va, rfl, rfl, ha, put_lst rl e1 ma ra.reverse .mk_non p⟩
    · exact p.elim
  · exact p.elim

/-! ### what is walked -/
variable {tg : Expr}
theorem PostI.bind {γ δ : Type} {R' : List Addr → Hp → γ → δ → Prop} {r : Res γ} {k : γ → Hb → Res Src} {m : List Addr} {H : Hp} {R : It → Hp → Prop} {E : Value → Option Addr → Hp → Prop}
    (p : PostI W (r.bind k) m H R E) {Q' : δ → Hp → Prop} (f : ∀ u h1 m1 H1 v, r = .ok u h1 → Ext m H m1 H1 → Rel W m1 h1 H1 → R' m1 H1 u v → PostI W (k u h1) m1 H1 R E → Q' v H1) : Post W R' r m H Q' E := by
  cases r with
  | ok u h' =>
    intro m' H' v e rl rv
    refine f u h' m' H' v rfl e rl rv ?_
    simp only [Res.bind] at p
    cases q : k u h' with
    | ok src h2 => rw [q] at p; exact fun m2 H2 J e2 => p m2 H2 J (e.trans e2)
    | ex x h2 => rw [q] at p; exact fun m2 H2 c d e2 => p m2 H2 c d (e.trans e2)
    | bad => rw [q] at p; exact p
  | ex x h' => exact p
  | bad => exact p
def srcU (h : Hb) : U → Option Src
  | .tup xs => some ⟨xs, fun _ => True⟩
  | .ref a => match h[a]? with
    | some (.lst xs) => some ⟨xs, fun h' => h'[a]? = some (.lst xs)⟩
    | some (.fro xs) => some ⟨xs, fun h' => h'[a]? = some (.fro xs)⟩
    | _ => none
  | _ => none
def iSeqk (x : U) (h : Hb) : Res Src := match srcU h x with | some src => .ok src h | none => .bad
def iSeq (fa : Ev) : Si := fun s h => (fa s h).bind iSeqk
theorem it_lst {m : List Addr} {H : Hp} {i : Nat} {a : Addr} {xs : List U} {o : O} (ho : o = .lst xs ∨ o = .fro xs) (hm : m[i]? = some a) : ItOk W ⟨xs, fun h' => h'[i]? = some o⟩ m H (Itl W.K a) := by
  have key : ∀ m1 h1 H1, Ext m H m1 H1 → Rel W m1 h1 H1 → h1[i]? = some o → ∃ vs, SqL W.K H1 a vs ∧ RVs W.K m1 H1 xs vs := fun m1 h1 H1 e rl hk => by
    have r := rl.at_ i o a hk (e.at hm)
    rcases ho with rfl | rfl
    · exact r.sql
    · exact r.sqf
  refine ⟨fun j m1 h1 H1 e rl hk hj => ?_, fun j m1 h1 H1 x H' e rl hk y hj => ?_, fun m1 h1 H1 e rl hk => ?_⟩
  · obtain ⟨vs, sq, rr⟩ := key m1 h1 H1 e rl hk
    have hj' : j < vs.length := by rw [← rr.length]; exact hj
    exact ⟨vs, vs[j], sq, List.getElem?_eq_getElem hj'⟩
  · obtain ⟨vs, sq, rr⟩ := key m1 h1 H1 e rl hk
    obtain ⟨rfl, y⟩ := y
    obtain ⟨u, h1, h2⟩ := rr.get' (y vs sq)
    exact ⟨u, h1, rl, .refl _ _, h2⟩
  · obtain ⟨vs, sq, rr⟩ := key m1 h1 H1 e rl hk
    exact ⟨vs, sq, by rw [← rr.length]; exact Nat.le_refl _⟩
theorem it_tup {m : List Addr} {H : Hp} {a : Addr} {xs : List U} {vs : List V} (t : TupAt W.K H a vs) (rr : RVs W.K m H xs vs) : ItOk W ⟨xs, fun _ => True⟩ m H (Itt W.K a) := by
  refine ⟨fun j m1 h1 H1 e rl hk hj => ?_, fun j m1 h1 H1 x H' e rl hk y hj => ?_, fun m1 h1 H1 e rl hk => ?_⟩
  · have hj' : j < vs.length := by rw [← rr.length]; exact hj
    exact ⟨vs, vs[j], (t.mono e).sq, List.getElem?_eq_getElem hj'⟩
  · obtain ⟨rfl, y⟩ := y
    obtain ⟨u, h1, h2⟩ := rr.get' (y vs (t.mono e).sq)
    exact ⟨u, h1, rl, .refl _ _, RV.mono e u h2⟩
  · exact ⟨vs, (t.mono e).sq, by rw [← rr.length]; exact Nat.le_refl _⟩
theorem si_seq (hK : X.K = W.K) (ha : SE W X a fa) : SI W X tg a (iSeq fa) := by
  refine ⟨fun w tk σ h m τ H R rl rs p => ?_⟩
  unfold iSeq at p
  cases q : fa σ h with
  | bad => rw [q] at p; exact p.elim
  | ex x h' =>
    refine ⟨_, pi_list (EvT.pe X a), ha.run w tk σ h m τ H _ rl rs ?_⟩
    rw [q] at p ⊢
    exact p
  | ok x h1 =>
    rw [q] at p
    simp only [bind_ok, iSeqk] at p
    have key : ∀ (te : TI), PI X tg a te → (∀ (R' : It → Hp → Prop) (v : V) (m1 : List Addr) (H1 : Hp), Ext m H m1 H1 → Rel W m1 h1 H1 → RV W.K m1 H1 x v → True) → True := fun _ _ _ => trivial
    cases x with
    | tup xs =>
      refine ⟨_, pi_tup (EvT.pe X a), ha.run w tk σ h m τ H _ rl rs ?_⟩
      rw [q]
      intro m1 H1 v e rl1 rv
      obtain ⟨pa, vs, rfl, t, rr⟩ := rv.tup_inv
      rw [hK]
      exact ⟨pa, rfl, ⟨vs, t.sq⟩, p m1 H1 _ e rl1 (it_tup t rr)⟩
    | ref i =>
      refine ⟨_, pi_list (EvT.pe X a), ha.run w tk σ h m τ H _ rl rs ?_⟩
      rw [q]
      intro m1 H1 v e rl1 rv
      obtain ⟨pa, rfl, hm⟩ := rv.ref_inv
      simp only [srcU] at p
      rw [hK]
      split at p
      · rename_i src e0
        split at e0
        · rename_i xs e2
          cases e0
          obtain ⟨vs, sq, rr⟩ := (rl1.at_ i _ pa e2 hm).sql
          exact ⟨pa, rfl, ⟨vs, sq⟩, p m1 H1 _ e rl1 (it_lst (.inl rfl) hm)⟩
        · rename_i xs e2
          cases e0
          obtain ⟨vs, sq, rr⟩ := (rl1.at_ i _ pa e2 hm).sqf
          exact ⟨pa, rfl, ⟨vs, sq⟩, p m1 H1 _ e rl1 (it_lst (.inr rfl) hm)⟩
        · cases e0
      · exact p.elim
    | _ => exact p.elim
/-! range -/
def rgU (lo : Int) (n : Nat) : List U := (List.range n).map fun k => .int (lo + (k : Nat))
theorem rgU_length (lo : Int) (n : Nat) : (rgU lo n).length = n := by simp [rgU]
theorem rgU_get {lo : Int} {n k : Nat} (h : k < n) : (rgU lo n)[k]? = some (.int (lo + k)) := by simp [rgU, h]
abbrev big62 (j : Int) : Prop := -4611686018427387904 ≤ j ∧ j < 4611686018427387904
noncomputable def rgS1 (us : List U) : Option Src := match us with
  | [.int j] => @ite _ (big62 j) (Classical.propDecidable _) (some ⟨rgU 0 j.toNat, fun _ => True⟩) none
  | _ => none
noncomputable def rgS2 (us : List U) : Option Src := match us with
  | [.int i, .int j] => @ite _ (big62 i ∧ big62 j) (Classical.propDecidable _) (some ⟨rgU i (j - i).toNat, fun _ => True⟩) none
  | _ => none
noncomputable def iRg1k (us : List U) (h : Hb) : Res Src := match rgS1 us with | some src => .ok src h | none => .bad
noncomputable def iRg1 (fs : Ea) : Si := fun s h => (fs s h).bind iRg1k
noncomputable def iRg2k (us : List U) (h : Hb) : Res Src := match rgS2 us with | some src => .ok src h | none => .bad
noncomputable def iRg2 (fs : Ea) : Si := fun s h => (fs s h).bind iRg2k
theorem it_rg {m : List Addr} {H : Hp} (lo : Int) (n : Nat) : ItOk W ⟨rgU lo n, fun _ => True⟩ m H (Itr lo n) := by
  refine ⟨fun j m1 h1 H1 e rl hk hj => ?_, fun j m1 h1 H1 x H' e rl hk y hj => ?_, fun m1 h1 H1 e rl hk => ?_⟩
  · show j < n; rw [← rgU_length lo n]; exact hj
  · obtain ⟨rfl, rfl⟩ := y
    exact ⟨_, rgU_get (by rw [← rgU_length lo n]; exact hj), rl, .refl _ _, .mk_int _⟩
  · show n ≤ (rgU lo n).length; rw [rgU_length]; exact Nat.le_refl _
theorem si_rg1 {p pos : Pos} (hg : Gl X "range") (hm : X.mg "range" = none) (ha : SA W X [a] fs) (hs : starEach [a] X.env = [(false, eval a X.env)]) : SI W X tg (.Call (.Name "range" p) [a] [] pos) (iRg1 fs) := by
  refine ⟨fun w tk σ h m τ H R rl rs q => ⟨_, pi_range1 hg hm (EvA.pa X [a]) hs, ?_⟩⟩
  refine ha.run w tk σ h m τ H _ rl rs (PostI.bind q fun us h1 m1 H1 vs e0 e rl1 rv q1 => ?_)
  unfold iRg1k at q1
  split at q1
  · rename_i src es
    simp only [rgS1] at es
    split at es
    · split at es
      · rename_i j hb
        cases es
        obtain ⟨v, r, rfl, a, b⟩ := rv.inv_cons
        rw [b.inv_nil, a.int_inv]
        exact ⟨j, rfl, by omega, by omega, q1 m1 H1 _ (.refl _ _) rl1 (it_rg 0 _)⟩
      · cases es
    · cases es
  · exact q1.elim
theorem si_rg2 {p pos : Pos} (hg : Gl X "range") (hm : X.mg "range" = none) (ha : SA W X [a, b] fs) (hs : starEach [a, b] X.env = [(false, eval a X.env), (false, eval b X.env)]) (hs2 : starEach [b] X.env = [(false, eval b X.env)]) : SI W X tg (.Call (.Name "range" p) [a, b] [] pos) (iRg2 fs) := by
  refine ⟨fun w tk σ h m τ H R rl rs q => ⟨_, pi_range2 hg hm (EvA.pa X [a, b]) hs hs2, ?_⟩⟩
  refine ha.run w tk σ h m τ H _ rl rs (PostI.bind q fun us h1 m1 H1 vs e0 e rl1 rv q1 => ?_)
  unfold iRg2k at q1
  split at q1
  · rename_i src es
    simp only [rgS2] at es
    split at es
    · split at es
      · rename_i i j hb
        cases es
        obtain ⟨v, r, rfl, a, b⟩ := rv.inv_cons
        obtain ⟨v2, r, rfl, a2, b⟩ := b.inv_cons
        rw [b.inv_nil, a.int_inv, a2.int_inv]
        exact ⟨i, j, rfl, ⟨by omega, by omega, by omega, by omega⟩, q1 m1 H1 _ (.refl _ _) rl1 (it_rg i _)⟩
      · cases es
    · cases es
  · exact q1.elim
/-! enumerate(list) -/
def enU (xs : List U) : List U := (List.range xs.length).map fun k => .tup [.int (k : Nat), xs.getD k .non]
theorem enU_length (xs : List U) : (enU xs).length = xs.length := by simp [enU]
theorem enU_get {xs : List U} {k : Nat} {u : U} (h : xs[k]? = some u) : (enU xs)[k]? = some (.tup [.int k, u]) := by
  have hk : k < xs.length := (List.getElem?_eq_some_iff.mp h).1
  have hx : xs[k] = u := by rw [List.getElem?_eq_getElem hk] at h; exact Option.some.inj h
  simp [enU, hk, hx]
def iEnk (x : U) (h : Hb) : Res Src := match x with
  | .ref a => match h[a]? with
    | some (.lst xs) => .ok ⟨enU xs, fun h' => h'[a]? = some (.lst xs)⟩ h
    | _ => .bad
  | .tup xs => .ok ⟨enU xs, fun _ => True⟩ h
  | _ => .bad
def iEn (fa : Ev) : Si := fun s h => (fa s h).bind iEnk
theorem it_en {m : List Addr} {H : Hp} {i : Nat} {a : Addr} {xs : List U} (hm : m[i]? = some a) : ItOk W ⟨enU xs, fun h' => h'[i]? = some (.lst xs)⟩ m H (Ite W.K a) := by
  have key : ∀ m1 h1 H1, Ext m H m1 H1 → Rel W m1 h1 H1 → h1[i]? = some (.lst xs) → ∃ vs, SqL W.K H1 a vs ∧ RVs W.K m1 H1 xs vs := fun m1 h1 H1 e rl hk => (rl.at_ i _ a hk (e.at hm)).sql
  refine ⟨fun j m1 h1 H1 e rl hk hj => ?_, fun j m1 h1 H1 x H' e rl hk y hj => ?_, fun m1 h1 H1 e rl hk => ?_⟩
  · obtain ⟨vs, sq, rr⟩ := key m1 h1 H1 e rl hk
    have hj' : j < vs.length := by rw [← rr.length]; rw [enU_length] at hj; exact hj
    exact ⟨vs, vs[j], sq, List.getElem?_eq_getElem hj'⟩
  · obtain ⟨vs, sq, rr⟩ := key m1 h1 H1 e rl hk
    obtain ⟨T, x, rfl, nT, rfl, y⟩ := y
    obtain ⟨u, h1, h2⟩ := rr.get' (y vs sq)
    obtain ⟨rl2, e2⟩ := rl.junk (o := .tup [.int (j : Nat), x]) nT
    exact ⟨_, enU_get h1, rl2, e2, .mk_tup (.inl upd_same) (.cons (.mk_int _) (.cons (RV.mono e2 u h2) .nil))⟩
  · obtain ⟨vs, sq, rr⟩ := key m1 h1 H1 e rl hk
    exact ⟨vs, sq, by rw [enU_length, ← rr.length]; exact Nat.le_refl _⟩
theorem it_enT {m : List Addr} {H : Hp} {a : Addr} {xs : List U} {vs : List V} (t : TupAt W.K H a vs) (rr : RVs W.K m H xs vs) : ItOk W ⟨enU xs, fun _ => True⟩ m H (EnT.ItE W.K a) := by
  refine ⟨fun k m1 h1 H1 e rl hk hj => ?_, fun k m1 h1 H1 x H' e rl hk y hj => ?_, fun m1 h1 H1 e rl hk => ?_⟩
  · have hj : k < (enU xs).length := hj
    have hj' : k < vs.length := by rw [← rr.length]; rw [enU_length] at hj; exact hj
    exact ⟨vs, vs[k], (t.mono e).sq, List.getElem?_eq_getElem hj'⟩
  · obtain ⟨T, x, rfl, nT, rfl, f1⟩ := y
    obtain ⟨u, h1, h2⟩ := rr.get' (f1 vs (t.mono e).sq)
    obtain ⟨rl2, e2⟩ := rl.junk (o := .tup [.int (k : Nat), x]) nT
    exact ⟨_, enU_get h1, rl2, e2, .mk_tup (.inl upd_same) (.cons (.mk_int _) (.cons (RV.mono e2 u (RV.mono e u h2)) .nil))⟩
  · exact ⟨vs, (t.mono e).sq, by show vs.length ≤ (enU xs).length; rw [enU_length, ← rr.length]; exact Nat.le_refl _⟩
theorem si_en {p pos tpos : Pos} {elts : List Expr} {kk : Nat} (hK : X.K = W.K) (hg : Gl X "enumerate") (hm : X.mg "enumerate" = none) (ha : SE W X a fa) (hs : starEach [a] X.env = [(false, eval a X.env)]) :
    SI W X (.Tuple elts kk tpos) (.Call (.Name "enumerate" p) [a] [] pos) (iEn fa) := by
  refine ⟨fun w tk σ h m τ H R rl rs q => ⟨_, EnT.pi_enA hg hm (pa_cons (EvT.pe X a) pa_nil hs) hs, ?_⟩⟩
  refine ha.run w tk σ h m τ H _ rl rs (PostI.bind q fun x h1 m1 H1 v e0 e rl1 rv q1 => ?_)
  cases x with
  | ref i =>
    simp only [iEnk] at q1
    split at q1
    · rename_i xs ex
      obtain ⟨pa, hv, rfl, hm, hl, rr⟩ := rl1.lst rv ex
      exact ⟨pa, _, rfl, .inl ⟨by rw [hK]; exact .inl (.inl hl), by rw [hK]; exact q1 m1 H1 _ (.refl _ _) rl1 (it_en hm)⟩⟩
    · exact q1.elim
  | tup us =>
    simp only [iEnk] at q1
    unfold RV at rv
    obtain ⟨pa, vs, rfl, t, rr⟩ := rv
    exact ⟨pa, vs, rfl, .inr ⟨by rw [hK]; exact t.sq, by rw [hK]; exact q1 m1 H1 _ (.refl _ _) rl1 (it_enT t rr)⟩⟩
  | _ => exact q1.elim

/-! ### sorted: ints, pairs of ints -/
def rSrtP (K : PySem.W.Frag) : List V → Hp → VK → Prop := fun vs H Q => ∃ (a : Addr) (xs : List V), vs = [V.ref a] ∧ SqL K H a xs ∧ (∀ x ∈ xs, ∃ t, ∃ p : Int × Int, x = V.ref t ∧ SqT K H t [.int p.1, .int p.2]) ∧
  ∀ (ys : List V) (k : V → Int × Int) (p : Addr), (∀ x ∈ xs, ∀ (t : Addr) (q : Int × Int), x = V.ref t → SqT K H t [.int q.1, .int q.2] → k x = q) → SrtO.Srtd (ltP k) ys → ys.Perm xs → H p = none → Q (.ref p) (upd H p (.lst ys))
theorem cr_srtP {X : Cx} : CallR X (.builtin "sorted") (rSrtP X.K) := by
  intro pins s σ H vs us Q I r h
  obtain ⟨a, xs, rfl, hs, hx, q⟩ := h
  obtain ⟨its, rv, hl, hz⟩ := I.list hs
  obtain ⟨u, rfl, ru⟩ := vals1 r
  obtain rfl : u = Value.ref a := ru
  obtain ⟨e1, e2⟩ := refs_back rv fun x m => by
    obtain ⟨t, _, e, _⟩ := hx x m
    exact ⟨t, e⟩
  obtain ⟨k, hk⟩ : ∃ k : V → Int × Int, ∀ x ∈ xs, ∀ (t : Addr) (q : Int × Int), x = V.ref t → SqT X.K H t [.int q.1, .int q.2] → k x = q := by
    refine ⟨fun x => if h : ∃ q : Int × Int, ∃ t, x = V.ref t ∧ SqT X.K H t [.int q.1, .int q.2] then Classical.choose h else (0, 0), fun x _ t q e hq => ?_⟩
    have h : ∃ q : Int × Int, ∃ t, x = V.ref t ∧ SqT X.K H t [.int q.1, .int q.2] := ⟨q, t, e, hq⟩
    show (if h : ∃ q : Int × Int, ∃ t, x = V.ref t ∧ SqT X.K H t [.int q.1, .int q.2] then Classical.choose h else (0, 0)) = q
    rw [dif_pos h]
    obtain ⟨t', e', hq'⟩ := Classical.choose_spec h
    generalize Classical.choose h = q' at *
    rw [e] at e'; cases e'
    have := I.tuple_inj hq hq'
    simp only [List.cons.injEq, V.int.injEq, and_true] at this
    exact Prod.ext this.1.symm this.2.symm
  refine SrtO.sorted_pairsO (k := fun u => k (backV u)) hl.isList (by rw [← rv.length]; exact hz) (fun v hv => ?_) fun h' d out h1 h2 kp hd hn => ?_
  · obtain ⟨t, rfl⟩ := e2 v hv
    have hm : V.ref t ∈ xs := by rw [e1]; exact List.mem_map.mpr ⟨_, hv, rfl⟩
    obtain ⟨t', p, e, ht⟩ := hx _ hm
    have ek := hk _ hm t' p e ht
    cases e
    obtain ⟨its2, r2, hT, _⟩ := I.tuple ht
    obtain ⟨u1, u2, e3, ri, rj⟩ := vals2 r2
    obtain ⟨t1, rfl⟩ := ri
    obtain ⟨t2, rfl⟩ := rj
    obtain ⟨o, ho, hc, n, hd⟩ := hT
    have ek' : k (backV (.ref t)) = p := ek
    rw [ek']
    exact ⟨t, o, t1, t2, n, rfl, ho, hc, by rw [hd, e3]⟩
  · have h3 : ∀ u ∈ out, ∃ a, u = Value.ref a := fun u hu => e2 u (h2.perm.mem_iff.mp hu)
    obtain ⟨n, hn⟩ := hn
    have hb : SrtO.Stb (ltP k) (out.map backV) xs := by
      rw [e1]
      exact SrtO.Stb.map (ltP_swo k) backV h2
    refine ⟨.ref d, upd H d (.lst (out.map backV)), I.laid (t' := s.toks) kp hd ⟨?_, out, n, vals_back h3, hn⟩, rfl, q _ k d hk (SrtO.srtd_map h1) hb.perm (I.hok.fresh hd)⟩
    rw [hb.len]
    exact hz
def leP (a b : Int × Int) : Bool := !SrtO.lexB b a
theorem leP_iff {a b : Int × Int} : leP a b = true ↔ a.1 < b.1 ∨ (a.1 = b.1 ∧ a.2 ≤ b.2) := by
  unfold leP
  rw [Bool.not_eq_true', SrtO.lexB_no]
  omega
def sortI (xs : List Int) : List Int := xs.mergeSort fun a b => decide (a ≤ b)
def sortP (xs : List (Int × Int)) : List (Int × Int) := xs.mergeSort leP
theorem sortI_pw (xs : List Int) : (sortI xs).Pairwise (· ≤ ·) :=
  (List.pairwise_mergeSort (le := fun a b : Int => decide (a ≤ b)) (fun a b c h1 h2 => by simp only [decide_eq_true_eq] at *; omega) (fun a b => by simp only [Bool.or_eq_true, decide_eq_true_eq]; omega) xs).imp fun h => by simpa using h
theorem sortP_pw (xs : List (Int × Int)) : (sortP xs).Pairwise fun a b => leP a b = true :=
  List.pairwise_mergeSort (le := leP) (fun a b c h1 h2 => by rw [leP_iff] at *; omega) (fun a b => by rw [Bool.or_eq_true, leP_iff, leP_iff]; omega) xs
theorem sortI_uniq {xs ys : List Int} (h : ys.Perm xs) (p : ys.Pairwise (· ≤ ·)) : ys = sortI xs :=
  List.Perm.eq_of_pairwise (le := (· ≤ ·)) (fun a b _ _ h1 h2 => Int.le_antisymm h1 h2) p (sortI_pw xs) (h.trans (List.mergeSort_perm xs _).symm)
theorem sortP_uniq {xs ys : List (Int × Int)} (h : ys.Perm xs) (p : ys.Pairwise fun a b => leP a b = true) : ys = sortP xs :=
  List.Perm.eq_of_pairwise (le := fun a b => leP a b = true) (fun a b _ _ h1 h2 => by rw [leP_iff] at *; exact Prod.ext (by omega) (by omega)) p (sortP_pw xs) (h.trans (List.mergeSort_perm xs _).symm)
def pairsU : List U → Option (List (Int × Int))
  | [] => some []
  | .tup [.int a, .int b] :: r => (pairsU r).map ((a, b) :: ·)
  | _ => none
def prU (p : Int × Int) : U := .tup [.int p.1, .int p.2]
theorem pairsU_eq : ∀ {us : List U} {ps : List (Int × Int)}, pairsU us = some ps → us = ps.map prU
  | [], ps, e => by cases e; rfl
  | u :: us, ps, e => by
    unfold pairsU at e
    split at e
    · rename_i h; cases h
    · rename_i a b r h
      cases h
      simp only [Option.map_eq_some_iff] at e
      obtain ⟨qs, e, rfl⟩ := e
      rw [pairsU_eq e]; rfl
    · cases e
def cSrt : GC := fun us h => match us with
  | [x] => match lstU h x with
    | some xs => match intsU xs with
      | some bs => .ok (.ref h.length) (h ++ [.lst ((sortI bs).map .int)])
      | none => match pairsU xs with
        | some ps => .ok (.ref h.length) (h ++ [.lst ((sortP ps).map prU)])
        | none => .bad
    | none => .bad
  | _ => .bad
theorem rvs_intsV {m : List Addr} {H : Hp} : ∀ (xs : List Int), RVs W.K m H (xs.map .int) (xs.map .int)
  | [] => .nil
  | x :: xs => .cons (.mk_int x) (rvs_intsV xs)
theorem rvs_prs {m : List Addr} {H : Hp} : ∀ {ps : List (Int × Int)} {xs : List V}, RVs W.K m H (ps.map prU) xs → ∀ x, x ∈ xs → ∃ t, ∃ p : Int × Int, x = V.ref t ∧ TupAt W.K H t [.int p.1, .int p.2]
  | [], xs, r, x, hx => by rw [r.inv_nil] at hx; cases hx
  | p :: ps, xs, r, x, hx => by
    obtain ⟨v, q, rfl, a, b⟩ := r.inv_cons
    rcases List.mem_cons.mp hx with rfl | hx
    · obtain ⟨t, vs, rfl, ta, rr⟩ := a.tup_inv
      obtain ⟨v1, q1, rfl, a1, b1⟩ := rr.inv_cons
      obtain ⟨v2, q2, rfl, a2, b2⟩ := b1.inv_cons
      rw [b2.inv_nil, a1.int_inv, a2.int_inv] at ta
      exact ⟨t, p, rfl, ta⟩
    · exact rvs_prs b x hx
theorem rvs_prs_map {m : List Addr} {H : Hp} {k : V → Int × Int} : ∀ {ps : List (Int × Int)} {xs : List V}, RVs W.K m H (ps.map prU) xs → (∀ x ∈ xs, ∀ (t : Addr) (q : Int × Int), x = V.ref t → SqT W.K H t [.int q.1, .int q.2] → k x = q) → xs.map k = ps
  | [], xs, r, hk => by rw [r.inv_nil]; rfl
  | p :: ps, xs, r, hk => by
    obtain ⟨v, q, rfl, a, b⟩ := r.inv_cons
    obtain ⟨t, vs, rfl, ta, rr⟩ := a.tup_inv
    obtain ⟨v1, q1, rfl, a1, b1⟩ := rr.inv_cons
    obtain ⟨v2, q2, rfl, a2, b2⟩ := b1.inv_cons
    rw [b2.inv_nil, a1.int_inv, a2.int_inv] at ta
    rw [List.map_cons, hk _ List.mem_cons_self t p rfl ta.sq, rvs_prs_map b fun x hx => hk x (List.mem_cons_of_mem _ hx)]
theorem rvs_of_mem {m : List Addr} {H : Hp} {k : V → Int × Int} : ∀ {ys : List V}, (∀ y ∈ ys, RV W.K m H (prU (k y)) y) → RVs W.K m H ((ys.map k).map prU) ys
  | [], _ => .nil
  | y :: ys, h => .cons (h y List.mem_cons_self) (rvs_of_mem fun z hz => h z (List.mem_cons_of_mem _ hz))
theorem o_srt : OpC W (fun xs H Q => rSortedI W.K xs H Q ∨ rSrtP W.K xs H Q) cSrt := by
  intro us h m H vs Q E rl rv q
  unfold cSrt at q
  split at q
  · rename_i x
    obtain ⟨v, r, rfl, a, b⟩ := rv.inv_cons
    rw [b.inv_nil]
    split at q
    · rename_i xs e1
      obtain ⟨pa, ws, rfl, sq, rr⟩ := lst_rel rl a e1
      split at q
      · rename_i bs e2
        refine .inl ⟨pa, bs, rfl, by rw [← rr.ints e2]; exact sq, fun ns' p h1 h2 hp => ?_⟩
        rw [sortI_uniq h1 h2]
        exact new_lst rl (rvs_intsV _) q p hp
      · split at q
        · rename_i ps e2
          have eu := pairsU_eq e2
          subst eu
          have mem := rvs_prs rr
          refine .inr ⟨pa, ws, rfl, sq, fun x hx => by obtain ⟨t, p, e, ta⟩ := mem x hx; exact ⟨t, p, e, ta.sq⟩, fun ys k p hk h1 h2 hp => ?_⟩
          have hm := rvs_prs_map rr hk
          have ey : ys.map k = sortP ps := by
            refine sortP_uniq (by rw [← hm]; exact h2.map k) (List.pairwise_map.mpr (h1.imp fun {x y} e => ?_))
            unfold leP
            rw [show SrtO.lexB (k y) (k x) = false from e]; rfl
          have ry : RVs W.K m H ((sortP ps).map prU) ys := by
            rw [← ey]
            refine rvs_of_mem fun y hy => ?_
            have hx := h2.mem_iff.mp hy
            obtain ⟨t, p, e, ta⟩ := mem y hx
            rw [hk y hx t p e ta.sq, e]
            exact .mk_tup ta (.cons (.mk_int _) (.cons (.mk_int _) .nil))
          exact new_lst rl ry q p hp
        · exact q.elim
    · exact q.elim
  · exact q.elim

/-! zip of two lists, or of two tuples -/
def zpU (xs ys : List U) : List U := (List.range (min xs.length ys.length)).map fun k => .tup [xs.getD k .non, ys.getD k .non]
theorem zpU_length (xs ys : List U) : (zpU xs ys).length = min xs.length ys.length := by simp [zpU]
theorem zpU_get {xs ys : List U} {k : Nat} {u v : U} (h : xs[k]? = some u) (h2 : ys[k]? = some v) : (zpU xs ys)[k]? = some (.tup [u, v]) := by
  have hk : k < xs.length := (List.getElem?_eq_some_iff.mp h).1
  have hk2 : k < ys.length := (List.getElem?_eq_some_iff.mp h2).1
  have hx : xs[k] = u := by rw [List.getElem?_eq_getElem hk] at h; exact Option.some.inj h
  have hy : ys[k] = v := by rw [List.getElem?_eq_getElem hk2] at h2; exact Option.some.inj h2
  have hm : k < min xs.length ys.length := by omega
  simp [zpU]
  exact ⟨k, by rw [List.getElem?_range hm], by simp [h], by simp [h2]⟩
def zpS (h : Hb) (us : List U) : Option Src := match us with
  | [.ref a, .ref b] => match h[a]?, h[b]? with
    | some (.lst xs), some (.lst ys) => some ⟨zpU xs ys, fun h' => h'[a]? = some (.lst xs) ∧ h'[b]? = some (.lst ys)⟩
    | _, _ => none
  | [.tup xs, .tup ys] => some ⟨zpU xs ys, fun _ => True⟩
  | [.ref a, .tup ys] => match h[a]? with
    | some (.lst xs) => some ⟨zpU xs ys, fun h' => h'[a]? = some (.lst xs)⟩
    | _ => none
  | _ => none
def iZpk (us : List U) (h : Hb) : Res Src := match zpS h us with | some src => .ok src h | none => .bad
def iZp (fs : Ea) : Si := fun s h => (fs s h).bind iZpk
theorem it_zpL {m : List Addr} {H : Hp} {i j : Nat} {a b : Addr} {xs ys : List U} (hm : m[i]? = some a) (hm2 : m[j]? = some b) : ItOk W ⟨zpU xs ys, fun h' => h'[i]? = some (.lst xs) ∧ h'[j]? = some (.lst ys)⟩ m H (Itz W.K a b) := by
  have key : ∀ m1 h1 H1, Ext m H m1 H1 → Rel W m1 h1 H1 → (h1[i]? = some (.lst xs) ∧ h1[j]? = some (.lst ys)) → ∃ vs ws, SqL W.K H1 a vs ∧ RVs W.K m1 H1 xs vs ∧ SqL W.K H1 b ws ∧ RVs W.K m1 H1 ys ws := fun m1 h1 H1 e rl hk => by
    obtain ⟨vs, q1, q2⟩ := (rl.at_ i _ a hk.1 (e.at hm)).sql
    obtain ⟨ws, q3, q4⟩ := (rl.at_ j _ b hk.2 (e.at hm2)).sql
    exact ⟨vs, ws, q1, q2, q3, q4⟩
  refine ⟨fun k m1 h1 H1 e rl hk hj => ?_, fun k m1 h1 H1 x H' e rl hk y hj => ?_, fun m1 h1 H1 e rl hk => ?_⟩
  · obtain ⟨vs, ws, sq, rr, sq2, rr2⟩ := key m1 h1 H1 e rl hk
    have hj : k < (zpU xs ys).length := hj
    rw [zpU_length] at hj
    have l1 : k < vs.length := by rw [← rr.length]; omega
    have l2 : k < ws.length := by rw [← rr2.length]; omega
    exact ⟨vs, ws, vs[k], ws[k], sq, sq2, List.getElem?_eq_getElem l1, List.getElem?_eq_getElem l2⟩
  · obtain ⟨vs, ws, sq, rr, sq2, rr2⟩ := key m1 h1 H1 e rl hk
    obtain ⟨T, x, z, rfl, nT, rfl, f1, f2⟩ := y
    obtain ⟨u, h1, h2⟩ := rr.get' (f1 vs sq)
    obtain ⟨u2, h3, h4⟩ := rr2.get' (f2 ws sq2)
    obtain ⟨rl2, e2⟩ := rl.junk (o := .tup [x, z]) nT
    exact ⟨_, zpU_get h1 h3, rl2, e2, .mk_tup (.inl upd_same) (.cons (RV.mono e2 u h2) (.cons (RV.mono e2 u2 h4) .nil))⟩
  · obtain ⟨vs, ws, sq, rr, sq2, rr2⟩ := key m1 h1 H1 e rl hk
    refine ⟨vs, ws, sq, sq2, ?_⟩
    show vs.length ≤ (zpU xs ys).length ∨ ws.length ≤ (zpU xs ys).length
    rw [zpU_length, ← rr.length, ← rr2.length]; omega
theorem it_zpT {m : List Addr} {H : Hp} {a b : Addr} {xs ys : List U} {vs ws : List V} (t : TupAt W.K H a vs) (rr : RVs W.K m H xs vs) (t2 : TupAt W.K H b ws) (rr2 : RVs W.K m H ys ws) : ItOk W ⟨zpU xs ys, fun _ => True⟩ m H (RZ.ItzT W.K a b) := by
  refine ⟨fun k m1 h1 H1 e rl hk hj => ?_, fun k m1 h1 H1 x H' e rl hk y hj => ?_, fun m1 h1 H1 e rl hk => ?_⟩
  · have hj : k < (zpU xs ys).length := hj
    rw [zpU_length] at hj
    have l1 : k < vs.length := by rw [← rr.length]; omega
    have l2 : k < ws.length := by rw [← rr2.length]; omega
    exact ⟨vs, ws, vs[k], ws[k], (t.mono e).sq, (t2.mono e).sq, List.getElem?_eq_getElem l1, List.getElem?_eq_getElem l2⟩
  · obtain ⟨T, x, z, rfl, nT, rfl, f1, f2⟩ := y
    obtain ⟨u, h1, h2⟩ := rr.get' (f1 vs (t.mono e).sq)
    obtain ⟨u2, h3, h4⟩ := rr2.get' (f2 ws (t2.mono e).sq)
    obtain ⟨rl2, e2⟩ := rl.junk (o := .tup [x, z]) nT
    exact ⟨_, zpU_get h1 h3, rl2, e2, .mk_tup (.inl upd_same) (.cons (RV.mono e2 u (RV.mono e u h2)) (.cons (RV.mono e2 u2 (RV.mono e u2 h4)) .nil))⟩
  · refine ⟨vs, ws, (t.mono e).sq, (t2.mono e).sq, ?_⟩
    show vs.length ≤ (zpU xs ys).length ∨ ws.length ≤ (zpU xs ys).length
    rw [zpU_length, ← rr.length, ← rr2.length]; omega
theorem it_zpM {m : List Addr} {H : Hp} {i : Nat} {a b : Addr} {xs ys : List U} {ws : List V} (hm : m[i]? = some a) (t2 : TupAt W.K H b ws) (rr2 : RVs W.K m H ys ws) : ItOk W ⟨zpU xs ys, fun h' => h'[i]? = some (.lst xs)⟩ m H (ZpM.ItzM W.K a b) := by
  have key : ∀ m1 h1 H1, Ext m H m1 H1 → Rel W m1 h1 H1 → h1[i]? = some (.lst xs) → ∃ vs, SqL W.K H1 a vs ∧ RVs W.K m1 H1 xs vs := fun m1 h1 H1 e rl hk => (rl.at_ i _ a hk (e.at hm)).sql
  refine ⟨fun k m1 h1 H1 e rl hk hj => ?_, fun k m1 h1 H1 x H' e rl hk y hj => ?_, fun m1 h1 H1 e rl hk => ?_⟩
  · obtain ⟨vs, sq, rr⟩ := key m1 h1 H1 e rl hk
    have hj : k < (zpU xs ys).length := hj
    rw [zpU_length] at hj
    have l1 : k < vs.length := by rw [← rr.length]; omega
    have l2 : k < ws.length := by rw [← rr2.length]; omega
    exact ⟨vs, ws, vs[k], ws[k], sq, (t2.mono e).sq, List.getElem?_eq_getElem l1, List.getElem?_eq_getElem l2⟩
  · obtain ⟨vs, sq, rr⟩ := key m1 h1 H1 e rl hk
    obtain ⟨T, x, z, rfl, nT, rfl, f1, f2⟩ := y
    obtain ⟨u, h1, h2⟩ := rr.get' (f1 vs sq)
    obtain ⟨u2, h3, h4⟩ := rr2.get' (f2 ws (t2.mono e).sq)
    obtain ⟨rl2, e2⟩ := rl.junk (o := .tup [x, z]) nT
    exact ⟨_, zpU_get h1 h3, rl2, e2, .mk_tup (.inl upd_same) (.cons (RV.mono e2 u h2) (.cons (RV.mono e2 u2 (RV.mono e u2 h4)) .nil))⟩
  · obtain ⟨vs, sq, rr⟩ := key m1 h1 H1 e rl hk
    refine ⟨vs, ws, sq, (t2.mono e).sq, ?_⟩
    show (zpU xs ys).length = min vs.length ws.length
    rw [zpU_length, ← rr.length, ← rr2.length]
theorem si_zp {p pos tpos : Pos} {elts : List Expr} {kk : Nat} (hK : X.K = W.K) (hg : Gl X "zip") (hm : X.mg "zip" = none) (ha : SA W X [a, b] fs) (hs : starEach [a, b] X.env = [(false, eval a X.env), (false, eval b X.env)]) (hs2 : starEach [b] X.env = [(false, eval b X.env)]) :
    SI W X (.Tuple elts kk tpos) (.Call (.Name "zip" p) [a, b] [] pos) (iZp fs) := by
  refine ⟨fun w tk σ h m τ H R rl rs q => ⟨_, ZpM.pi_zipB hg hm (EvA.pa X [a, b]) (by rw [hs, hs2]) (by rw [hs2]; rfl), ?_⟩⟩
  refine ha.run w tk σ h m τ H _ rl rs (PostI.bind q fun us h1 m1 H1 vs e0 e rl1 rv q1 => ?_)
  unfold iZpk at q1
  split at q1
  · rename_i src es
    unfold zpS at es
    split at es
    · split at es
      · rename_i i j xs ys e1 e2
        cases es
        obtain ⟨v, r, rfl, a, b⟩ := rv.inv_cons
        obtain ⟨v2, r, rfl, a2, b⟩ := b.inv_cons
        rw [b.inv_nil]
        obtain ⟨pa, vs1, rfl, hm1, hl1, rr1⟩ := rl1.lst a e1
        obtain ⟨pa2, vs2, rfl, hm2, hl2, rr2⟩ := rl1.lst a2 e2
        exact ⟨pa, pa2, _, _, rfl, .inl ⟨by rw [hK]; exact .inl (.inl hl1), by rw [hK]; exact .inl (.inl hl2), by rw [hK]; exact q1 m1 H1 _ (.refl _ _) rl1 (it_zpL hm1 hm2)⟩⟩
      · cases es
    · rename_i xs ys
      cases es
      obtain ⟨v, r, rfl, a, b⟩ := rv.inv_cons
      obtain ⟨v2, r, rfl, a2, b⟩ := b.inv_cons
      rw [b.inv_nil]
      obtain ⟨pa, vs1, rfl, t1, rr1⟩ := a.tup_inv
      obtain ⟨pa2, vs2, rfl, t2, rr2⟩ := a2.tup_inv
      exact ⟨pa, pa2, vs1, vs2, rfl, .inr (.inl ⟨by rw [hK]; exact t1.sq, by rw [hK]; exact t2.sq, by rw [hK]; exact q1 m1 H1 _ (.refl _ _) rl1 (it_zpT t1 rr1 t2 rr2)⟩)⟩
    · split at es
      · rename_i i ys xs e1
        cases es
        obtain ⟨v, r, rfl, a, b⟩ := rv.inv_cons
        obtain ⟨v2, r, rfl, a2, b⟩ := b.inv_cons
        rw [b.inv_nil]
        obtain ⟨pa, vs1, rfl, hm1, hl1, rr1⟩ := rl1.lst a e1
        obtain ⟨pa2, vs2, rfl, t2, rr2⟩ := a2.tup_inv
        exact ⟨pa, pa2, _, vs2, rfl, .inr (.inr ⟨by rw [hK]; exact .inl (.inl hl1), by rw [hK]; exact t2.sq, by rw [hK]; exact q1 m1 H1 _ (.refl _ _) rl1 (it_zpM hm1 t2 rr2)⟩)⟩
      · cases es
    · cases es
  · exact q1.elim

/-! ### targets of names alone -/
abbrev Tn := U → Sg → Option Sg
structure SN (W : Wd) (X : Cx) (t : Expr) (g : Tn) (vs : List Nat) : Prop where
  run : ∀ (u : U) (v : V) (σ σ' : Sg) (h : Hb) (m : List Addr) (τ : L2.St) (H : Hp) (Q : L2.St → Hp → Prop), Rel W m h H → RS W.K m H σ τ → RV W.K m H u v → g u σ = some σ' →
    (∀ τ', RS W.K m H σ' τ' → L2.wipe τ' vs = L2.wipe τ vs → Q τ' H) → EvG X t v τ H Q
structure SNs (W : Wd) (X : Cx) (t : List Expr) (g : List U → Sg → Option Sg) (vs : List Nat) : Prop where
  run : ∀ (u : List U) (v : List V) (σ σ' : Sg) (h : Hb) (m : List Addr) (τ : L2.St) (H : Hp) (Q : L2.St → Hp → Prop), Rel W m h H → RS W.K m H σ τ → RVs W.K m H u v → g u σ = some σ' →
    (∀ τ', RS W.K m H σ' τ' → L2.wipe τ' vs = L2.wipe τ vs → Q τ' H) → EvGs X t v τ H Q
def nNm (i : Nat) : Tn := fun u s => some (s.set i (some u))
def nsNil : List U → Sg → Option Sg := fun us s => match us with | [] => some s | _ => none
def nsCons (g : Tn) (gs : List U → Sg → Option Sg) : List U → Sg → Option Sg := fun us s => match us with | u :: r => (g u s).bind (gs r) | [] => none
def nTp (n : Nat) (gs : List U → Sg → Option Sg) : Tn := fun u s => match u with | .tup us => if us.length = n then gs us s else none | _ => none
theorem wipe_get (τ : L2.St) : ∀ (vs : List Nat) (j : Nat), (L2.wipe τ vs)[j]? = if j ∈ vs then (τ[j]?).map (fun _ => none) else τ[j]?
  | [], j => by simp [L2.wipe]
  | v :: vs, j => by
    unfold L2.wipe
    by_cases hv : v = j
    · subst hv
      rw [if_pos List.mem_cons_self]
      by_cases hl : v < τ.length
      · rw [List.getElem?_set_self (by rw [L2.wipe_length]; exact hl), List.getElem?_eq_getElem hl]
        rfl
      · rw [List.getElem?_eq_none (by rw [List.length_set, L2.wipe_length]; omega), List.getElem?_eq_none (by omega)]
        rfl
    · rw [List.getElem?_set_ne hv, wipe_get τ vs j]
      have : j ∈ v :: vs ↔ j ∈ vs := by simp [Ne.symm hv]
      simp [this]
theorem wipe_set {τ : L2.St} {i : Nat} {x : Option V} {vs : List Nat} (hi : i ∈ vs) : L2.wipe (τ.set i x) vs = L2.wipe τ vs := by
  apply List.ext_getElem?
  intro j
  rw [wipe_get, wipe_get]
  by_cases hj : j ∈ vs
  · rw [if_pos hj, if_pos hj]
    by_cases e : i = j
    · subst e
      rw [List.getElem?_set, if_pos rfl]
      by_cases hl : i < τ.length
      · simp [hl]
      · simp [hl, List.getElem?_eq_none (Nat.le_of_not_lt hl)]
    · rw [List.getElem?_set_ne e]
  · have e : i ≠ j := fun z => hj (z ▸ hi)
    rw [if_neg hj, if_neg hj, List.getElem?_set_ne e]
theorem sn_name {i : Nat} {x : Str} {vs : List Nat} (hN : X.N.Nodup) (hi : X.N[i]? = some x) (hx : Loc X.env.scope x) (hf : X.fn x = true ∨ X.env.scope.names.lookup x = some .local) (hv : i ∈ vs) : SN W X (.Name x pos) (nNm i) vs :=
  ⟨fun u v σ σ' h m τ H Q rl rs rv e k => ⟨_, pg_name hN hi hx hf, by cases e; exact k _ (RS.set rv i rs) (wipe_set hv)⟩⟩
theorem sns_nil {vs : List Nat} : SNs W X [] nsNil vs := ⟨fun u v σ σ' h m τ H Q rl rs rv e k => by
  cases u with
  | nil => cases e; rw [rv.inv_nil]; exact ⟨_, pgs_nil, rfl, k τ rs rfl⟩
  | cons _ _ => cases e⟩
theorem sns_cons {g : Tn} {gs : List U → Sg → Option Sg} {vs : List Nat} (h1 : SN W X e g vs) (h2 : SNs W X es gs vs) (hs : (assignEach (e :: es) X.env).map (·.2) = assign e X.env :: (assignEach es X.env).map (·.2)) : SNs W X (e :: es) (nsCons g gs) vs := ⟨fun u v σ σ' h m τ H Q rl rs rv eq k => by
  cases u with
  | nil => cases eq
  | cons u r =>
    obtain ⟨x, y, rfl, a, b⟩ := rv.inv_cons
    simp only [nsCons] at eq
    cases q : g u σ with
    | none => rw [q] at eq; cases eq
    | some s1 =>
      rw [q] at eq
      refine ⟨_, pgs_cons (EvG.pg X e) (EvGs.pgs X es) hs, x, y, rfl, h1.run u x σ s1 h m τ H _ rl rs a q fun τ1 rs1 w1 => ?_⟩
      exact h2.run r y s1 σ' h m τ1 H Q rl rs1 b eq fun τ2 rs2 w2 => k τ2 rs2 (w2.trans w1)⟩
theorem sn_tup {k : Nat} {gs : List U → Sg → Option Sg} {n : Nat} {vs : List Nat} (hK : X.K = W.K) (hc : X.calm = true) (hg : SNs W X es gs vs) (hn : (assignEach es X.env).length = n) (hst : (assignEach es X.env).findIdx? (·.1) = none) : SN W X (.Tuple es k pos) (nTp n gs) vs := ⟨fun u v σ σ' h m τ H Q rl rs rv e kk => by
  cases u with
  | tup us =>
    obtain ⟨a, ws, rfl, t, r⟩ := rv.tup_inv
    simp only [nTp] at e
    split at e
    · rename_i hl
      exact ⟨_, pg_tup hc (EvGs.pgs X es) hn hst, a, ws, rfl, by rw [hK]; exact t.sq, by rw [← r.length]; exact hl, hg.run us ws σ σ' h m τ H Q rl rs r e kk⟩
    · cases e
  | _ => cases e⟩
def gN (g : Tn) : Tg := fun u s h => match g u s with | some s' => .nx s' h | none => .bad
theorem SN.sg {t : Expr} {g : Tn} {vs : List Nat} (n : SN W X t g vs) : SG W X t (gN g) := ⟨fun w tk u v σ h m τ H Q rl rs rv p => by
  simp only [gN] at p
  split at p
  · rename_i s' e
    exact n.run u v σ s' h m τ H Q rl rs rv e fun τ' rs' _ => p m H τ' (.refl _ _) rl rs'
  · exact p.elim⟩
theorem on_gN {g : Tn} : OnlyNx (gN g) := fun u s h => by
  simp only [gN]
  cases g u s <;> simp

/-! ### list comprehensions -/
def lcA (D : Nat) (k : Hb → Res Unit) (y : U) (h : Hb) : Res Unit := match h[D]? with
  | some (.lst acc) => if acc.length < sizeLine then k (h.set D (.lst (acc ++ [y]))) else .bad
  | _ => .bad
def lcB (fe : Ev) (D : Nat) (s2 : Sg) (k : Hb → Res Unit) (b : Bool) (h : Hb) : Res Unit := match b with
  | true => (fe s2 h).calm.bind (lcA D k)
  | false => k h
def lcT (tt : Eb) (fe : Ev) (D : Nat) (k : Hb → Res Unit) (h : Hb) (o : Option Sg) : Res Unit := match o with
  | some s2 => (tt s2 h).calm.bind (lcB fe D s2 k)
  | none => .bad
noncomputable def lcL (ok : Hb → Prop) (g : Tn) (own : List Nat) (tt : Eb) (fe : Ev) (D : Nat) (s : Sg) : List U → Hb → Res Unit
  | [], h => if ok h then .ok () h else .bad
  | x :: xs, h => if ok h then lcT tt fe D (lcL ok g own tt fe D s xs) h (g x (wipeG s own)) else .bad
def bYes : Eb := fun _ h => .ok true h
def lcE (D : Nat) (_ : Unit) (h : Hb) : Res U := .ok (.ref D) h
noncomputable def lcK (g : Tn) (own : List Nat) (tt : Eb) (fe : Ev) (s : Sg) (src : Src) (h : Hb) : Res U := (lcL src.ok g own tt fe h.length s src.xs (h ++ [.lst []])).bind (lcE h.length)
noncomputable def eLc (fi : Si) (g : Tn) (own : List Nat) (tt : Eb) (fe : Ev) : Ev := fun s h => (fi s h).bind (lcK g own tt fe s)
abbrev BX (X : Cx) (scope : Scope) (s : Shared) (H : Hp) (C : Addr) (cl : List (Str × Addr)) (fp : List Addr) : Cx := X.blk s H scope (compEnvC scope cl C X.env) fp
structure STs (W : Wd) (X : Cx) (ifs : List Expr) (f : Eb) : Prop where
  run : ∀ (w : WX), Takes X w → ∀ (σ : Sg) (h : Hb) (m : List Addr) (τ : L2.St) (H : Hp) (Q : Bool → Hp → Prop), Rel W m h H → RS W.K m H σ τ → Post W REq (f σ h) m H Q (fun c d H' => w c d τ H') → ∃ t, PTs X ifs t ∧ t τ H Q
theorem sts_nil : STs W X [] bYes := ⟨fun w tk σ h m τ H Q rl rs p => ⟨_, pts_nil, p.ok rl rfl⟩⟩
theorem sts_one {f : Eb} (ha : SB W X a f) : STs W X [a] f := ⟨fun w tk σ h m τ H Q rl rs p => ⟨_, pts_one (EvB.pt X a), ha.run w tk σ h m τ H Q rl rs p⟩⟩
theorem Post.calm {α β γ δ : Type} {R : List Addr → Hp → α → β → Prop} {R' : List Addr → Hp → γ → δ → Prop} {r : Res γ} {k : γ → Hb → Res α} {m : List Addr} {H : Hp} {Q : β → Hp → Prop} {E E' : Value → Option Addr → Hp → Prop}
    (p : Post W R (r.calm.bind k) m H Q E) {Q' : δ → Hp → Prop} (f : ∀ u h1 m1 H1 v, r = .ok u h1 → Ext m H m1 H1 → Rel W m1 h1 H1 → R' m1 H1 u v → Post W R (k u h1) m1 H1 Q E → Q' v H1) : Post W R' r m H Q' E' := by
  cases r with
  | ok u h' => exact fun m' H' v e rl rv => f u h' m' H' v rfl e rl rv (Post.later p e)
  | ex x h' => exact p.elim
  | bad => exact p
theorem wipe_wipe (τ : L2.St) (vs : List Nat) : L2.wipe (L2.wipe τ vs) vs = L2.wipe τ vs := by
  apply List.ext_getElem?
  intro j
  rw [wipe_get, wipe_get]
  by_cases hj : j ∈ vs
  · rw [if_pos hj, if_pos hj, Option.map_map]
    rfl
  · rw [if_neg hj, if_neg hj]
theorem bind_calm_assoc {α β γ : Type} (r : Res α) (k : α → Hb → Res β) (l : β → Hb → Res γ) : (r.calm.bind k).bind l = r.calm.bind fun a h => (k a h).bind l := by
  cases r <;> rfl
section
variable {iter elt : Expr} {ifs : List Expr} {scope : Scope} {own : List (Str × Nat)} {fi : Si} {g : Tn} {tt : Eb}
/-- the reading of a comprehension -/
theorem lc_reads (hi : SI W X tg iter fi) (hg : ∀ s H C cl fp, SN W (BX X scope s H C cl fp) tg g (own.map (·.2))) (ht : ∀ s H C cl fp, STs W (BX X scope s H C cl fp) ifs tt) (he : ∀ s H C cl fp, SE W (BX X scope s H C cl fp) elt fe)
    {w : WX} (tk : Takes X w) {σ : Sg} {h : Hb} {m : List Addr} {τ : L2.St} {H : Hp} {Q : VK} (rl : Rel W m h H) (rs : RS W.K m H σ τ) (p : Post W (RV W.K) (eLc fi g (own.map (·.2)) tt fe σ h) m H Q (fun c d H' => w c d τ H')) :
    tLc (EvI X tg iter) (fun v t H Q => ∀ s H0 C cl fp, EvG (BX X scope s H0 C cl fp) tg v t H Q) (fun t H Q => ∀ s H0 C cl fp, ∃ tb, PTs (BX X scope s H0 C cl fp) ifs tb ∧ tb t H Q) (fun t H Q => ∀ s H0 C cl fp, EvT (BX X scope s H0 C cl fp) elt t H Q) (own.map (·.2)) τ H Q := by
  refine hi.run w tk σ h m τ H _ rl rs ?_
  unfold eLc at p
  cases q : fi σ h with
  | bad => rw [q] at p; exact p.elim
  | ex x h' => rw [q] at p; exact p
  | ok src h1 =>
    rw [q] at p
    intro m1 H1 J e1 rl1 it D hD
    simp only [bind_ok, lcK] at p
    have p := Post.later p e1
    obtain ⟨rl2, e2, hm2⟩ := rl1.alloc (o := .lst []) (q := .lst []) hD (fun m1 H1 e h1 => ⟨[], h1, .nil⟩)
    have p := Post.later p e2
    generalize hd : h1.length = d at p hm2
    refine ⟨fun i k H2 => ∃ m3 h3, i ≤ src.xs.length ∧ k = src.xs.length - i ∧ Ext (m1 ++ [D]) (upd H1 D (.lst [])) m3 H2 ∧ Rel W m3 h3 H2 ∧ Post W (RV W.K) ((lcL src.ok g (own.map (·.2)) tt fe d σ (src.xs.drop i) h3).bind (lcE d)) m3 H2 Q (fun c d H' => w c d τ H'),
      ⟨src.xs.length, m1 ++ [D], h1 ++ [.lst []], Nat.zero_le _, by simp, .refl _ _, rl2, by simpa using p⟩, ?_⟩
    rintro i k H2 ⟨m3, h3, hi3, rfl, e3, rl3, p3⟩
    by_cases hlt : i < src.xs.length
    · rw [List.drop_eq_getElem_cons hlt] at p3
      simp only [lcL] at p3
      split at p3
      · rename_i hok
        unfold lcT at p3
        split at p3
        · rename_i s2 eg
          refine .inr ⟨it.go i m3 h3 H2 (e2.trans e3) rl3 hok hlt, fun H' => ∃ m4 h4, i + 1 ≤ src.xs.length ∧ Ext (m1 ++ [D]) (upd H1 D (.lst [])) m4 H' ∧ Rel W m4 h4 H' ∧ Post W (RV W.K) ((lcL src.ok g (own.map (·.2)) tt fe d σ (src.xs.drop (i + 1)) h4).bind (lcE d)) m4 H' Q (fun c d H' => w c d τ H'),
            fun H' ⟨m4, h4, a1, a2, a3, a4⟩ => ⟨src.xs.length - (i + 1), by omega, m4, h4, a1, rfl, a2, a3, a4⟩, fun x H' y => ?_⟩
          obtain ⟨u, hu, rl4, e4, rv4⟩ := it.yld i m3 h3 H2 x H' (e2.trans e3) rl3 hok y hlt
          have hu' : src.xs[i] = u := by rw [List.getElem?_eq_getElem hlt] at hu; exact Option.some.inj hu
          rw [hu'] at eg
          have p3 := Post.later p3 e4
          have rsw : RS W.K m3 H' (wipeG σ (own.map (·.2))) (L2.wipe τ (own.map (·.2))) := RS.wipe (rs.mono (e1.trans (e2.trans (e3.trans e4)))) _
          intro sB HB C cl fp
          refine (hg sB HB C cl fp).run u x _ s2 h3 m3 _ H' _ rl4 rsw rv4 eg fun τ2 rs2 hw => ?_
          refine ⟨by rw [hw]; exact wipe_wipe _ _, ?_⟩
          -- the tests
          intro sB HB C cl fp
          have hT := (ht sB HB C cl fp).run (fun _ _ _ _ => False) takes0 s2 h3 m3 τ2 H' 
            (fun b H3 => if b = true then (∀ s H0 C cl fp, EvT (BX X scope s H0 C cl fp) elt τ2 H3 fun y H4 => ∃ acc, H4 D = some (.lst acc) ∧ acc.length < sizeLine ∧ (∃ m4 h4, i + 1 ≤ src.xs.length ∧ Ext (m1 ++ [D]) (upd H1 D (.lst [])) m4 (upd H4 D (.lst (acc ++ [y]))) ∧ Rel W m4 h4 (upd H4 D (.lst (acc ++ [y]))) ∧ Post W (RV W.K) ((lcL src.ok g (own.map (·.2)) tt fe d σ (src.xs.drop (i + 1)) h4).bind (lcE d)) m4 (upd H4 D (.lst (acc ++ [y]))) Q (fun c d H' => w c d τ H')))
              else ∃ m4 h4, i + 1 ≤ src.xs.length ∧ Ext (m1 ++ [D]) (upd H1 D (.lst [])) m4 H3 ∧ Rel W m4 h4 H3 ∧ Post W (RV W.K) ((lcL src.ok g (own.map (·.2)) tt fe d σ (src.xs.drop (i + 1)) h4).bind (lcE d)) m4 H3 Q (fun c d H' => w c d τ H')) rl4 rs2
          refine hT ?_
          rw [bind_calm_assoc] at p3
          refine Post.calm p3 fun b h5 m5 H5 b' eb e5 rl5 rb p5 => ?_
          have rb : b' = b := rb
          subst rb
          cases b' with
          | false =>
            rw [if_neg Bool.false_ne_true]
            exact ⟨m5, h5, hlt, e3.trans (e4.trans e5), rl5, p5⟩
          | true =>
            rw [if_pos rfl]
            intro sB HB C cl fp
            refine (he sB HB C cl fp).run (fun _ _ _ _ => False) takes0 s2 h5 m5 τ2 H5 _ rl5 (rs2.mono e5) ?_
            simp only [lcB] at p5
            rw [bind_calm_assoc] at p5
            refine Post.calm p5 fun y h6 m6 H6 yv ey e6 rl6 ry p6 => ?_
            unfold lcA at p6
            split at p6
            · rename_i acc ea
              split at p6
              · rename_i hz
                have hmD : m6[d]? = some D := (e3.trans (e4.trans (e5.trans e6))).at hm2
                obtain ⟨vacc, hl6, rr6⟩ := rl6.at_ d _ D ea hmD
                obtain ⟨rl7, e7⟩ := rl6.write (q := .lst (vacc ++ [yv])) ea (by intro _ z; cases z) (o' := .lst (acc ++ [y])) (by intro _ z; cases z) hmD (fun m1 H1 e h1 => ⟨_, h1, RVs.mono e _ (rr6.append (.cons ry .nil))⟩)
                exact ⟨vacc, hl6, by rw [← rr6.length]; exact hz, m6, _, hlt, (e3.trans (e4.trans (e5.trans (e6.trans e7)))), rl7, Post.later p6 e7⟩
              · exact p6.elim
            · exact p6.elim
        · exact p3.elim
      · exact p3.elim
    · have ei : i = src.xs.length := by omega
      subst ei
      rw [List.drop_length] at p3
      simp only [lcL] at p3
      split at p3
      · rename_i hok
        refine .inl ⟨it.stop m3 h3 H2 (e2.trans e3) rl3 hok, ?_⟩
        simp only [bind_ok, lcE] at p3
        refine p3.ok rl3 (v := .ref D) ?_
        unfold RV
        exact ⟨D, rfl, e3.at hm2⟩
      · exact p3.elim
end
end
/-! ### x in xs, items that are flat -/
def flU : U → Option V
  | .non => some .non
  | .bl b => some (.bl b)
  | .int i => some (.int i)
  | .str x => some (.str x)
  | _ => none
theorem flU_rel {W : Wd} {m : List Addr} {H : Hp} {u : U} {v v' : V} (r : RV W.K m H u v) (e : flU u = some v') : v = v' ∧ L2.flatV v' = true := by
  cases u with
  | non => cases e; exact ⟨r.non_inv, rfl⟩
  | bl b => cases e; exact ⟨r.bl_inv, rfl⟩
  | int b => cases e; exact ⟨r.int_inv, rfl⟩
  | str b => cases e; exact ⟨r.str_inv, rfl⟩
  | _ => cases e
theorem flUs_rel {W : Wd} {m : List Addr} {H : Hp} : ∀ {us : List U} {vs ws : List V}, RVs W.K m H us vs → mapO flU us = some ws → vs = ws ∧ ws.all L2.flatV = true
  | [], vs, ws, r, e => by cases e; exact ⟨r.inv_nil, rfl⟩
  | u :: us, vs, ws, r, e => by
    obtain ⟨v, q, rfl, a, b⟩ := r.inv_cons
    simp only [mapO] at e
    split at e
    · rename_i y ys e1 e2
      cases e
      obtain ⟨rfl, f1⟩ := flU_rel a e1
      obtain ⟨rfl, f2⟩ := flUs_rel b e2
      exact ⟨rfl, by simp only [List.all_cons, f1, f2, Bool.and_self]⟩
    · cases e
def vIn (neg : Bool) : G2 := fun x y h => match flU x, (seqU h y).bind (mapO flU) with
  | some v, some vs => .ok (.bl (if neg then !L2.inV v vs else L2.inV v vs)) h
  | _, _ => .bad
theorem o_in {W : Wd} {neg : Bool} : Op2 W (L2.rIn W.K neg) (vIn neg) := by
  intro x y h m H v u Q E rl rx ry p
  unfold vIn at p
  split at p
  · rename_i v' vs e1 e2
    obtain ⟨xs, e3, e4⟩ := Option.bind_eq_some_iff.mp e2
    obtain ⟨rfl, f1⟩ := flU_rel rx e1
    obtain ⟨a, ws, rfl, sq, rr⟩ := rl.seq ry e3
    obtain ⟨rfl, f2⟩ := flUs_rel rr e4
    exact ⟨a, ws, rfl, sq, f1, f2, p.ok rl (.mk_bl _)⟩
  · exact p.elim
/-! ### displays with *xs -/
def aS2 (xs ys : List U) (h : Hb) : Res (List U) := .ok (xs ++ ys) h
def aS1 (g : Ea) (s : Sg) (x : U) (h : Hb) : Res (List U) := match seqU h x with | some xs => (g s h).bind (aS2 xs) | none => .bad
def aStar (f : Ev) (g : Ea) : Ea := fun s h => (f s h).bind (aS1 g s)
theorem sa_star {W : Wd} {X : Cx} {a : Expr} {es : List Expr} {fa : Ev} {fs : Ea} {sp : Pos} (hK : X.K = W.K) (ha : SE W X a fa) (hr : SA W X es fs) : SA W X (.Starred a sp :: es) (aStar fa fs) := by
  refine ⟨fun w tk σ h m τ H Q rl rs p => ⟨_, StX.pa_star (EvT.pe X a) (EvA.pa X es), ?_⟩⟩
  refine ha.run w tk σ h m τ H _ rl rs (Post.bind p fun x h1 m1 H1 v _ e1 rl1 rv p1 => ?_)
  unfold aS1 at p1
  split at p1
  · rename_i xs ex
    obtain ⟨l, vs, rfl, sq, rr⟩ := rl1.seq rv ex
    rw [hK]
    refine ⟨l, vs, rfl, sq.symm, ?_⟩
    refine hr.run w tk σ h1 m1 τ H1 _ rl1 (rs.mono e1) (Post.bind p1 fun ys h2 m2 H2 ws _ e2 rl2 rvs p2 => ?_)
    exact p2.ok rl2 ((RVs.mono e2 xs rr).append rvs)
  · exact p1.elim
end Lz
namespace Lz
open PySem PySem.Spec PyProof.Rows PySem.W L2
/-! # sorted, min, max of tuples of ints and texts; min, max of three ints -/
def mi3 (a b c : Int) : Int := if b < a then (if c < b then c else b) else (if c < a then c else a)
def mx3 (a b c : Int) : Int := if b > a then (if c > b then c else b) else (if c > a then c else a)
def r3 (f : Int → Int → Int → Int) : List V → Hp → VK → Prop := fun xs H Q => ∃ i j k, xs = [.int i, .int j, .int k] ∧ Q (.int (f i j k)) H
theorem vals3 {x y z : V} {us : List Value} (r : Vals [x, y, z] us) : ∃ u w v, us = [u, w, v] ∧ RelV x u ∧ RelV y w ∧ RelV z v := by
  cases r with
  | cons r1 r2 =>
    cases r2 with
    | cons r3 r4 =>
      cases r4 with
      | cons r5 r6 => cases r6; exact ⟨_, _, _, rfl, r1, r3, r5⟩
theorem call_min3 {X : Cx} (hc : X.calm = true) : CallR X (.builtin "min") (r3 mi3) := by
  intro pins s σ H xs us Q I r h
  obtain ⟨i, j, k, rfl, q⟩ := h
  obtain ⟨u, w', v', rfl, ⟨t, rfl⟩, ⟨t', rfl⟩, ⟨t2, rfl⟩⟩ := vals3 r
  refine min_three_ints (I.ok.hd hc) fun h' tk kp => ⟨_, H, I.kept kp, ?_, q⟩
  unfold mi3
  repeat' split
  all_goals exact ⟨_, rfl⟩
theorem call_max3 {X : Cx} (hc : X.calm = true) : CallR X (.builtin "max") (r3 mx3) := by
  intro pins s σ H xs us Q I r h
  obtain ⟨i, j, k, rfl, q⟩ := h
  obtain ⟨u, w', v', rfl, ⟨t, rfl⟩, ⟨t', rfl⟩, ⟨t2, rfl⟩⟩ := vals3 r
  refine max_three_ints (I.ok.hd hc) fun h' tk kp => ⟨_, H, I.kept kp, ?_, q⟩
  unfold mx3
  repeat' split
  all_goals exact ⟨_, rfl⟩
/-! rows -/
inductive Ce where
  | i (k : Int)
  | s (x : Str)
def Ce.u : Ce → U
  | .i k => .int k
  | .s x => .str x
def Ce.v : Ce → V
  | .i k => .int k
  | .s x => .str x
def Ce.d : Ce → PyData
  | .i k => .int k
  | .s x => .str x
def rowU (r : List Ce) : U := .tup (r.map Ce.u)
def rowD (r : List Ce) : PyData := .tuple (r.map Ce.d)
def ceU : U → Option Ce
  | .int k => some (.i k)
  | .str x => some (.s x)
  | _ => none
def rowOf : U → Option (List Ce)
  | .tup (u :: us) => mapO ceU (u :: us)
  | _ => none
theorem ceU_eq {u : U} {c : Ce} (h : ceU u = some c) : u = c.u := by
  unfold ceU at h
  split at h <;> first | (cases h; rfl) | cases h
theorem mapO_eq {α β : Type} {f : α → Option β} {g : β → α} (hf : ∀ x y, f x = some y → x = g y) : ∀ {xs : List α} {ys : List β}, mapO f xs = some ys → xs = ys.map g
  | [], _, e => by cases e; rfl
  | x :: xs, ys, e => by
    simp only [mapO] at e
    split at e
    · rename_i y zs e1 e2
      cases e
      rw [List.map_cons, hf _ _ e1, mapO_eq hf e2]
    · cases e
theorem rowOf_eq {u : U} {r : List Ce} (h : rowOf u = some r) : u = rowU r ∧ r ≠ [] := by
  unfold rowOf at h
  split at h
  · have := mapO_eq (g := Ce.u) (fun _ _ => ceU_eq) h
    refine ⟨by rw [rowU, ← this], ?_⟩
    rintro rfl
    cases this
  · cases h
theorem rowsOf_ne {us : List U} : ∀ {rs : List (List Ce)}, mapO rowOf us = some rs → ∀ r, r ∈ rs → r ≠ [] := by
  induction us with
  | nil => intro rs e; cases e; intro r hr; cases hr
  | cons u us ih =>
    intro rs e
    simp only [mapO] at e
    split at e
    · rename_i y zs e1 e2
      cases e
      intro r hr
      rcases List.mem_cons.mp hr with rfl | hr
      · exact (rowOf_eq e1).2
      · exact ih e2 r hr
    · cases e
def alkC (rs : List (List Ce)) : Bool := rs.all fun a => rs.all fun b => alikeAll (a.map Ce.d) (b.map Ce.d)
def ltC (a b : List Ce) : Bool := dataLt (rowD a) (rowD b)
def sortC (rs : List (List Ce)) : List (List Ce) := rs.mergeSort fun a b => !ltC b a
def minC : List (List Ce) → Option (List Ce)
  | [] => none
  | r :: rs => some (rs.foldl (fun a y => if ltC y a then y else a) r)
def maxC : List (List Ce) → Option (List Ce)
  | [] => none
  | r :: rs => some (rs.foldl (fun a y => if ltC a y then y else a) r)
theorem alkC_all {rs : List (List Ce)} (h : alkC rs = true) : ∀ x, x ∈ rs.map rowD → ∀ y, y ∈ rs.map rowD → alike x y = true := by
  intro x hx y hy
  obtain ⟨a, ha, rfl⟩ := List.mem_map.mp hx
  obtain ⟨b, hb, rfl⟩ := List.mem_map.mp hy
  have := List.all_eq_true.mp (List.all_eq_true.mp h a ha) b hb
  show alike (.tuple _) (.tuple _) = true
  rw [alike]; exact this
theorem depth_ces : ∀ r : List Ce, PyData.depthAll (r.map Ce.d) = 0
  | [] => by simp [PyData.depthAll]
  | c :: r => by
    rw [List.map_cons, PyData.depthAll, depth_ces r]
    cases c <;> simp [PyData.depth, Ce.d]
theorem depth_row (r : List Ce) : (rowD r).depth ≤ 1 := by
  unfold rowD
  rw [PyData.depth, depth_ces]; exact Nat.le_refl _
theorem depth_rows : ∀ rs : List (List Ce), PyData.depthAll (rs.map rowD) ≤ 1
  | [] => by simp [PyData.depthAll]
  | c :: r => by
    rw [List.map_cons, PyData.depthAll]
    have a := depth_rows r
    have b := depth_row c
    exact Nat.max_le.mpr ⟨b, a⟩
def RowV (K : PySem.W.Frag) (H : Hp) (x : V) (r : List Ce) : Prop := ∃ t, x = V.ref t ∧ SqT K H t (r.map Ce.v)
theorem dp_ces (K : PySem.W.Frag) (H : Hp) : ∀ r : List Ce, DpAll K H (r.map Ce.v) (r.map Ce.d)
  | [] => .nil
  | .i k :: r => .cons (.int k) (dp_ces K H r)
  | .s x :: r => .cons (.str x) (dp_ces K H r)
theorem RowV.dp {K : PySem.W.Frag} {H : Hp} {x : V} {r : List Ce} (h : RowV K H x r) : Dp K H x (rowD r) := by
  obtain ⟨t, rfl, st⟩ := h
  exact .tup st (dp_ces K H r)
theorem each_zip {K : PySem.W.Frag} {H : Hp} : ∀ {xs : List V} {its : List Value} {rs : List (List Ce)}, Vals xs its → EachIs (RowV K H) xs rs → EachIs (fun v (b : V × List Ce) => RelV b.1 v ∧ RowV K H b.1 b.2) its (xs.zip rs)
  | [], _, _, v, e => by cases v; cases e; exact .nil
  | x :: xs, _, _, v, e => by
    cases v with
    | cons v1 v2 =>
      cases e with
      | cons e1 e2 => exact .cons ⟨v1, e1⟩ (each_zip v2 e2)
theorem each_vals {F : Value → V × List Ce → Prop} (hF : ∀ v b, F v b → RelV b.1 v) : ∀ {out : List Value} {zs : List (V × List Ce)}, EachIs F out zs → Vals (zs.map Prod.fst) out
  | _, _, .nil => .nil
  | _, _, .cons h t => .cons (hF _ _ h) (each_vals hF t)
theorem each_dp {K : PySem.W.Frag} {H : Hp} : ∀ {xs : List V} {rs : List (List Ce)}, EachIs (RowV K H) xs rs → DpAll K H xs (rs.map rowD)
  | _, _, .nil => .nil
  | _, _, .cons h t => .cons h.dp (each_dp t)
theorem each_get {F : V → List Ce → Prop} : ∀ {xs : List V} {rs : List (List Ce)} {i : Nat} {x : V}, EachIs F xs rs → xs[i]? = some x → ∃ r, rs[i]? = some r ∧ F x r
  | _, _, _, _, .nil, h => by simp at h
  | _, _, 0, _, .cons h t, e => by
    simp only [List.getElem?_cons_zero, Option.some.injEq] at e
    subst e
    exact ⟨_, rfl, h⟩
  | _, _, i + 1, _, .cons h t, e => by
    simp only [List.getElem?_cons_succ] at e
    obtain ⟨r, a, b⟩ := each_get t e
    exact ⟨r, by simpa using a, b⟩
theorem ceD_inj {a b : Ce} (h : a.d = b.d) : a = b := by
  cases a <;> cases b <;> first | (cases h; rfl) | cases h
theorem ces_inj : ∀ {a b : List Ce}, a.map Ce.d = b.map Ce.d → a = b
  | [], [], _ => rfl
  | [], _ :: _, h => by cases h
  | _ :: _, [], h => by cases h
  | a :: r, b :: q, h => by
    rw [List.map_cons, List.map_cons] at h
    injection h with h1 h2
    rw [ceD_inj h1, ces_inj h2]
theorem rowD_inj {a b : List Ce} (h : rowD a = rowD b) : a = b := by
  unfold rowD at h
  injection h with h
  exact ces_inj h
def rSortC (K : PySem.W.Frag) : List V → Hp → VK → Prop := fun vs H Q => ∃ (a : Addr) (xs : List V) (rs : List (List Ce)), vs = [V.ref a] ∧ SqL K H a xs ∧ EachIs (RowV K H) xs rs ∧ (∀ r, r ∈ rs → r ≠ []) ∧ alkC rs = true ∧
  ∀ (zs : List (V × List Ce)) (p : Addr), zs.Perm (xs.zip rs) → zs.map Prod.snd = sortC rs → H p = none → Q (.ref p) (upd H p (.lst (zs.map Prod.fst)))
theorem zip_snd : ∀ {xs : List V} {rs : List (List Ce)}, xs.length = rs.length → (xs.zip rs).map Prod.snd = rs
  | [], [], _ => rfl
  | [], _ :: _, h => by cases h
  | _ :: _, [], h => by cases h
  | x :: xs, r :: rs, h => by
    rw [List.zip_cons_cons, List.map_cons, zip_snd (by simpa using h)]
theorem cr_sortC {X : Cx} (hu : X.A.units + 64 < cLine) : CallR X (.builtin "sorted") (rSortC X.K) := by
  intro pins s σ H vs us Q I r h
  obtain ⟨a, xs, rs, rfl, hs, he, hne, hal, q⟩ := h
  obtain ⟨its, rv, hl, hz⟩ := I.list hs
  rw [Vals.ref1 r]
  have e := each_zip rv he
  have hlen := he.length
  have em : (xs.zip rs).map (fun b => rowD b.2) = rs.map rowD := by
    rw [show (fun b : V × List Ce => rowD b.2) = rowD ∘ Prod.snd from rfl, ← List.map_map, zip_snd hlen]
  refine sorted_data (vs := its) (bs := xs.zip rs) (enc := fun b => rowD b.2) (R := fun v b => RelV b.1 v ∧ RowV X.K H b.1 b.2) hl.isList e (e.mono fun v b hb => Dp.reads I _ _ _ hb.2.dp hb.1) ?_ ?_ ?_ ?_ fun out ho eo => ?_
  · intro d hd d' hd'
    rw [em] at hd hd'
    exact alkC_all hal d hd d' hd'
  · rw [em]
    refine .inl fun d hd => ?_
    obtain ⟨r, hr, rfl⟩ := List.mem_map.mp hd
    cases r with
    | nil => exact absurd rfl (hne _ hr)
    | cons c r => exact ⟨_, _, rfl⟩
  · rw [List.length_zip, ← hlen, Nat.min_self]; exact hz
  · intro b hb
    have := depth_row b.2
    omega
  · obtain ⟨ep, he'⟩ := PyProof.Rows.sortedAll_at s.heap its (List.toArray out)
    have hv := each_vals (fun v b h => h.1) eo
    have hp : ((xs.zip rs).mergeSort (dataLe false fun b => rowD b.2)).Perm (xs.zip rs) := List.mergeSort_perm _ _
    have hm : ((xs.zip rs).mergeSort (dataLe false fun b => rowD b.2)).map Prod.snd = sortC rs := by
      have q1 := List.map_mergeSort (r := dataLe false fun b : V × List Ce => rowD b.2) (s := fun a b => !ltC b a) (f := Prod.snd) (l := xs.zip rs) (fun a _ b _ => by rw [dataLe_eq]; rfl)
      rw [q1, zip_snd hlen]; rfl
    have hzl : (((xs.zip rs).mergeSort (dataLe false fun b => rowD b.2)).map Prod.fst).length ≤ sizeLine := by
      rw [List.length_map, hp.length_eq, List.length_zip, ← hlen, Nat.min_self]; exact hz
    exact ⟨.ref _, upd H (s.heap.objs.size + 1) (.lst (((xs.zip rs).mergeSort (dataLe false fun b => rowD b.2)).map Prod.fst)), I.laid (t' := s.toks) (fun _ _ => PyProof.Rows.sortedAll_old) (Nat.le_succ _) ⟨hzl, out, ep, hv, he'⟩, rfl, q _ _ hp hm (I.hok.fresh (Nat.le_succ _))⟩
def rBestC (best : List (List Ce) → Option (List Ce)) (K : PySem.W.Frag) : List V → Hp → VK → Prop := fun vs H Q => ∃ (a : Addr) (xs : List V) (rs : List (List Ce)) (r0 : List Ce), vs = [V.ref a] ∧ SqL K H a xs ∧ EachIs (RowV K H) xs rs ∧ alkC rs = true ∧ best rs = some r0 ∧
  ∀ (i : Nat) v, xs[i]? = some v → rs[i]? = some r0 → Q v H
theorem fold_min : ∀ (rs : List (List Ce)) (r : List Ce), minD (rowD r) (rs.map rowD) = rowD (rs.foldl (fun a y => if ltC y a then y else a) r)
  | [], r => rfl
  | x :: rs, r => by
    show (rs.map rowD).foldl _ _ = _
    rw [List.foldl_cons, ← fold_min rs]
    unfold minD
    congr 1
    show (if dataLt (rowD x) (rowD r) then rowD x else rowD r) = rowD (if dataLt (rowD x) (rowD r) then x else r)
    split <;> rfl
theorem fold_max : ∀ (rs : List (List Ce)) (r : List Ce), maxD (rowD r) (rs.map rowD) = rowD (rs.foldl (fun a y => if ltC a y then y else a) r)
  | [], r => rfl
  | x :: rs, r => by
    show (rs.map rowD).foldl _ _ = _
    rw [List.foldl_cons, ← fold_max rs]
    unfold maxD
    congr 1
    show (if dataLt (rowD r) (rowD x) then rowD x else rowD r) = rowD (if dataLt (rowD r) (rowD x) then x else r)
    split <;> rfl
theorem rows_alike {rs : List (List Ce)} (hal : alkC rs = true) : AlikeAll (rs.map rowD) := ⟨alkC_all hal, fun x hx => by obtain ⟨r, _, rfl⟩ := List.mem_map.mp hx; exact fun h => by cases h⟩
theorem row_found {K : PySem.W.Frag} {H : Hp} {xs : List V} {its : List Value} {rs : List (List Ce)} {i : Nat} {v : Value} {r0 : List Ce} (rv : Vals xs its) (he : EachIs (RowV K H) xs rs) (hv : its[i]? = some v) (hd : (rs.map rowD).getD i .none = rowD r0) : ∃ x, xs[i]? = some x ∧ RelV x v ∧ rs[i]? = some r0 := by
  have hi : i < its.length := (List.getElem?_eq_some_iff.mp hv).1
  have hx : i < xs.length := by rw [rv.length]; exact hi
  obtain ⟨u, e1, e2⟩ := rv.get (List.getElem?_eq_getElem hx)
  rw [hv] at e1
  obtain rfl := Option.some.inj e1
  obtain ⟨r, e3, e4⟩ := each_get he (List.getElem?_eq_getElem hx)
  rw [List.getD_eq_getElem?_getD, List.getElem?_map, e3] at hd
  have : r = r0 := rowD_inj hd
  subst this
  exact ⟨_, List.getElem?_eq_getElem hx, e2, e3⟩
theorem cr_minC {X : Cx} (hc : X.calm = true) (hu : X.A.units + 64 < cLine) : CallR X (.builtin "min") (rBestC minC X.K) := by
  intro pins s σ H vs us Q I r h
  obtain ⟨a, xs, rs, r0, rfl, hs, he, hal, hb, q⟩ := h
  obtain ⟨its, rv, hl, hz⟩ := I.list hs
  rw [Vals.ref1 r]
  obtain ⟨as, hr⟩ := Dp.readsAll I (rs.map rowD) xs its (each_dp he) rv
  cases rs with
  | nil => cases hb
  | cons r1 rs =>
    cases hb
    have hn : its.length = rs.length + 1 := by rw [← rv.length, he.length]; rfl
    refine call_min_walkH (iter_listW (A := X.A.in1) (I.ok.hd hc) hl.isList fun s₂ e W st hfp hw hk => ?_)
    refine ⟨_, _, _, _, _, _, _, s.heap, _, rfl, W, st, hfp, by rw [List.size_toArray]; omega, hw, hk, cmpIn_lt (A := X.A.in1) (vs := its.toArray) hr (rows_alike hal) (by have := depth_rows (r1 :: rs); show X.A.units + 1 + _ < _; omega), fun v s' hP m => ?_⟩
    obtain ⟨h', tk, rfl, hk'⟩ := moved_old e rfl m
    have e2 := (argBest_fold dataLt PyData.none (rowD r1) (rs.map rowD) (rs.map rowD).length (Nat.le_refl _)).2
    rw [List.take_length] at e2
    have e1 : its.toArray.size - 1 = (rs.map rowD).length := by rw [List.size_toArray, List.length_map]; omega
    rw [e1] at hP
    obtain ⟨x, hx, rx, ro⟩ := row_found (r0 := rs.foldl (fun a y => if ltC y a then y else a) r1) rv he (by rw [← List.getElem?_toArray]; exact hP) (by rw [List.map_cons, e2]; exact fold_min rs r1)
    exact ⟨x, H, I.kept hk', rx, q _ x hx ro⟩
theorem cr_maxC {X : Cx} (hc : X.calm = true) (hu : X.A.units + 64 < cLine) : CallR X (.builtin "max") (rBestC maxC X.K) := by
  intro pins s σ H vs us Q I r h
  obtain ⟨a, xs, rs, r0, rfl, hs, he, hal, hb, q⟩ := h
  obtain ⟨its, rv, hl, hz⟩ := I.list hs
  rw [Vals.ref1 r]
  obtain ⟨as, hr⟩ := Dp.readsAll I (rs.map rowD) xs its (each_dp he) rv
  cases rs with
  | nil => cases hb
  | cons r1 rs =>
    cases hb
    have hn : its.length = rs.length + 1 := by rw [← rv.length, he.length]; rfl
    refine call_max_walkH (iter_listW (A := X.A.in1) (I.ok.hd hc) hl.isList fun s₂ e W st hfp hw hk => ?_)
    refine ⟨_, _, _, _, _, _, _, s.heap, _, rfl, W, st, hfp, by rw [List.size_toArray]; omega, hw, hk, cmpIn_gt (A := X.A.in1) (vs := its.toArray) hr (rows_alike hal) (by have := depth_rows (r1 :: rs); show X.A.units + 1 + _ < _; omega), fun v s' hP m => ?_⟩
    obtain ⟨h', tk, rfl, hk'⟩ := moved_old e rfl m
    have e2 := (argBest_fold (fun a b => dataLt b a) PyData.none (rowD r1) (rs.map rowD) (rs.map rowD).length (Nat.le_refl _)).2
    rw [List.take_length] at e2
    have e1 : its.toArray.size - 1 = (rs.map rowD).length := by rw [List.size_toArray, List.length_map]; omega
    rw [e1] at hP
    obtain ⟨x, hx, rx, ro⟩ := row_found (r0 := rs.foldl (fun a y => if ltC a y then y else a) r1) rv he (by rw [← List.getElem?_toArray]; exact hP) (by rw [List.map_cons, e2]; exact fold_max rs r1)
    exact ⟨x, H, I.kept hk', rx, q _ x hx ro⟩
/-! ## the operators -/
def orC (g g2 : GC) : GC := fun us h => match g us h with
  | .bad => g2 us h
  | r => r
theorem OpC.or {W : Wd} {r r2 : List V → Hp → VK → Prop} {g g2 : GC} (o : OpC W r g) (o2 : OpC W r2 g2) : OpC W (fun xs H Q => r xs H Q ∨ r2 xs H Q) (orC g g2) := by
  intro us h m H vs Q E rl rv q
  unfold orC at q
  split at q
  · exact .inr (o2 us h m H vs Q E rl rv q)
  · exact .inl (o us h m H vs Q E rl rv q)
def c3 (f : Int → Int → Int → Int) : GC := fun us h => match us with
  | [.int i, .int j, .int k] => .ok (.int (f i j k)) h
  | _ => .bad
theorem o_c3 {W : Wd} {f : Int → Int → Int → Int} : OpC W (r3 f) (c3 f) := by
  intro us h m H vs Q E rl rv q
  unfold c3 at q
  split at q
  · obtain ⟨v, r, rfl, a, b⟩ := rv.inv_cons
    obtain ⟨v2, r, rfl, a2, b⟩ := b.inv_cons
    obtain ⟨v3, r, rfl, a3, b⟩ := b.inv_cons
    rw [b.inv_nil, a.int_inv, a2.int_inv, a3.int_inv]
    exact ⟨_, _, _, rfl, q.ok rl (.mk_int _)⟩
  · exact q.elim
def cBestC (best : List (List Ce) → Option (List Ce)) : GC := fun us h => match us with
  | [x] => match (lstU h x).bind (mapO rowOf) with
    | some rs => if alkC rs = true then (match best rs with | some r => .ok (rowU r) h | none => .bad) else .bad
    | none => .bad
  | _ => .bad
def cSortC : GC := fun us h => match us with
  | [x] => match (lstU h x).bind (mapO rowOf) with
    | some rs => if alkC rs = true then .ok (.ref h.length) (h ++ [.lst ((sortC rs).map rowU)]) else .bad
    | none => .bad
  | _ => .bad
theorem rvs_ces {W : Wd} {m : List Addr} {H : Hp} : ∀ {r : List Ce} {vs : List V}, RVs W.K m H (r.map Ce.u) vs → vs = r.map Ce.v
  | [], _, h => h.inv_nil
  | c :: r, _, h => by
    obtain ⟨v, q, rfl, a, b⟩ := h.inv_cons
    rw [rvs_ces b]
    cases c with
    | i k => rw [RV.int_inv a]; rfl
    | s x => rw [RV.str_inv a]; rfl
theorem rv_row {W : Wd} {m : List Addr} {H : Hp} {r : List Ce} {v : V} (h : RV W.K m H (rowU r) v) : RowV W.K H v r := by
  obtain ⟨a, vs, rfl, t, rr⟩ := RV.tup_inv h
  rw [rvs_ces rr] at t
  exact ⟨a, rfl, t.sq⟩
theorem rvs_rows {W : Wd} {m : List Addr} {H : Hp} : ∀ {rs : List (List Ce)} {xs : List V}, RVs W.K m H (rs.map rowU) xs → EachIs (RowV W.K H) xs rs
  | [], _, h => by rw [h.inv_nil]; exact .nil
  | r :: rs, _, h => by
    obtain ⟨v, q, rfl, a, b⟩ := h.inv_cons
    exact .cons (rv_row a) (rvs_rows b)
theorem rvs_zip {W : Wd} {m : List Addr} {H : Hp} : ∀ {rs : List (List Ce)} {xs : List V}, RVs W.K m H (rs.map rowU) xs → ∀ b, b ∈ xs.zip rs → RV W.K m H (rowU b.2) b.1
  | [], _, h, b, hb => by rw [h.inv_nil] at hb; cases hb
  | r :: rs, _, h, b, hb => by
    obtain ⟨v, q, rfl, a, t⟩ := h.inv_cons
    rw [List.zip_cons_cons] at hb
    rcases List.mem_cons.mp hb with rfl | hb
    · exact a
    · exact rvs_zip t b hb
theorem rvs_unzip {W : Wd} {m : List Addr} {H : Hp} : ∀ {zs : List (V × List Ce)}, (∀ b, b ∈ zs → RV W.K m H (rowU b.2) b.1) → RVs W.K m H ((zs.map Prod.snd).map rowU) (zs.map Prod.fst)
  | [], _ => .nil
  | z :: zs, h => .cons (h z List.mem_cons_self) (rvs_unzip fun b hb => h b (List.mem_cons_of_mem _ hb))
theorem o_bestC {W : Wd} {best : List (List Ce) → Option (List Ce)} : OpC W (rBestC best W.K) (cBestC best) := by
  intro us h m H vs Q E rl rv q
  unfold cBestC at q
  split at q
  · rename_i x
    obtain ⟨v, r, rfl, a, b⟩ := rv.inv_cons
    rw [b.inv_nil]
    cases e1 : lstU h x with
    | none => rw [e1] at q; exact q.elim
    | some us =>
      rw [e1] at q
      simp only [Option.bind_some] at q
      split at q
      · rename_i rs e2
        split at q
        · rename_i hal
          split at q
          · rename_i r0 e3
            obtain ⟨pa, ws, rfl, sq, rr⟩ := lst_rel rl a e1
            have eu := mapO_eq (g := rowU) (fun _ _ h => (rowOf_eq h).1) e2
            subst eu
            refine ⟨pa, ws, rs, r0, rfl, sq, rvs_rows rr, hal, e3, fun i v hv hr => ?_⟩
            obtain ⟨v', e4, e5⟩ := rr.get (i := i) (u := rowU r0) (by rw [List.getElem?_map, hr]; rfl)
            rw [hv] at e4
            cases e4
            exact q.ok rl e5
          · exact q.elim
        · exact q.elim
      · exact q.elim
  · exact q.elim
theorem o_sortC {W : Wd} : OpC W (rSortC W.K) cSortC := by
  intro us h m H vs Q E rl rv q
  unfold cSortC at q
  split at q
  · rename_i x
    obtain ⟨v, r, rfl, a, b⟩ := rv.inv_cons
    rw [b.inv_nil]
    cases e1 : lstU h x with
    | none => rw [e1] at q; exact q.elim
    | some us =>
      rw [e1] at q
      simp only [Option.bind_some] at q
      split at q
      · rename_i rs e2
        split at q
        · rename_i hal
          obtain ⟨pa, ws, rfl, sq, rr⟩ := lst_rel rl a e1
          have hne := rowsOf_ne e2
          have eu := mapO_eq (g := rowU) (fun _ _ h => (rowOf_eq h).1) e2
          subst eu
          refine ⟨pa, ws, rs, rfl, sq, rvs_rows rr, hne, hal, fun zs p hp hm hn => ?_⟩
          have rz := rvs_unzip (zs := zs) fun b hb => rvs_zip rr b (hp.mem_iff.mp hb)
          rw [hm] at rz
          exact new_lst rl rz q p hn
        · exact q.elim
      · exact q.elim
  · exact q.elim
def cMinX : GC := orC cMin (orC (c3 mi3) (cBestC minC))
def cMaxX : GC := orC cMax (orC (c3 mx3) (cBestC maxC))
def cSrtX : GC := orC cSrt cSortC
end Lz
/-! list(range(..)), tuple(range(..)) -/
namespace Lz
open PySem PySem.Spec PyProof.Rows L2
def rgI (a b : Int) : List Int := (List.range (b - a).toNat).map fun i => a + (i : Nat)
theorem rgI_V (a b : Int) : (rgI a b).map V.int = rgV a b := by unfold rgI rgV; rw [List.map_map]; rfl
theorem ints_rvs {K : PySem.W.Frag} {m : List Addr} {H : Hp} : ∀ ns : List Int, RVs K m H (ns.map U.int) (ns.map V.int)
  | [] => .nil
  | n :: ns => .cons (by unfold RV; rfl) (ints_rvs ns)
open Classical in
noncomputable def rgK (t : Bool) (a b : Int) (h : Hb) : Res U := if RgOk a b then (if t = true then .ok (.tup ((rgI a b).map .int)) h else .ok (.ref h.length) (h ++ [.lst ((rgI a b).map .int)])) else .bad
noncomputable def vRg2 (t : Bool) : G2 := fun x y h => match x, y with
  | .int i, .int j => rgK t i j h
  | _, _ => .bad
noncomputable def vRg1 (t : Bool) : G1 := fun x h => match x with
  | .int j => rgK t 0 j h
  | _ => .bad
def rRgK (t : Bool) (a b : Int) (H : Hp) (Q : VK) : Prop := RgOk a b ∧ ∀ q, H q = none → Q (.ref q) (upd H q (if t = true then .tup (rgV a b) else .lst (rgV a b)))
theorem rgK_rel {W : Wd} {t : Bool} {a b : Int} {h : Hb} {m : List Addr} {H : Hp} {Q : VK} {E : Value → Option Addr → Hp → Prop} (rl : Rel W m h H) (p : Post W (RV W.K) (rgK t a b h) m H Q E) : rRgK t a b H Q := by
  unfold rgK at p
  split at p
  · rename_i ok
    refine ⟨ok, fun q hq => ?_⟩
    have rv : RVs W.K m H ((rgI a b).map .int) (rgV a b) := by rw [← rgI_V]; exact ints_rvs _
    cases t with
    | true =>
      obtain ⟨rl2, e2⟩ := rl.junk (o := .tup (rgV a b)) hq
      refine p m _ (.ref q) e2 rl2 ?_
      unfold RV
      exact ⟨q, rgV a b, rfl, .inl upd_same, RVs.mono e2 _ rv⟩
    | false => exact new_lst rl rv p q hq
  · exact p.elim
theorem o_rg2 {W : Wd} (t : Bool) : Op2 W (fun x y H Q => ∃ i j, x = .int i ∧ y = .int j ∧ rRgK t i j H Q) (vRg2 t) := by
  intro x y h m H v u Q E rl rx ry p
  cases x with
  | int i => cases y with
    | int j => exact ⟨i, j, rx.int_inv, ry.int_inv, rgK_rel rl p⟩
    | _ => exact p.elim
  | _ => exact p.elim
theorem o_rg1 {W : Wd} (t : Bool) : Op1 W (fun x H Q => ∃ n, x = .int n ∧ rRgK t 0 n H Q) (vRg1 t) := by
  intro x h m H v Q E rl rx p
  cases x with
  | int j => exact ⟨j, rx.int_inv, rgK_rel rl p⟩
  | _ => exact p.elim
section
variable {W : Wd} {X : Cx} {a b : Expr} {fa fb : Ev} {p p2 pos pos2 : Pos}
theorem se_lrg1 (hc : X.calm = true) (hl : Gl X "list") (ml : X.mg "list" = none) (hg : Gl X "range") (hm : X.mg "range" = none) (ha : SE W X a fa) (na : starEach [a] X.env = [(false, eval a X.env)]) : SE W X (.Call (.Name "list" p) [.Call (.Name "range" p2) [a] [] pos2] [] pos) (e1 (vRg1 false) fa) :=
  ⟨fun w tk σ h m τ H Q rl rs p => ⟨_, pe_listRg hc hl ml (prg_1 hg hm (EvT.pe X a) na), ha.run w tk σ h m τ H _ rl rs (Post.bind p fun x h1 m1 H1 v _ e rl1 rv p1 => o_rg1 false x h1 m1 H1 v Q _ rl1 rv p1)⟩⟩
theorem se_trg1 (hc : X.calm = true) (hl : Gl X "tuple") (ml : X.mg "tuple" = none) (hg : Gl X "range") (hm : X.mg "range" = none) (ha : SE W X a fa) (na : starEach [a] X.env = [(false, eval a X.env)]) : SE W X (.Call (.Name "tuple" p) [.Call (.Name "range" p2) [a] [] pos2] [] pos) (e1 (vRg1 true) fa) :=
  ⟨fun w tk σ h m τ H Q rl rs p => ⟨_, pe_tupRg hc hl ml (prg_1 hg hm (EvT.pe X a) na), ha.run w tk σ h m τ H _ rl rs (Post.bind p fun x h1 m1 H1 v _ e rl1 rv p1 => o_rg1 true x h1 m1 H1 v Q _ rl1 rv p1)⟩⟩
theorem se_lrg2 (hc : X.calm = true) (hl : Gl X "list") (ml : X.mg "list" = none) (hg : Gl X "range") (hm : X.mg "range" = none) (ha : SE W X a fa) (hb : SE W X b fb) (na : starEach [a, b] X.env = [(false, eval a X.env), (false, eval b X.env)]) (nb : starEach [b] X.env = [(false, eval b X.env)]) : SE W X (.Call (.Name "list" p) [.Call (.Name "range" p2) [a, b] [] pos2] [] pos) (e2 (vRg2 false) fa fb) :=
  ⟨fun w tk σ h m τ H Q rl rs p => ⟨_, pe_listRg hc hl ml (prg_2 hg hm (EvT.pe X a) (EvT.pe X b) (by rw [na, nb]) nb (by rw [nb]; rfl)), two (o_rg2 false) ha hb tk rl rs p⟩⟩
theorem se_trg2 (hc : X.calm = true) (hl : Gl X "tuple") (ml : X.mg "tuple" = none) (hg : Gl X "range") (hm : X.mg "range" = none) (ha : SE W X a fa) (hb : SE W X b fb) (na : starEach [a, b] X.env = [(false, eval a X.env), (false, eval b X.env)]) (nb : starEach [b] X.env = [(false, eval b X.env)]) : SE W X (.Call (.Name "tuple" p) [.Call (.Name "range" p2) [a, b] [] pos2] [] pos) (e2 (vRg2 true) fa fb) :=
  ⟨fun w tk σ h m τ H Q rl rs p => ⟨_, pe_tupRg hc hl ml (prg_2 hg hm (EvT.pe X a) (EvT.pe X b) (by rw [na, nb]) nb (by rw [nb]; rfl)), two (o_rg2 true) ha hb tk rl rs p⟩⟩
end
end Lz
/-! raise, try -/
namespace Lz
open PySem PySem.Spec PyProof.Rows L2
section
variable {X : Cx} {C : Addr} {bmB : List Value} {B newId initId : String}
/-- X() -/
theorem pmk_own0 {x : Str} {p pos : Pos} (F : ExcBaseFacts B newId initId bmB) (q : PySem.W.excIn X.K C bmB newId = true) (gC : X.mg x = some (.ref C)) (kC : PySem.W.keepIn X.K (.ref C) = true) (r : Raises X (.ref C)) (hg : Gl X x)
    (hdb : (x == ("__debug__" : Str)) = false) : PMk X (.Call (.Name x p) [] [] pos) (fun _ H Q => Q (.ref C) none H) := by
  intro pins s σ H Q I h
  refine wpAny_Call_Name_kw (ld_glob I hg gC ?_ hdb)
  refine PySem.W.callWith_K0 I.kIn kC ?_
  show wpAny _ _ (call (.ref C) []) _ _ _
  obtain ⟨bm, N, nm, qn, bs, hdct, sn, sub, ab, col, dd, k0, k1, k2, k3, k5, mN, hC, hN, hni, T⟩ := exc_obj I.kIn q
  exact wpAny_call_exc_subT F T hC hN hni (fun h' e hm => mk_of I hm r h (I.hok.gone hm.new)) (by show 0 ≤ sizeLine; exact Nat.zero_le _)
end
/-- an own class of exceptions without own __init__ -/
structure X0 (K : PySem.W.Frag) (C : Addr) : Prop where
  q : PySem.W.excIn K C [.type "ValueError", .type "Exception", .type "BaseException", .type "object"] "ValueError.__new__" = true
  kp : PySem.W.keepIn K (.ref C) = true
  sb : PySem.W.subIn K (.ref C) (.type "BaseException") = some true
  ty : PySem.W.typeIn K (.ref C) = some (.type "type")
section
variable {W : Wd} {X : Cx} {e : Expr} {es : List Expr} {fs : Ea} {pos pos2 p : Pos} {x : Str} {c : Nat}
def sRz0 (c : Nat) (s : Sg) (us : List U) (h : Hb) : SR := if us.length ≤ sizeLine then .ex ⟨c, []⟩ s h else .bad
def sRaise0 (c : Nat) (fs : Ea) : Sv := fun s h => (fs s h).thn s (sRz0 c s)
theorem ss_raise0 (hc : X.calm = true) (hK : X.K = W.K) (T : X0 W.K (W.ca c)) (gC : X.mg x = some (.ref (W.ca c))) (hg : Gl X x) (hdb : (x == ("__debug__" : Str)) = false) (ha : SA W X (e :: es) fs)
    (he : starEach (e :: es) X.env = (false, eval e X.env) :: starEach es X.env) (hpl : (backTo pos (starEach es X.env)).any (·.1) = false) : SS W X (.Raise (some (.Call (.Name x p) (e :: es) [] pos)) none pos2) (sRaise0 c fs) := by
  refine ⟨fun w tk σ h m τ H D rl rs q => ⟨_, ps_raise hc tk (pmk_ownA F.excBase_ValueError (by rw [hK]; exact T.q) gC (by rw [hK]; exact T.kp) (raises_own (by rw [hK]; exact T.sb) (by rw [hK]; exact T.ty)) hg (EvA.pa X _) hdb he hpl), ?_⟩⟩
  refine ha.run w tk σ h m τ H _ rl rs (PostS.ahead rs q fun us h1 m1 H1 vs _ e1 rl1 rv q1 => ?_)
  unfold sRz0 at q1
  split at q1
  · rename_i hl
    exact ⟨by rw [← rv.length]; exact hl, q1 m1 H1 _ none τ (.refl m1 H1) rl1 ⟨rfl, .inl ⟨rfl, rfl⟩⟩ (rs.mono e1)⟩
  · exact q1.elim
theorem ss_raise00 (hc : X.calm = true) (hK : X.K = W.K) (T : X0 W.K (W.ca c)) (gC : X.mg x = some (.ref (W.ca c))) (hg : Gl X x) (hdb : (x == ("__debug__" : Str)) = false) : SS W X (.Raise (some (.Call (.Name x p) [] [] pos)) none pos2) (sRaise0 c aNil) := by
  refine ⟨fun w tk σ h m τ H D rl rs q => ⟨_, ps_raise hc tk (pmk_own0 F.excBase_ValueError (by rw [hK]; exact T.q) gC (by rw [hK]; exact T.kp) (raises_own (by rw [hK]; exact T.sb) (by rw [hK]; exact T.ty)) hg hdb), ?_⟩⟩
  have q : PostS W (SR.ex ⟨c, []⟩ σ h) m H D w := by
    have : sRaise0 c aNil σ h = SR.ex ⟨c, []⟩ σ h := by simp [sRaise0, aNil, sRz0]
    rw [this] at q; exact q
  exact q m H _ none τ (.refl m H) rl ⟨rfl, .inl ⟨rfl, rfl⟩⟩ rs
/-! a class with an own __init__ -/
structure XI (P : Program) (w : World) (K : PySem.W.Frag) (mg : Str → Option Value) (base : Heap) (k : Nat) (C : Addr) (n : Nat) (as : List (Str × Nat)) : Prop where
  T : OexC K C
  ne : as ≠ []
  ini : ∃ fI fd ps, PySem.W.findIn K (.ref C) "__init__" = some (some (.ref fI)) ∧ PySem.W.typeIn K (.ref fI) = some (.type "function") ∧ FnOk P w K mg base (L2.CX P w) k fI fd ps (ExS.spI C n as) ∧ Binds K fd ps []
theorem rf_map {K : PySem.W.Frag} {m : List Addr} {H : Hp} {us : List U} {vs : List V} (r : RVs K m H us vs) : ∀ l : List (Str × Nat), RF K m H (l.map fun p => (p.1, us.getD p.2 .non)) (l.map fun p => (p.1, vs.getD p.2 .non))
  | [] => rfl
  | p :: l => by
    refine ⟨vs.getD p.2 .non, l.map fun p => (p.1, vs.getD p.2 .non), rfl, ?_, rf_map r l⟩
    show RV K m H (us.getD p.2 .non) _
    rw [List.getD_eq_getElem?_getD, List.getD_eq_getElem?_getD]
    cases e : us[p.2]? with
    | some u =>
      obtain ⟨v, e1, e2⟩ := r.get e
      rw [e1]; exact e2
    | none =>
      have : vs[p.2]? = none := by
        rw [List.getElem?_eq_none_iff] at e ⊢
        rw [← r.length]; exact e
      rw [this]; unfold RV; rfl
theorem rf_asV {K : PySem.W.Frag} {m : List Addr} {H : Hp} {us : List U} {vs : List V} (r : RVs K m H us vs) (as : List (Str × Nat)) : RF K m H (ExS.asV .non as us) (ExS.asV .non as vs) := by
  unfold ExS.asV
  rw [← List.map_reverse, ← List.map_reverse]
  exact rf_map r _
def sRzX (c n : Nat) (as : List (Str × Nat)) (s : Sg) (us : List U) (h : Hb) : SR := if us.length = n ∧ n ≤ 1000 then .ex ⟨c, ExS.asV .non as us⟩ s h else .bad
def sRaiseX (c n : Nat) (as : List (Str × Nat)) (fs : Ea) : Sv := fun s h => (fs s h).thn s (sRzX c n as s)
theorem ss_raiseX {k n : Nat} {as : List (Str × Nat)} (hc : X.calm = true) (hK : X.K = W.K) (T : XI X.prog X.w W.K X.mg X.base k (W.ca c) n as) (hr : Room (k + 1) X.A) (gC : X.mg x = some (.ref (W.ca c))) (hg : Gl X x) (hdb : (x == ("__debug__" : Str)) = false) (ha : SA W X (e :: es) fs)
    (he : starEach (e :: es) X.env = (false, eval e X.env) :: starEach es X.env) (hpl : (backTo pos (starEach es X.env)).any (·.1) = false) : SS W X (.Raise (some (.Call (.Name x p) (e :: es) [] pos)) none pos2) (sRaiseX c n as fs) := by
  obtain ⟨fI, fd, ps, i1, i2, F1, hb⟩ := T.ini
  refine ⟨fun w tk σ h m τ H D rl rs q => ⟨_, ps_raise hc tk (pmk_oex (by rw [hK]; exact T.T) (by rw [hK]; exact i1) (by rw [hK]; exact i2) (by rw [hK]; exact F1) hr (by rw [hK]; exact hb) .nil (passes_call tk fun _ _ _ _ z => z.elim) hg gC (EvA.pa X _) hdb he hpl), ?_⟩⟩
  refine ha.run w tk σ h m τ H _ rl rs (PostS.ahead rs q fun us h1 m1 H1 vs _ e1 rl1 rv q1 => ?_)
  unfold sRzX at q1
  split at q1
  · rename_i hl
    obtain ⟨hl, hn⟩ := hl
    refine ⟨by rw [← rv.length]; omega, fun a na => ⟨a, vs, by rw [List.append_nil], by rw [← rv.length]; exact hl, upd_same, fun H3 mid => ⟨rfl, ?_⟩⟩⟩
    rcases mid with ⟨z, _⟩ | ⟨dx, n1, n2, n3, n4, n5⟩
    · exact absurd (by simpa [ExS.asV] using z) T.ne
    · have n1' : H1 dx = none := by rw [upd_ne n2] at n1; exact n1
      refine ⟨dx, _, n3, n4, n1', ?_⟩
      have eH : upd (del H3 a) dx (.xd (ExS.asV .non as vs)) = upd H1 dx (.xd (ExS.asV .non as vs)) := by
        funext b
        by_cases b1 : b = dx
        · rw [b1, upd_same, upd_same]
        · rw [upd_ne b1, upd_ne b1]
          by_cases b2 : b = a
          · rw [b2, del_same, na]
          · rw [del_ne b2, n5 b b2 b1, upd_ne b2]
      rw [eH]
      obtain ⟨rl2, e2⟩ := rl1.junk (o := .xd (ExS.asV .non as vs)) n1'
      exact q1 m1 _ _ _ τ e2 rl2 ⟨rfl, .inr ⟨dx, _, rfl, upd_same, (rf_asV rv as).mono e2⟩⟩ (rs.mono (e1.trans e2))
  · exact q1.elim
end
/-! ## several except clauses, with names or without -/
def behindD (D : Ends) : Option Nat → Ends
  | none => D
  | some i => { nx := fun σ' H' => D.nx (σ'.set i none) H', rt := D.rt, bk := fun σ' H' => D.bk (σ'.set i none) H', ct := fun σ' H' => D.ct (σ'.set i none) H' }
def bindS (a : Addr) (σ : L2.St) : Option Nat → L2.St
  | none => σ
  | some i => σ.set i (some (.ref a))
def wAll (K : PySem.W.Frag) (Wout : WX) (D : Ends) : List (Value × Option Nat × (Addr → Value → Option Addr → TS)) → WX
  | [] => Wout
  | (c, i, ts) :: r => fun cls d σ H => ∃ b, PySem.W.exmOne K cls c = some b ∧ (b = true → ∀ a, H a = none → ts a cls d (behindD D i) (bindS a σ i) H) ∧ (b = false → wAll K Wout D r cls d σ H)
inductive HdsA (X : Cx) : List ExceptHandler → List (Value × Option Nat × (Addr → Value → Option Addr → TS)) → Prop
  | nil : HdsA X [] []
  | plain {x : Str} {c : Value} {ts : Addr → Value → Option Addr → TS} {b₀ : Stmt} {suite : List Stmt} {np pos' : Pos} {hds : List ExceptHandler} {l : List (Value × Option Nat × (Addr → Value → Option Addr → TS))} (hc : Names X x c)
      (hsu : ∀ (a : Addr) (oe : Obj) (cls : Value) (d : Option Addr) (pn : List (Addr × Obj)), Zc cls d oe → (∃ vs, oe.data = .fields vs) → PSs (X.suite a ((a, oe) :: pn)) (b₀ :: suite) (ts a cls d)) (r : HdsA X hds l) :
      HdsA X (.ExceptHandler (some (.Name x np)) none (b₀ :: suite) pos' :: hds) ((c, none, ts) :: l)
  | named {x n : Str} {i : Nat} {c : Value} {ts : Addr → Value → Option Addr → TS} {b₀ : Stmt} {suite : List Stmt} {np pos' : Pos} {hds : List ExceptHandler} {l : List (Value × Option Nat × (Addr → Value → Option Addr → TS))} (hc : Names X x c) (hi : X.N[i]? = some n) (hl : X.env.kindOf n = some .local)
      (hsu : ∀ (a : Addr) (oe : Obj) (cls : Value) (d : Option Addr) (pn : List (Addr × Obj)), Zc cls d oe → (∃ vs, oe.data = .fields vs) → PSs (X.suite a ((a, oe) :: pn)) (b₀ :: suite) (ts a cls d)) (r : HdsA X hds l) :
      HdsA X (.ExceptHandler (some (.Name x np)) (some n) (b₀ :: suite) pos' :: hds) ((c, some i, ts) :: l)
section
variable {X : Cx} {body : List Stmt} {h₀ : ExceptHandler} {hds : List ExceptHandler} {l : List (Value × Option Nat × (Addr → Value → Option Addr → TS))} {pos : Pos} {tb : WX → TS} {Wout : WX}
theorem ps_try_all (hs : X.stack = X.env :: X.outer) (hf : X.env.frame = some X.env.locals) (hN : X.N.Nodup) (tk : Takes X Wout)
    (hb : ∀ (Wx : WX) (pn : List (Addr × Obj)) (xe : Value → Shared → Prop), Takes (X.tr pn xe) Wx → PassesOwn (model X.prog X.w) X.A X.env xe → PSs (X.tr pn xe) body (tb Wx))
    (hh : HdsA X (h₀ :: hds) l) : PS X (.Try body (h₀ :: hds) [] [] pos) (fun D σ H => tb (wAll X.K Wout D l) D σ H) := by
  refine ⟨fun pins s σ H D I q0 => ?_⟩
  have ok := I.ok
  have frm : X.A.frames = some (X.env :: X.outer) := by rw [ok.frames, hs]
  refine wpAny_Try_except (wpAny_mono ((hb (wAll X.K Wout D l) (X.pn ++ pins) (fun e s1 => wpAny (model X.prog X.w) X.A (noteFrame e X.env) (fun _ s2 => wpAny (model X.prog X.w) X.A (setFlight e none) (fun _ s3 =>
    wpAny (model X.prog X.w) X.A (handleBy e X.env (h₀ :: hds)) (SP X pins D) X.xe s3) X.xe s2) X.xe s1) (fun u s' xx => ?_) PassesOwn.looking).run [] s σ H D (I.toTry _) q0) (fun fl s1 hsp => ?_) (fun e s1 z => z))
  · obtain ⟨a, B, sI, pins', σ1, H1, cls, d, rfl, J0, nb, up, sk, na, os, ag, w⟩ := xx
    have J : Inv X pins σ1 H1 sI := J0.ofTry ok
    have sk1 : Sky B (X.env :: X.outer) a (Zc cls d) X.env.locals s'.heap := by rw [← hs]; exact sk
    show wpAny (model X.prog X.w) X.A (noteFrame (.ref a) X.env) _ _ _
    refine Sky.land Zc.steady frm hf sk1 fun k3 fly3 up3 => ?_
    have J3 : Inv X pins σ1 H1 { s' with heap := k3 } := J.landed nb fly3.1 (up.trans up3) os ag
    obtain ⟨o3, f3, g3, z3, d3⟩ := fly3.there
    have nfr : a ∉ frs (X.env :: X.outer) := fun mem => by
      obtain ⟨_, o', e', nof⟩ := fly3.2.2.1.mem mem
      rw [g3] at e'; cases e'
      exact nof _ d3
    have nL : a ≠ X.env.locals := fun z => nfr (List.mem_filterMap.mpr ⟨X.env, List.mem_cons_self, by rw [hf, z]⟩)
    have nF : a ∉ X.fs := fun mem => by
      obtain ⟨e, me, qe⟩ := List.mem_filterMap.mp mem
      exact nfr (List.mem_filterMap.mpr ⟨e, List.mem_cons_of_mem _ me, qe⟩)
    have S3 := J3.suite g3 d3 na nL nF
    have go : ∀ {hs' : List ExceptHandler} {l' : List (Value × Option Nat × (Addr → Value → Option Addr → TS))}, HdsA X hs' l' → wAll X.K Wout D l' cls d σ1 H1 → wpAny (model X.prog X.w) X.A (handleBy (.ref a) X.env hs') (SP X pins D) X.xe { s' with heap := k3 } := by
      intro hs' l' hk
      have testOf : ∀ {x : Str} {c : Value} {np : Pos}, Names X x c → ∀ {Q : Value → Shared → Prop} {E : Value → Shared → Prop}, Q c { s' with heap := k3 } → wpAny (model X.prog X.w) (X.A.mark (some (.ref a))) (eval (.Name x np) X.env) Q E { s' with heap := k3 } := fun {x c np} hc {Q E} qq => by
        obtain ⟨hg, hdb, hm | ⟨hm, hv, hne⟩⟩ := hc
        · exact ld_glob (X := X.suite a ((a, o3) :: (X.pn ++ pins))) S3 hg hm qq hdb
        · exact ld_blt (X := X.suite a ((a, o3) :: (X.pn ++ pins))) S3 hg hm hv qq hne hdb
      have typ : PySem.W.Looks (model X.prog X.w) k3 (typeOf (.ref a)) cls := fun A Q E s k q => wpAny_typeOf_ref (k _ _ g3) (by rw [z3.1]; exact q)
      induction hk with
      | nil =>
        intro w
        refine wpAny_handleBy_nil ?_
        obtain ⟨k1, k2, k3', oe, vs, T, oT, ts', he, hz, hd, h1, hr⟩ := id fly3
        unfold PySem.passOn
        refine wpAny_bind (wpAny_field he hd h1 ?_)
        rw [if_neg (show ¬ ((Value.ref T == Value.none) = true) from by simp)]
        have last : wpAny (model X.prog X.w) X.A (setFlight (.ref a) X.env.frame) (fun _ s4 => wpAny (model X.prog X.w) X.A (throw (.ref a) : Sem Flow) (SP X pins D) X.xe s4) X.xe { s' with heap := k3 } := by
          rw [hf]
          exact HandSPX.setFlight_upZ fly3 fun k4 hh4 up4 => wpAny_throw (tk _ _ ⟨a, B, sI, pins, σ1, H1, cls, d, rfl, J, nb, (up.trans up3).trans up4, .inr (.inr (by rw [hs]; exact hh4)), na, os, ag, w⟩)
        first
          | exact wpAny_bind (wpAny_pure (wpAny_bind last))
          | exact wpAny_bind last
      | @plain x c ts b₀ suite np pos' hds2 l2 hc hsu r ih =>
        rintro ⟨b, hb1, yes, no⟩
        refine wpAny_handleBy_cons (codeAny_handlers_test ?_) (by intro z; cases z)
        refine testOf hc ((PySem.W.exm_one (M := model X.prog X.w) J3.kIn typ hb1).here ?_)
        cases b with
        | true =>
          refine codeAny_handlers_suite (HandSPX.lands_againZ fly3 fun k4 fly4 up4 => ?_)
          have J4 : Inv X pins σ1 H1 { s' with heap := k4 } := J.landed nb fly4.1 ((up.trans up3).trans up4) os ag
          obtain ⟨o4, f4, g4, z4, d4⟩ := fly4.there
          refine wpAny_mono ((hsu a o4 cls d (X.pn ++ pins) z4 ⟨_, d4⟩).run [] _ _ H1 _ (J4.suite g4 d4 na nL nF) (yes rfl a na)) (fun fl s6 hsp => ?_) (fun _ _ z => False.elim z)
          cases fl with
          | next => obtain ⟨σ6, H6, S6, q6⟩ := hsp; exact ⟨_, _, S6.unsuite ok, q6⟩
          | brk => obtain ⟨σ6, H6, S6, q6⟩ := hsp; exact ⟨_, _, S6.unsuite ok, q6⟩
          | cont => obtain ⟨σ6, H6, S6, q6⟩ := hsp; exact ⟨_, _, S6.unsuite ok, q6⟩
          | ret u => obtain ⟨v6, σ6, H6, S6, r6, q6⟩ := hsp; exact ⟨_, _, _, S6.unsuite ok, r6, q6⟩
        | false =>
          show wpAny _ X.A (handleBy (.ref a) X.env hds2) _ _ _
          exact ih (no rfl)
      | @named x n i c ts b₀ suite np pos' hds2 l2 hc hi hl hsu r ih =>
        rintro ⟨b, hb1, yes, no⟩
        refine wpAny_handleBy_cons (codeAny_handlers_test ?_) (by intro z; cases z)
        refine testOf hc ((PySem.W.exm_one (M := model X.prog X.w) J3.kIn typ hb1).here ?_)
        cases b with
        | true =>
          refine codeAny_handlers_suite_as (HandSPX.lands_againZ fly3 fun k4 fly4 up4 => ?_)
          have J4 : Inv X pins σ1 H1 { s' with heap := k4 } := J.landed nb fly4.1 ((up.trans up3).trans up4) os ag
          obtain ⟨o4, f4, g4, z4, d4⟩ := fly4.there
          refine store_ok (X := X.suite a ((a, o4) :: (X.pn ++ pins))) (v := .ref a) (J4.suite g4 d4 na nL nF) hN hi (.inl hl) rfl (fun s5 S5 => ?_) (.inr hl)
          refine wpAny_mono ((hsu a o4 cls d (X.pn ++ pins) z4 ⟨_, d4⟩).run [] s5 _ H1 _ S5 (yes rfl a na)) (fun fl s6 hsp => ?_) (fun _ _ z => False.elim z)
          have gone : ∀ {σ6 : L2.St} {H6 : Hp} {Q : Shared → Prop}, Inv (X.suite a ((a, o4) :: (X.pn ++ pins))) [] σ6 H6 s6 → (∀ s7, Inv X pins (σ6.set i none) H6 s7 → Q s7) →
              wpAny (model X.prog X.w) X.A (do bindName X.env n .none; unbindBehindTheSuite X.env n pos') (fun _ s7 => Q s7) X.xe s6 := fun {σ6 H6 Q} S6 qq => gone_ok (S6.unsuite ok) hN hi hl qq
          cases fl with
          | next => obtain ⟨σ6, H6, S6, q6⟩ := hsp; exact gone S6 fun s7 J7 => ⟨_, _, J7, q6⟩
          | brk => obtain ⟨σ6, H6, S6, q6⟩ := hsp; exact gone S6 fun s7 J7 => ⟨_, _, J7, q6⟩
          | cont => obtain ⟨σ6, H6, S6, q6⟩ := hsp; exact gone S6 fun s7 J7 => ⟨_, _, J7, q6⟩
          | ret u => obtain ⟨v6, σ6, H6, S6, r6, q6⟩ := hsp; exact gone S6 fun s7 J7 => ⟨_, _, _, J7, r6, q6⟩
        | false =>
          show wpAny _ X.A (handleBy (.ref a) X.env hds2) _ _ _
          exact ih (no rfl)
    exact go hh w
  · cases fl with
    | next => obtain ⟨σ1, H1, J1, q1⟩ := hsp; exact wpAny_execs_nil ⟨σ1, H1, J1.ofTry ok, q1⟩
    | brk => obtain ⟨σ1, H1, J1, q1⟩ := hsp; exact ⟨σ1, H1, J1.ofTry ok, q1⟩
    | cont => obtain ⟨σ1, H1, J1, q1⟩ := hsp; exact ⟨σ1, H1, J1.ofTry ok, q1⟩
    | ret u => obtain ⟨v1, σ1, H1, J1, r1, q1⟩ := hsp; exact ⟨v1, σ1, H1, J1.ofTry ok, r1, q1⟩
end
/-! ## suites: an expression may read the exception's attributes -/
theorem rf_lookup {K : PySem.W.Frag} {m : List Addr} {H : Hp} {f : Str} {u : U} : ∀ {us : List (Str × U)} {vs : List (Str × V)}, RF K m H us vs → us.lookup f = some u → ∃ v, vs.lookup f = some v ∧ RV K m H u v
  | [], _, _, e => by cases e
  | p :: us, _, ⟨v, r, rfl, a, b⟩, e => by
    rw [List.lookup_cons] at e ⊢
    cases z : (f == p.1) with
    | true => rw [z] at e; simp only [Option.some.injEq] at e; subst e; exact ⟨v, rfl, a⟩
    | false => rw [z] at e; exact rf_lookup b e
theorem RX.mono {W : Wd} {m m1 : List Addr} {H H1 : Hp} {x : Ex} {cls : Value} {d : Option Addr} (e : Ext m H m1 H1) (r : RX W m H x cls d) : RX W m1 H1 x cls d := by
  obtain ⟨a, b⟩ := r
  refine ⟨a, b.imp id ?_⟩
  rintro ⟨dx, vs, e1, e2, e3⟩
  exact ⟨dx, vs, e1, e.xds _ _ e2, e3.mono e⟩
abbrev Xe := Ex → Ev
abbrev Xa := Ex → Ea
abbrev Xs := Ex → Sv
def NoX : Value → Option Addr → Hp → Prop := fun _ _ _ => False
structure SXE (W : Wd) (X : Cx) (i : Option Nat) (e : Expr) (f : Xe) : Prop where
  run : ∀ (a : Addr) (oe : Obj) (cls : Value) (d : Option Addr) (pn : List (Addr × Obj)), Zc cls d oe → (∃ vs, oe.data = .fields vs) → ∀ (x : Ex) (σ : Sg) (h : Hb) (m : List Addr) (τ : L2.St) (H : Hp) (Q : VK), Rel W m h H → RS W.K m H σ τ → RX W m H x cls d → (∀ j, i = some j → τ[j]? = some (some (.ref a))) →
    Post W (RV W.K) (f x σ h) m H Q NoX → EvT (X.suite a ((a, oe) :: pn)) e τ H Q
structure SXA (W : Wd) (X : Cx) (i : Option Nat) (e : List Expr) (f : Xa) : Prop where
  run : ∀ (a : Addr) (oe : Obj) (cls : Value) (d : Option Addr) (pn : List (Addr × Obj)), Zc cls d oe → (∃ vs, oe.data = .fields vs) → ∀ (x : Ex) (σ : Sg) (h : Hb) (m : List Addr) (τ : L2.St) (H : Hp) (Q : List V → Hp → Prop), Rel W m h H → RS W.K m H σ τ → RX W m H x cls d → (∀ j, i = some j → τ[j]? = some (some (.ref a))) →
    Post W (RVs W.K) (f x σ h) m H Q NoX → EvA (X.suite a ((a, oe) :: pn)) e τ H Q
structure SXS (W : Wd) (X : Cx) (i : Option Nat) (st : List Stmt) (f : Xs) : Prop where
  run : ∀ (a : Addr) (oe : Obj) (cls : Value) (d : Option Addr) (pn : List (Addr × Obj)), Zc cls d oe → (∃ vs, oe.data = .fields vs) → ∀ (x : Ex) (σ : Sg) (h : Hb) (m : List Addr) (τ : L2.St) (H : Hp) (D : Ends), Rel W m h H → RS W.K m H σ τ → RX W m H x cls d → (∀ j, i = some j → τ[j]? = some (some (.ref a))) →
    PostS W (f x σ h) m H D (fun _ _ _ _ => False) → EvL (X.suite a ((a, oe) :: pn)) st D τ H
section
variable {W : Wd} {X : Cx} {i : Option Nat} {e a b : Expr} {es : List Expr} {pos : Pos} {fe : Xe} {fs : Xa}
def xCon (u : U) : Xe := fun _ => eCon u
theorem sx_int {z j} : SXE W X i (.Constant (.int z) j pos) (xCon (.int z)) := ⟨fun a oe cls d pn hz hf x σ h m τ H Q rl rs rx ht p => ⟨_, pe_int, p.ok rl (v := V.int z) (by simp [RV])⟩⟩
theorem sx_bl {z j} : SXE W X i (.Constant (.bool z) j pos) (xCon (.bl z)) := ⟨fun a oe cls d pn hz hf x σ h m τ H Q rl rs rx ht p => ⟨_, pe_bl, p.ok rl (v := V.bl z) (by simp [RV])⟩⟩
theorem sx_non {j} : SXE W X i (.Constant .none j pos) (xCon .non) := ⟨fun a oe cls d pn hz hf x σ h m τ H Q rl rs rx ht p => ⟨_, pe_non, p.ok rl (v := V.non) (by simp [RV])⟩⟩
theorem sx_str {z j} : SXE W X i (.Constant (.str z) j pos) (xCon (.str z)) := ⟨fun a oe cls d pn hz hf x σ h m τ H Q rl rs rx ht p => ⟨_, pe_str, p.ok rl (v := V.str z) (by simp [RV])⟩⟩
def xNil : Xa := fun _ => aNil
def xCons (f : Xe) (g : Xa) : Xa := fun x => aCons (f x) (g x)
theorem sxa_nil : SXA W X i [] xNil := ⟨fun a oe cls d pn hz hf x σ h m τ H Q rl rs rx ht p => ⟨_, pa_nil, p.ok rl .nil⟩⟩
theorem sxa_cons {fa : Xe} (ha : SXE W X i a fa) (hr : SXA W X i es fs) (hs : ∀ env : Env, starEach (a :: es) env = (false, eval a env) :: starEach es env) : SXA W X i (a :: es) (xCons fa fs) := by
  refine ⟨fun q oe cls d pn hz hf x σ h m τ H Q rl rs rx ht p => ⟨_, pa_cons (EvT.pe _ a) (EvA.pa _ es) (hs _), ?_⟩⟩
  refine ha.run q oe cls d pn hz hf x σ h m τ H _ rl rs rx ht (Post.bind p fun u h1 m1 H1 v _ e1 rl1 rv p1 => ?_)
  refine hr.run q oe cls d pn hz hf x σ h1 m1 τ H1 _ rl1 (rs.mono e1) (rx.mono e1) ht (Post.bind p1 fun us h2 m2 H2 vs _ e2 rl2 rvs p2 => ?_)
  exact p2.ok rl2 (.cons (RV.mono e2 u rv) rvs)
def xTup (g : Xa) : Xe := fun x => eTup (g x)
theorem sx_tup {k} (ha : SXA W X i es fs) : SXE W X i (.Tuple es k pos) (xTup fs) := by
  refine ⟨fun q oe cls d pn hz hf x σ h m τ H Q rl rs rx ht p => ⟨_, pe_tup (EvA.pa _ es), ?_⟩⟩
  refine ha.run q oe cls d pn hz hf x σ h m τ H _ rl rs rx ht (Post.bind p fun us h1 m1 H1 vs _ e1 rl1 rvs p1 => ?_)
  unfold eTupk at p1
  split at p1
  · rename_i hl
    refine ⟨by rw [← rvs.length]; exact hl, fun q hq => ?_⟩
    obtain ⟨rl2, e2⟩ := rl1.junk (o := .tup vs) hq
    refine p1 m1 _ (.ref q) e2 rl2 ?_
    unfold RV
    exact ⟨q, vs, rfl, .inl upd_same, RVs.mono e2 us rvs⟩
  · exact p1.elim
/-- e.f -/
def xAtk (n : Nat) (ats : List Str) (f : Str) (x : Ex) (h : Hb) : Res U := if x.c < n ∧ f ∈ ats then (match x.fs.lookup f with | some u => .ok u h | none => .bad) else .bad
def xAt (n : Nat) (ats : List Str) (f : Str) : Xe := fun x _ h => xAtk n ats f x h
theorem sx_at {f y : Str} {j : Nat} {p1 : Pos} (hK : X.K = W.K) (hN : X.N[j]? = some y) (hv : Vis X.env.scope y) (hd : (y == ("__debug__" : Str)) = false) (hcd : (y == ("__classdict__" : Str)) = false) : SXE W X (some j) (.Attribute (.Name y p1) f pos) (xAt W.n W.ats f) := by
  refine ⟨fun q oe cls d pn hz hf x σ h m τ H Q rl rs rx ht p => ?_⟩
  unfold xAt xAtk at p
  split at p
  · rename_i hx
    obtain ⟨hx, hm⟩ := hx
    split at p
    · rename_i u e1
      obtain ⟨ec, hr⟩ := rx
      rcases hr with ⟨z, _⟩ | ⟨dx, vs, ed, eh, rf⟩
      · rw [z] at e1; cases e1
      · obtain ⟨v, l1, r1⟩ := rf_lookup rf e1
        refine ⟨_, pe_xf (C := W.ca x.c) (by rw [hK]; exact W.xf _ hx) (by rw [hK]; exact W.no _ _ hx hm) hz hf (pe_var (i := j) hN hv hd hcd) rfl, ?_⟩
        exact ⟨_, ht j rfl, rfl, ec, dx, vs, v, ed, eh, l1, p.ok rl r1⟩
    · exact p.elim
  · exact p.elim
/-! statements -/
def xsRet (f : Xe) : Xs := fun x => sRet (f x)
theorem sxs_ret (he : SXE W X i e fe) : SXS W X i [.Return (some e) pos] (xsRet fe) := by
  refine ⟨fun q oe cls d pn hz hf x σ h m τ H D rl rs rx ht p => ⟨_, pss_one (ps_ret (EvT.pe _ e)), ?_⟩⟩
  refine he.run q oe cls d pn hz hf x σ h m τ H _ rl rs rx ht ?_
  unfold xsRet sRet at p
  cases z : fe x σ h with
  | ok u h1 => rw [z] at p; exact fun m1 H1 v e1 rl1 rv => p m1 H1 v e1 rl1 rv
  | ex y h1 => rw [z] at p; exact fun m1 H1 c1 d1 e1 rl1 rx1 => p m1 H1 c1 d1 τ e1 rl1 rx1 (rs.mono e1)
  | bad => rw [z] at p; exact p
def xsSt (f : Sv) : Xs := fun _ => f
theorem sxs_retN : SXS W X i [.Return none pos] (xsSt sRetN) := ⟨fun q oe cls d pn hz hf x σ h m τ H D rl rs rx ht p => ⟨_, pss_one ps_retN, p m H .non (.refl m H) rl (by simp [RV])⟩⟩
theorem sxs_pass : SXS W X i [.Pass pos] (xsSt sNil) := ⟨fun q oe cls d pn hz hf x σ h m τ H D rl rs rx ht p => ⟨_, pss_one ps_pass, p m H τ (.refl m H) rl rs⟩⟩
theorem sxs_brk : SXS W X i [.Break pos] (xsSt sBrk) := ⟨fun q oe cls d pn hz hf x σ h m τ H D rl rs rx ht p => ⟨_, pss_one ps_break, p m H τ (.refl m H) rl rs⟩⟩
theorem sxs_cnt : SXS W X i [.Continue pos] (xsSt sCnt) := ⟨fun q oe cls d pn hz hf x σ h m τ H D rl rs rx ht p => ⟨_, pss_one ps_continue, p m H τ (.refl m H) rl rs⟩⟩
end
/-! ## try -/
def goneS (i : Option Nat) (s : Sg) : Sg := match i with
  | none => s
  | some i => s.set i none
/-- behind a suite: the name is gone; nothing is raised in it -/
def SR.gone (i : Option Nat) : SR → SR
  | .nx s h => .nx (goneS i s) h
  | .bk s h => .bk (goneS i s) h
  | .ct s h => .ct (goneS i s) h
  | .rt u h => .rt u h
  | .ex _ _ _ => .bad
  | .bad => .bad
def inS (i : Option Nat) (n : Nat) : Bool := match i with | none => true | some i => decide (i < n)
def suiteS (i : Option Nat) (f : Xs) (x : Ex) (s : Sg) (h : Hb) : SR := if inS i s.length = true then (f x (goneS i s) h).gone i else .bad
theorem goneS_rs {K : PySem.W.Frag} {m : List Addr} {H : Hp} {i : Nat} {s : Sg} {t : L2.St} (r : RS K m H s t) : RS K m H (goneS (some i) s) (t.set i none) := RS.setN i r
theorem PostS.gone {W : Wd} {i : Option Nat} {r : SR} {m : List Addr} {H : Hp} {D : Ends} {w : WX} (p : PostS W (r.gone i) m H D w) : PostS W r m H (behindD D i) (fun _ _ _ _ => False) := by
  cases i with
  | none =>
    cases r with
    | nx s h => exact p
    | bk s h => exact p
    | ct s h => exact p
    | rt u h => exact p
    | ex x s h => exact p.elim
    | bad => exact p.elim
  | some i =>
    cases r with
    | nx s h => exact fun m' H' t e rl rs => p m' H' _ e rl (goneS_rs rs)
    | bk s h => exact fun m' H' t e rl rs => p m' H' _ e rl (goneS_rs rs)
    | ct s h => exact fun m' H' t e rl rs => p m' H' _ e rl (goneS_rs rs)
    | rt u h => exact p
    | ex x s h => exact p.elim
    | bad => exact p.elim
theorem RS.bound {K : PySem.W.Frag} {m : List Addr} {H : Hp} {a : Addr} : ∀ {s : Sg} {t : L2.St} (i : Nat), RS K m H s t → RS K m H (s.set i none) (t.set i (some (.ref a)))
  | [], _, i, h => by cases h; exact rfl
  | o :: s, _, 0, ⟨v, r, e1, a, b⟩ => by subst e1; exact ⟨_, _, rfl, (fun u' hu => nomatch hu), b⟩
  | o :: s, _, i + 1, ⟨v, r, e1, a, b⟩ => by subst e1; exact ⟨_, _, rfl, a, RS.bound i b⟩
theorem RS.len {K : PySem.W.Frag} {m : List Addr} {H : Hp} : ∀ {s : Sg} {t : L2.St}, RS K m H s t → s.length = t.length
  | [], _, h => by cases h; rfl
  | o :: s, _, ⟨v, r, e1, a, b⟩ => by subst e1; simp [RS.len b]
def catchS (sub : Nat → Nat → Bool) (n : Nat) : List (Nat × Option Nat × Xs) → Ex → Sv
  | [], x, s, h => .ex x s h
  | (c, i, f) :: r, x, s, h => if x.c < n ∧ c < n then (if sub x.c c = true then suiteS i f x s h else catchS sub n r x s h) else .bad
def tryk (sub : Nat → Nat → Bool) (n : Nat) (l : List (Nat × Option Nat × Xs)) (r : SR) : SR := match r with
  | .ex x s h => catchS sub n l x s h
  | r => r
def sTry (sub : Nat → Nat → Bool) (n : Nat) (b : Sv) (l : List (Nat × Option Nat × Xs)) : Sv := fun s h => tryk sub n l (b s h)
/-- the clauses, as they are compiled -/
inductive SHs (W : Wd) (X : Cx) : List ExceptHandler → List (Nat × Option Nat × Xs) → Prop
  | nil : SHs W X [] []
  | plain {x : Str} {c : Nat} {f : Xs} {b₀ : Stmt} {suite : List Stmt} {np pos' : Pos} {hds : List ExceptHandler} {l : List (Nat × Option Nat × Xs)} (hc : Names X x (.ref (W.ca c))) (hs : SXS W X none (b₀ :: suite) f) (r : SHs W X hds l) :
      SHs W X (.ExceptHandler (some (.Name x np)) none (b₀ :: suite) pos' :: hds) ((c, none, f) :: l)
  | named {x n : Str} {i c : Nat} {f : Xs} {b₀ : Stmt} {suite : List Stmt} {np pos' : Pos} {hds : List ExceptHandler} {l : List (Nat × Option Nat × Xs)} (hc : Names X x (.ref (W.ca c))) (hi : X.N[i]? = some n) (hl : X.env.kindOf n = some .local) (hs : SXS W X (some i) (b₀ :: suite) f) (r : SHs W X hds l) :
      SHs W X (.ExceptHandler (some (.Name x np)) (some n) (b₀ :: suite) pos' :: hds) ((c, some i, f) :: l)
/-- what a clause's suite asks, whatever the exception -/
def tsOf (X : Cx) (st : List Stmt) : Addr → Value → Option Addr → TS := fun a cls d D τ H => ∀ (oe : Obj) (pn : List (Addr × Obj)), Zc cls d oe → (∃ vs, oe.data = .fields vs) → EvL (X.suite a ((a, oe) :: pn)) st D τ H
theorem tsOf_ps {X : Cx} {st : List Stmt} (a : Addr) (oe : Obj) (cls : Value) (d : Option Addr) (pn : List (Addr × Obj)) (hz : Zc cls d oe) (hf : ∃ vs, oe.data = .fields vs) : PSs (X.suite a ((a, oe) :: pn)) st (tsOf X st a cls d) :=
  ⟨fun pins s σ H D I h => (EvL.pss _ st).run pins s σ H D I (h oe pn hz hf)⟩
theorem ss_try {W : Wd} {X : Cx} {body : List Stmt} {h₀ : ExceptHandler} {hds : List ExceptHandler} {pos : Pos} {fb : Sv} {l : List (Nat × Option Nat × Xs)} (hK : X.K = W.K) (hs : X.stack = X.env :: X.outer) (hf : X.env.frame = some X.env.locals) (hN : X.N.Nodup)
    (hb : ∀ (pn : List (Addr × Obj)) (xe : Value → Shared → Prop), PassesOwn (model X.prog X.w) X.A X.env xe → SL W (X.tr pn xe) body fb) (hh : SHs W X (h₀ :: hds) l) : SS W X (.Try body (h₀ :: hds) [] [] pos) (sTry W.sub W.n fb l) := by
  have key : ∀ {hs' : List ExceptHandler} {l' : List (Nat × Option Nat × Xs)}, SHs W X hs' l' → ∃ l2, HdsA X hs' l2 ∧ ∀ (w : WX) (D : Ends) (x : Ex) (σ : Sg) (h : Hb) (m : List Addr) (H : Hp), PostS W (catchS W.sub W.n l' x σ h) m H D w →
      ∀ m' H' cls d t, Ext m H m' H' → Rel W m' h H' → RX W m' H' x cls d → RS W.K m' H' σ t → wAll X.K w D l2 cls d t H' := by
    intro hs' l' hk
    induction hk with
    | nil => exact ⟨[], .nil, fun w D x σ h m H p m' H' cls d t e rl rx rs => p m' H' cls d t e rl rx rs⟩
    | @plain x c f b₀ suite np pos' hds2 l2 hc hsu r ih =>
      obtain ⟨l3, h1, h2⟩ := ih
      refine ⟨_, .plain hc tsOf_ps h1, fun w D y σ h m H p m' H' cls d t e rl rx rs => ?_⟩
      unfold catchS at p
      split at p
      · rename_i hx
        refine ⟨W.sub y.c c, by rw [hK, rx.1]; exact W.exm _ _ hx.1 hx.2, fun eb a na oe pn hz hf' => ?_, fun eb => ?_⟩
        · rw [if_pos eb] at p
          refine hsu.run a oe cls d pn hz hf' y σ h m' t H' D rl rs rx (fun j z => by cases z) ?_
          unfold suiteS at p
          rw [if_pos (show inS none σ.length = true from rfl)] at p
          exact (PostS.gone (PostS.later p e))
        · rw [if_neg (by rw [eb]; exact Bool.false_ne_true)] at p
          exact h2 w D y σ h m H p m' H' cls d t e rl rx rs
      · exact p.elim
    | @named x n i c f b₀ suite np pos' hds2 l2 hc hi hl hsu r ih =>
      obtain ⟨l3, h1, h2⟩ := ih
      refine ⟨_, .named hc hi hl tsOf_ps h1, fun w D y σ h m H p m' H' cls d t e rl rx rs => ?_⟩
      unfold catchS at p
      split at p
      · rename_i hx
        refine ⟨W.sub y.c c, by rw [hK, rx.1]; exact W.exm _ _ hx.1 hx.2, fun eb a na oe pn hz hf' => ?_, fun eb => ?_⟩
        · rw [if_pos eb] at p
          unfold suiteS at p
          split at p
          · rename_i hin
            have hlt : i < t.length := by rw [← rs.len]; simpa [inS] using hin
            refine hsu.run a oe cls d pn hz hf' y (goneS (some i) σ) h m' (t.set i (some (.ref a))) H' (behindD D (some i)) rl (RS.bound i rs) rx (fun j z => by cases z; rw [List.getElem?_set_self hlt]) ?_
            exact (PostS.gone (PostS.later p e))
          · exact p.elim
        · rw [if_neg (by rw [eb]; exact Bool.false_ne_true)] at p
          exact h2 w D y σ h m H p m' H' cls d t e rl rx rs
      · exact p.elim
  obtain ⟨l2, h1, h2⟩ := key hh
  refine ⟨fun w tk σ h m τ H D rl rs p => ?_⟩
  refine ⟨_, ps_try_all (tb := fun Wx D τ H => ∀ (pn : List (Addr × Obj)) (xe : Value → Shared → Prop), Takes (X.tr pn xe) Wx → PassesOwn (model X.prog X.w) X.A X.env xe → EvL (X.tr pn xe) body D τ H) hs hf hN tk (fun Wx pn xe tk2 po => ⟨fun pins s σ H D I hq => (EvL.pss _ body).run pins s σ H D I (hq pn xe tk2 po)⟩) h1, ?_⟩
  intro pn xe tk2 po
  refine (hb pn xe po).run _ tk2 σ h m τ H D rl rs ?_
  unfold sTry tryk at p
  cases z : fb σ h with
  | nx s h1 => rw [z] at p; exact p
  | bk s h1 => rw [z] at p; exact p
  | ct s h1 => rw [z] at p; exact p
  | rt u h1 => rw [z] at p; exact p
  | bad => rw [z] at p; exact p
  | ex x s h1 =>
    rw [z] at p
    intro m' H' cls d t e rl' rx rs'
    rw [hK] at *
    exact h2 w D x s h1 m H p m' H' cls d t e rl' rx rs'
end Lz
namespace Lz
open PySem PySem.Spec PyProof.Rows L2
open Classical

section
variable {W : Wd} {X : Cx} {tg iter elt : Expr} {ifs : List Expr} {scope : Scope} {own : List (Str × Nat)} {fi : Si} {g : Tn} {tt : Eb} {fe : Ev} {pos spos : Pos}
def EvBG (X : Cx) (scope : Scope) (tg : Expr) : TG := fun v t H Q => ∀ s H0 C cl fp, EvG (BX X scope s H0 C cl fp) tg v t H Q
def EvBT (X : Cx) (scope : Scope) (ifs : List Expr) : TT := fun t H Q => ∀ s H0 C cl fp, ∃ tb, PTs (BX X scope s H0 C cl fp) ifs tb ∧ tb t H Q
def EvBE (X : Cx) (scope : Scope) (elt : Expr) : TE := fun t H Q => ∀ s H0 C cl fp, EvT (BX X scope s H0 C cl fp) elt t H Q
theorem EvBG.pg (s : Shared) (H : Hp) (C : Addr) (cl : List (Str × Addr)) (fp : List Addr) : PG (BX X scope s H C cl fp) tg (EvBG X scope tg) := ⟨fun pins s' σ H' v u Q I r z => by obtain ⟨te, p, q⟩ := z s H C cl fp; exact p.run pins s' σ H' v u Q I r q⟩
theorem EvBT.pt (s : Shared) (H : Hp) (C : Addr) (cl : List (Str × Addr)) (fp : List Addr) : PTs (BX X scope s H C cl fp) ifs (EvBT X scope ifs) := ⟨fun pins s' σ H' Q I z => by obtain ⟨te, p, q⟩ := z s H C cl fp; exact p.run pins s' σ H' Q I q⟩
theorem EvBE.pe (s : Shared) (H : Hp) (C : Addr) (cl : List (Str × Addr)) (fp : List Addr) : PE (BX X scope s H C cl fp) elt (EvBE X scope elt) := ⟨fun pins s' σ H' Q I z => by obtain ⟨te, p, q⟩ := z s H C cl fp; exact p.run pins s' σ H' Q I q⟩
theorem se_lc (hc : X.calm = true) (hN : X.N.Nodup) (hi : SI W X tg iter fi) (ok : BlkOk X.N X.env.scope scope own) (hg : ∀ s H C cl fp, SN W (BX X scope s H C cl fp) tg g (own.map (·.2))) (ht : ∀ s H C cl fp, STs W (BX X scope s H C cl fp) ifs tt)
    (he : ∀ s H C cl fp, SE W (BX X scope s H C cl fp) elt fe) (hs : ∀ x, foldedSetIterable iter X.env x = pure x) : SE W X (.ListComp elt [⟨tg, iter, ifs, 0⟩] scope pos) (eLc fi g (own.map (·.2)) tt fe) := by
  exact ⟨fun w tk σ h m τ H Q rl rs p => ⟨_, pe_lc hc hN (EvI.pi X tg iter) ok EvBG.pg EvBT.pt EvBE.pe hs, lc_reads hi hg ht he tk rl rs p⟩⟩
theorem ss_setLc {i : Nat} {y : Str} {py : Pos} (hc : X.calm = true) (hN : X.N.Nodup) (hy : X.N[i]? = some y) (hyl : X.env.scope.names.lookup y = some .local)
    (hsw : swapsWith (.ListComp elt [⟨tg, iter, ifs, 0⟩] scope pos) (some (.Name y py)) spos.line X.env = pure true) (hi : SI W X tg iter fi) (ok : BlkOk X.N X.env.scope scope own) (hg : ∀ s H C cl fp, SN W (BX X scope s H C cl fp) tg g (own.map (·.2))) (ht : ∀ s H C cl fp, STs W (BX X scope s H C cl fp) ifs tt)
    (he : ∀ s H C cl fp, SE W (BX X scope s H C cl fp) elt fe) (hs : ∀ x, foldedSetIterable iter X.env x = pure x) : SS W X (.Assign [.Name y py] (.ListComp elt [⟨tg, iter, ifs, 0⟩] scope pos) spos) (sSet i (eLc fi g (own.map (·.2)) tt fe)) := by
  refine ⟨fun w tk σ h m τ H D rl rs p => ⟨_, ps_setLc hc hN hy hyl hsw (EvI.pi X tg iter) ok EvBG.pg EvBT.pt EvBE.pe hs, ?_⟩⟩
  refine lc_reads hi hg ht he tk rl rs (PostS.ahead (R := RV W.K) rs p fun u h1 m1 H1 v _ e rl1 rv p1 => ?_)
  exact p1 m1 H1 _ (.refl m1 H1) rl1 (RS.set rv i (rs.mono e))
end

/-! ### shapes of the text -/
def notStar : Expr → Bool
  | .Starred _ _ => false
  | _ => true
theorem star_cons {a : Expr} {es : List Expr} (h : notStar a = true) (env : Env) : starEach (a :: es) env = (false, eval a env) :: starEach es env := by
  cases a <;> first | exact absurd h Bool.false_ne_true | rfl
theorem star_any {es : List Expr} (h : es.all notStar = true) (env : Env) (pos : Pos) : (backTo pos (starEach es env)).any (·.1) = false := by
  induction es with
  | nil => rfl
  | cons a es ih =>
    simp only [List.all_cons, Bool.and_eq_true] at h
    rw [star_cons h.1]
    show (false || (backTo pos (starEach es env)).any (·.1)) = false
    rw [ih h.2]; rfl
theorem star_few {e : Expr} {es : List Expr} (h : (e :: es).all notStar = true) (hl : (e :: es).length < 29) (env : Env) (pos : Pos) :
    ((backTo pos (starEach (e :: es) env)).all (fun x => !x.1) && (backToKw pos (keywordEach [] env)).all (fun x => x.1.isSome)
      && decide ((e :: es).length + ([] : List Keyword).length + (if ([] : List Keyword).isEmpty then 0 else 1) < 30)) = true := by
  have h1 : ∀ l : List Expr, l.all notStar = true → (backTo pos (starEach l env)).all (fun x => !x.1) = true := by
    intro l
    induction l with
    | nil => intro _; rfl
    | cons a es ih =>
      intro h
      simp only [List.all_cons, Bool.and_eq_true] at h
      rw [star_cons h.1]
      show (true && (backTo pos (starEach es env)).all (fun x => !x.1)) = true
      rw [ih h.2]; rfl
  rw [h1 _ h]
  have h2 : (backToKw pos (keywordEach [] env)).all (fun x => x.1.isSome) = true := rfl
  rw [h2]
  simp at hl ⊢
  omega
def notSlice : Expr → Bool
  | .Slice _ _ _ _ => false
  | _ => true
theorem plain_ix {b : Expr} (h : notSlice b = true) : PlainIx b := by
  intro o i
  cases b <;> first | exact absurd h Bool.false_ne_true | rfl
def notComp : Expr → Bool
  | .ListComp .. => false
  | .SetComp .. => false
  | .DictComp .. => false
  | _ => true
theorem swaps_no {e : Expr} (h : notComp e = true) (t : Option Expr) (l : Nat) (env : Env) : swapsWith e t l env = pure false := by
  cases e <;> first | exact absurd h Bool.false_ne_true | rfl
def notSet : Expr → Bool
  | .Set .. => false
  | _ => true
theorem folded_no {e : Expr} (h : notSet e = true) (env : Env) (x : Value) : foldedSetIterable e env x = pure x := by
  cases e <;> first | exact absurd h Bool.false_ne_true | rfl
/-- the test of it is its value's truth -/
def plainTest : Expr → Bool
  | .UnaryOp .Not _ _ => false
  | .BoolOp .. => false
  | .IfExp .. => false
  | .Compare .. => false
  | _ => true
theorem test_plain {e : Expr} (h : plainTest e = true) (env : Env) : ∀ whole, isTrue e env whole = (do let v ← whole; standAt e.pos; holding [v] (truthy v)) := by
  intro w
  cases e with
  | UnaryOp op a p => cases op <;> first | exact absurd h Bool.false_ne_true | rfl
  | BoolOp => cases h
  | IfExp => cases h
  | Compare => cases h
  | _ => rfl

/-! ### the text's own names -/
def ixOf : List Str → Str → Option Nat
  | [], _ => none
  | y :: l, x => if y = x then some 0 else (ixOf l x).map (· + 1)
theorem ixOf_get : ∀ {l : List Str} {x : Str} {i : Nat}, ixOf l x = some i → l[i]? = some x
  | [], _, _, h => by cases h
  | y :: l, x, i, h => by
    unfold ixOf at h
    split at h
    · rename_i e
      cases h
      rw [e]; rfl
    · cases q : ixOf l x with
      | none => rw [q] at h; cases h
      | some j =>
        rw [q] at h
        cases h
        simpa using ixOf_get q

inductive GV where
  | bt
  | con (u : U)
  | fn (r : GC) (n : Nat) (ds : List U)
  | exc (c : Nat) (own : Option (Nat × List (Str × Nat)))
structure Ctx where
  N : List Str
  sc : Scope
  wr : List Str
  G : List (Str × GV)
  sub : Nat → Nat → Bool
  nx : Nat
  ats : List Str

/-- what a def promises: its run -/
def spOf (W : Wd) (n : Nat) (r : GC) : Sp := fun vs H Q E => vs.length = n ∧ ∃ m us h, Rel W m h H ∧ RVs W.K m H us vs ∧ Post W (RV W.K) (r us h) m H Q (fun c d H' => E c d H')
def GOk (W : Wd) (P : Program) (w : World) (mg : Str → Option Value) (base : Heap) (k : Nat) (x : Str) : GV → Prop
  | .bt => mg x = none
  | .con u => ∃ v z, mg x = some z ∧ RelV v z ∧ ∀ m H, RV W.K m H u v
  | .fn r n ds => (∀ us h, us.length ≠ n → r us h = .bad) ∧ ∃ f fd ps, mg x = some (.ref f) ∧ PySem.W.keepIn W.K (.ref f) = true ∧ FnOk P w W.K mg base (L2.CX P w) k f fd ps (spOf W n r) ∧ ps.length = n ∧
      ∀ j, j ≤ ds.length → ∃ dvs dus, Binds W.K fd ps dus ∧ Vals dvs dus ∧ ∀ m H, RVs W.K m H (ds.drop j) dvs
  | .exc c none => c < W.n ∧ mg x = some (.ref (W.ca c)) ∧ X0 W.K (W.ca c)
  | .exc c (some o) => c < W.n ∧ mg x = some (.ref (W.ca c)) ∧ ∃ k', k' + 1 ≤ k ∧ XI P w W.K mg base k' (W.ca c) o.1 o.2
structure XOk (c : Ctx) (W : Wd) (k : Nat) (X : Cx) : Prop where
  hN : X.N = c.N
  sc : X.env.scope = c.sc
  hK : X.K = W.K
  calm : X.calm = true
  nd : X.N.Nodup
  fnc : ∀ x ∈ c.wr, Loc X.env.scope x → X.fn x = true ∨ X.env.scope.names.lookup x = some .local
  room : Room k X.A
  glob : ∀ x gv, c.G.lookup x = some gv → GOk W X.prog X.w X.mg X.base k x gv
  hsub : W.sub = c.sub
  hn : W.n = c.nx
  hats : W.ats = c.ats

/-- a slot that is read -/
def slotV (c : Ctx) (x : Str) : Option Nat := match c.sc.names.lookup x with
  | some .local => ixOf c.N x
  | some .cell => ixOf c.N x
  | some .free => ixOf c.N x
  | _ => none
/-- a slot that is written -/
def slotL (c : Ctx) (x : Str) : Option Nat := if x ∈ c.wr then match c.sc.names.lookup x with
  | some .local => ixOf c.N x
  | some .cell => ixOf c.N x
  | _ => none
  else none
theorem slotV_ok {c : Ctx} {W : Wd} {k : Nat} {X : Cx} (o : XOk c W k X) {x : Str} {i : Nat} (h : slotV c x = some i) : X.N[i]? = some x ∧ Vis X.env.scope x := by
  unfold slotV at h
  rw [o.hN]
  unfold Vis
  rw [o.sc]
  split at h
  · rename_i e; exact ⟨ixOf_get h, .inl e⟩
  · rename_i e; exact ⟨ixOf_get h, .inr (.inl e)⟩
  · rename_i e; exact ⟨ixOf_get h, .inr (.inr e)⟩
  · cases h
theorem slotL_ok {c : Ctx} {W : Wd} {k : Nat} {X : Cx} (o : XOk c W k X) {x : Str} {i : Nat} (h : slotL c x = some i) : X.N[i]? = some x ∧ Loc X.env.scope x ∧ (X.fn x = true ∨ X.env.scope.names.lookup x = some .local) := by
  unfold slotL at h
  split at h
  · rename_i hw
    have key : X.N[i]? = some x ∧ Loc X.env.scope x := by
      rw [o.hN]
      unfold L2.Loc
      rw [o.sc]
      split at h
      · rename_i e; exact ⟨ixOf_get h, .inl e⟩
      · rename_i e; exact ⟨ixOf_get h, .inr e⟩
      · cases h
    exact ⟨key.1, key.2, o.fnc x hw key.2⟩
  · cases h
def isGl (c : Ctx) (x : Str) : Bool := c.sc.names.lookup x == some .globalImplicit
theorem isGl_ok {c : Ctx} {W : Wd} {k : Nat} {X : Cx} (o : XOk c W k X) {x : Str} (h : isGl c x = true) : Gl X x := by
  unfold isGl at h
  have e : c.sc.names.lookup x = some .globalImplicit := by simpa using h
  show X.env.scope.names.lookup x = some .globalImplicit
  rw [o.sc]; exact e

/-! ### operators -/
noncomputable def binG : Operator → Option G2
  | .Add => some vAdd | .Sub => some vSub | .Mult => some vMul | .FloorDiv => some vDiv | .Mod => some vMod | .Pow => some vPow
  | _ => none
theorem se_binG {W : Wd} {X : Cx} {a b : Expr} {fa fb : Ev} {pos : Pos} {op : Operator} {g : G2} (hK : X.K = W.K) (h : binG op = some g) (ha : SE W X a fa) (hb : SE W X b fb) : SE W X (.BinOp a op b pos) (e2 g fa fb) := by
  cases op with
  | Add => cases h; exact se_bin op_addA (by rw [hK]; exact o_add) ha hb
  | Sub => cases h; exact se_bin op_subA o_sub ha hb
  | Mult => cases h; exact se_bin op_mulA o_mul ha hb
  | FloorDiv => cases h; exact se_bin op_divA o_div ha hb
  | Mod => cases h; exact se_bin op_modN o_mod ha hb
  | Pow => cases h; exact se_bin op_pow o_pow ha hb
  | _ => cases h
noncomputable def cmpG : CmpOp → Option G2
  | .Eq => some vEq | .NotEq => some vNe | .Lt => some vLt | .LtE => some vLe | .Gt => some vGt | .GtE => some vGe | .Is => some vIs | .IsNot => some vIsN | .In => some (vIn false) | .NotIn => some (vIn true)
/-- a comparison's rule -/
theorem cmpG_ok {W : Wd} {X : Cx} {op : CmpOp} {g : G2} (hK : X.K = W.K) (hu : X.A.units + 64 < cLine) (h : cmpG op = some g) : ∃ r, OpR X (compareOp op) r ∧ Op2 W r g := by
  cases op with
  | Eq => cases h; exact ⟨_, op_eqA hu, by rw [hK]; exact o_eq⟩
  | NotEq => cases h; exact ⟨_, op_neA hu, by rw [hK]; exact o_ne⟩
  | Lt => cases h; exact ⟨_, op_lt, o_cmp⟩
  | LtE => cases h; exact ⟨_, op_le, o_cmp⟩
  | Gt => cases h; exact ⟨_, op_gt, o_cmp⟩
  | GtE => cases h; exact ⟨_, op_ge, o_cmp⟩
  | Is => cases h; exact ⟨_, op_isA, o_is⟩
  | IsNot => cases h; exact ⟨_, op_notA, o_isN⟩
  | In => cases h; exact ⟨_, L2.op_in_seq, by rw [hK]; exact o_in⟩
  | NotIn => cases h; exact ⟨_, L2.op_notIn_seq, by rw [hK]; exact o_in⟩

/-! ### built-ins by name -/
structure BT where
  nm : Str
  ty : Bool
  id : String
  g : GC
noncomputable def btab : List BT := [⟨"len", false, "len", cLen⟩, ⟨"int", true, "int", cInt⟩, ⟨"all", false, "all", cAll⟩, ⟨"any", false, "any", cAny⟩, ⟨"tuple", true, "tuple", cTup⟩, ⟨"list", true, "list", cLst⟩, ⟨"sum", false, "sum", cSum⟩,
  ⟨"max", false, "max", cMaxX⟩, ⟨"min", false, "min", cMinX⟩, ⟨"abs", false, "abs", cAbs⟩, ⟨"sorted", false, "sorted", cSrtX⟩]
def bval (b : BT) : Value := if b.ty then .type b.id else .builtin b.id
theorem btab_ok {W : Wd} {X : Cx} (hK : X.K = W.K) (hc : X.calm = true) (hu : X.A.units + 64 < cLine) : ∀ b ∈ btab, bootBuiltins b.nm = some (bval b) ∧ b.nm ≠ "__name__" ∧ (b.nm == ("__debug__" : Str)) = false ∧ ∃ r, CallR X (bval b) r ∧ OpC W r b.g := by
  intro b hb
  simp only [btab, List.mem_cons, List.not_mem_nil, or_false] at hb
  rcases hb with rfl | rfl | rfl | rfl | rfl | rfl | rfl | rfl | rfl | rfl | rfl
  · exact ⟨PySem.boot_len, by decide, by decide, _, call_len, by rw [hK]; exact o_len⟩
  · exact ⟨PyProof.Rows.boot_int, by decide, by decide, _, call_int1, o_cint⟩
  · exact ⟨by decide +kernel, by decide, by decide, _, cr_all hc, by rw [hK]; exact o_cB⟩
  · exact ⟨by decide +kernel, by decide, by decide, _, cr_any hc, by rw [hK]; exact o_cB⟩
  · exact ⟨by decide +kernel, by decide, by decide, _, call_tuple_of, by rw [hK]; exact o_ctup⟩
  · exact ⟨by decide +kernel, by decide, by decide, _, call_list_of, by rw [hK]; exact o_clst⟩
  · exact ⟨by decide +kernel, by decide, by decide, _, cr_sumA hc, by rw [hK]; exact o_sum⟩
  · exact ⟨by decide +kernel, by decide, by decide, _, CallR.or (CallR.or (call_max2 hc) (cr_max hc)) (CallR.or (call_max3 hc) (cr_maxC hc hu)), by rw [hK]; exact o_max.or (o_c3.or o_bestC)⟩
  · exact ⟨by decide +kernel, by decide, by decide, _, CallR.or (CallR.or (call_min2 hc) (cr_min hc)) (CallR.or (call_min3 hc) (cr_minC hc hu)), by rw [hK]; exact o_min.or (o_c3.or o_bestC)⟩
  · exact ⟨by decide +kernel, by decide, by decide, _, call_abs, o_abs⟩
  · exact ⟨by decide +kernel, by decide, by decide, _, CallR.or (CallR.or cr_sortedI cr_srtP) (cr_sortC hu), by rw [hK]; exact o_srt.or o_sortC⟩
noncomputable def findB (x : Str) : Option BT := btab.find? fun b => b.nm == x
theorem findB_ok {x : Str} {b : BT} (h : findB x = some b) : b ∈ btab ∧ b.nm = x := ⟨List.mem_of_find?_eq_some h, by simpa using List.find?_some h⟩
theorem se_builtin {W : Wd} {X : Cx} {e : Expr} {es : List Expr} {fs : Ea} {p pos : Pos} {x : Str} {b : BT} (hK : X.K = W.K) (hc : X.calm = true) (hu : X.A.units + 64 < cLine) (h : findB x = some b) (hg : Gl X x) (hm : X.mg x = none) (ha : SA W X (e :: es) fs) (hs : (e :: es).all notStar = true) :
    SE W X (.Call (.Name x p) (e :: es) [] pos) (eC b.g fs) := by
  obtain ⟨mem, rfl⟩ := findB_ok h
  obtain ⟨h1, h2, h3, r, h4, h5⟩ := btab_ok hK hc hu b mem
  simp only [List.all_cons, Bool.and_eq_true] at hs
  unfold bval at h1 h4
  split at h1
  · rename_i ht
    rw [if_pos ht] at h4
    exact se_callTy h4 h5 hg hm h1 ha h2 h3 (star_cons hs.1 _) (star_any hs.2 _ _)
  · rename_i ht
    rw [if_neg ht] at h4
    exact se_callB h4 h5 hg hm h1 ha h2 h3 (star_cons hs.1 _) (star_any hs.2 _ _)
/-- a def of the text is called -/
theorem se_def {W : Wd} {X : Cx} {e : Expr} {es : List Expr} {fs : Ea} {p pos : Pos} {x : Str} {k n j : Nat} {r : GC} {ds : List U} (hK : X.K = W.K) (hr : Room k X.A) (ok : GOk W X.prog X.w X.mg X.base k x (.fn r n ds)) (hj : j ≤ ds.length) (hg : Gl X x) (hdb : (x == ("__debug__" : Str)) = false)
    (ha : SA W X (e :: es) fs) (hs : (e :: es).all notStar = true) : SE W X (.Call (.Name x p) (e :: es) [] pos) (eC (fun us h => r (us ++ ds.drop j) h) fs) := by
  obtain ⟨ar, f, fd, ps, hm, hk, F, hl, hb⟩ := ok
  obtain ⟨dvs, dus, b1, b2, b3⟩ := hb j hj
  simp only [List.all_cons, Bool.and_eq_true] at hs
  have F' : FnOk X.prog X.w X.K X.mg X.base (L2.CX X.prog X.w) k f fd ps (spOf W n r) := by rw [hK]; exact F
  refine ⟨fun w tk σ h m τ H Q rl rs q => ⟨_, pe_callSD (E := WE w) F' hr hg hm (by rw [hK]; exact hk) (by rw [hK]; exact b1) b2 (fun σ => passAt tk σ) (EvA.pa X _) hdb (star_cons hs.1 _) (star_any hs.2 _ _), ?_⟩⟩
  refine ha.run w tk σ h m τ H _ rl rs (Post.bind q fun us h1 m1 H1 vs _ e1 rl1 rv q1 => ?_)
  have rv2 := rv.append (b3 m1 H1)
  refine ⟨?_, m1, us ++ ds.drop j, h1, rl1, rv2, q1⟩
  rw [← rv2.length]
  apply Classical.byContradiction
  intro hn
  have q1 : Post W (RV W.K) (r (us ++ ds.drop j) h1) m1 H1 Q _ := q1
  rw [ar _ _ hn] at q1
  exact q1

/-! ### methods by name -/
structure MB where
  nm : Str
  id : String
  g : GM
noncomputable def mtab : List MB := [⟨"append", "list.append", mAppend⟩, ⟨"pop", "list.pop", mPop⟩, ⟨"insert", "list.insert", mInsert⟩, ⟨"extend", "list.extend", mExtend⟩, ⟨"reverse", "list.reverse", mReverse⟩]
theorem mtab_ok {W : Wd} {X : Cx} : ∀ b ∈ mtab, Slot "list" b.nm b.id ∧ typeOf (.builtin b.id) = pure (.type "method_descriptor") ∧ ∃ r, MtR X b.id r ∧ OpM W r b.g := by
  intro b hb
  simp only [mtab, List.mem_cons, List.not_mem_nil, or_false] at hb
  rcases hb with rfl | rfl | rfl | rfl | rfl
  · exact ⟨PySem.F.slot_list_append, PySem.F.type_list_append, _, mt_append, o_append⟩
  · exact ⟨PySem.F.slot_list_pop, PySem.F.type_list_pop, _, MtR.or mt_pop mt_popAt, o_pop⟩
  · exact ⟨PySem.F.slot_list_insert, PySem.F.type_list_insert, _, mt_insert, o_insert⟩
  · exact ⟨PySem.F.slot_list_extend, PySem.F.type_list_extend, _, mt_extend, o_extend⟩
  · exact ⟨PySem.F.slot_list_reverse, PySem.F.type_list_reverse, _, mt_reverse, o_reverse⟩
noncomputable def findM (x : Str) : Option MB := mtab.find? fun b => b.nm == x
theorem findM_ok {x : Str} {b : MB} (h : findM x = some b) : b ∈ mtab ∧ b.nm = x := ⟨List.mem_of_find?_eq_some h, by simpa using List.find?_some h⟩
end Lz
namespace Lz
open PySem PySem.Spec PyProof.Rows L2
open Classical

/-! ### from the text to its meaning -/
abbrev CE := Ctx → Expr → Option Ev
abbrev CB := Ctx → Expr → Option Eb
def SoundE (k : Nat) (W : Wd) (f : CE) : Prop := ∀ c X e v, XOk c W k X → f c e = some v → SE W X e v
def SoundB (k : Nat) (W : Wd) (f : CB) : Prop := ∀ c X e v, XOk c W k X → f c e = some v → SB W X e v

noncomputable def argsC (cE : CE) (c : Ctx) : List Expr → Option Ea
  | [] => some aNil
  | e :: es => if notStar e = true then match cE c e, argsC cE c es with
    | some f, some g => some (aCons f g)
    | _, _ => none
    else none
theorem argsC_ok {k : Nat} {W : Wd} {cE : CE} (sE : SoundE k W cE) {c : Ctx} {X : Cx} (o : XOk c W k X) : ∀ {es : List Expr} {f : Ea}, argsC cE c es = some f → SA W X es f ∧ es.all notStar = true
  | [], f, h => by cases h; exact ⟨sa_nil, rfl⟩
  | e :: es, f, h => by
    unfold argsC at h
    split at h
    · rename_i hs
      split at h
      · rename_i f1 g1 h1 h2
        cases h
        obtain ⟨a, b⟩ := argsC_ok sE o h2
        exact ⟨sa_cons (sE _ _ _ _ o h1) a (star_cons hs _), by simp [hs, b]⟩
      · cases h
    · cases h

/-- the items of a display -/
noncomputable def itemsC (cE : CE) (c : Ctx) : List Expr → Option Ea
  | [] => some aNil
  | e :: es => match e with
    | .Starred a _ => match cE c a, itemsC cE c es with
      | some f, some g => some (aStar f g)
      | _, _ => none
    | e => match cE c e, itemsC cE c es with
      | some f, some g => if notStar e = true then some (aCons f g) else none
      | _, _ => none
theorem itemsC_ok {k : Nat} {W : Wd} {cE : CE} (sE : SoundE k W cE) {c : Ctx} {X : Cx} (o : XOk c W k X) : ∀ {es : List Expr} {f : Ea}, itemsC cE c es = some f → SA W X es f
  | [], f, h => by cases h; exact sa_nil
  | e :: es, f, h => by
    unfold itemsC at h
    split at h
    · split at h
      · rename_i f1 g1 h1 h2
        cases h
        exact sa_star o.hK (sE _ _ _ _ o h1) (itemsC_ok sE o h2)
      · cases h
    · split at h
      · rename_i f1 g1 h1 h2
        split at h
        · rename_i hs
          cases h
          exact sa_cons (sE _ _ _ _ o h1) (itemsC_ok sE o h2) (star_cons hs _)
        · cases h
      · cases h

/-! targets -/
def namesC (f : Expr → Option Tn) : List Expr → Option (List U → Sg → Option Sg)
  | [] => some nsNil
  | e :: es => if notStar e = true then match f e, namesC f es with
    | some g, some gs => some (nsCons g gs)
    | _, _ => none
    else none
def compN : Nat → Ctx → List Nat → Expr → Option Tn
  | 0, _, _, _ => none
  | n + 1, c, vs, e => match e with
    | .Name x _ => match slotL c x with
      | some i => if i ∈ vs then some (nNm i) else none
      | none => none
    | .Tuple es _ _ => match namesC (compN n c vs) es with
      | some gs => some (nTp es.length gs)
      | none => none
    | _ => none
theorem assign_cons {a : Expr} {es : List Expr} (h : notStar a = true) (env : Env) : assignEach (a :: es) env = (false, assign a env) :: assignEach es env := by
  cases a <;> first | exact absurd h Bool.false_ne_true | rfl
theorem assign_all {es : List Expr} (h : es.all notStar = true) (env : Env) : (assignEach es env).length = es.length ∧ (assignEach es env).findIdx? (·.1) = none := by
  induction es with
  | nil => exact ⟨rfl, rfl⟩
  | cons a es ih =>
    simp only [List.all_cons, Bool.and_eq_true] at h
    rw [assign_cons h.1]
    obtain ⟨h1, h2⟩ := ih h.2
    refine ⟨by simp [h1], ?_⟩
    simp [List.findIdx?_cons, h2]
theorem namesC_ok {W : Wd} {X : Cx} {vs : List Nat} {f : Expr → Option Tn} (hf : ∀ e g, f e = some g → SN W X e g vs) : ∀ {es : List Expr} {g : List U → Sg → Option Sg}, namesC f es = some g → SNs W X es g vs ∧ es.all notStar = true
  | [], g, h => by cases h; exact ⟨sns_nil, rfl⟩
  | e :: es, g, h => by
    unfold namesC at h
    split at h
    · rename_i hs
      split at h
      · rename_i f1 g1 h1 h2
        cases h
        obtain ⟨a, b⟩ := namesC_ok hf h2
        exact ⟨sns_cons (hf _ _ h1) a (by rw [assign_cons hs]; rfl), by simp [hs, b]⟩
      · cases h
    · cases h
theorem compN_ok {k : Nat} {W : Wd} : ∀ (n : Nat) {c : Ctx} {X : Cx} (o : XOk c W k X) {vs : List Nat} {e : Expr} {g : Tn}, compN n c vs e = some g → SN W X e g vs
  | 0, _, _, _, _, _, _, h => by cases h
  | n + 1, c, X, o, vs, e, g, h => by
    unfold compN at h
    split at h
    · split at h
      · rename_i x p i hi
        split at h
        · rename_i hv
          cases h
          obtain ⟨h1, h2, h3⟩ := slotL_ok o hi
          exact sn_name o.nd h1 h2 h3 hv
        · cases h
      · cases h
    · split at h
      · rename_i gs hg
        cases h
        obtain ⟨a, b⟩ := namesC_ok (fun e g => compN_ok n o) hg
        obtain ⟨h1, h2⟩ := assign_all b X.env
        exact sn_tup o.hK o.calm a h1 h2
      · cases h
    · cases h

/-! what is walked -/
def isT : Expr → Bool
  | .Tuple .. => true
  | _ => false
noncomputable def compI (cE : CE) (c : Ctx) (tg : Expr) (e : Expr) : Option Si := match e with
  | .Call (.Name f p) [a] [] pos => if f = "range" then match c.G.lookup f, isGl c f, argsC cE c [a] with
      | some .bt, true, some g => some (iRg1 g)
      | _, _, _ => none
    else if f = "enumerate" then match c.G.lookup f, isGl c f, isT tg, notStar a, cE c a with
      | some .bt, true, true, true, some g => some (iEn g)
      | _, _, _, _, _ => none
    else match cE c (.Call (.Name f p) [a] [] pos) with
      | some g => some (iSeq g)
      | none => none
  | .Call (.Name f p) [a, b] [] pos => if f = "range" then match c.G.lookup f, isGl c f, argsC cE c [a, b] with
      | some .bt, true, some g => some (iRg2 g)
      | _, _, _ => none
    else if f = "zip" then match c.G.lookup f, isGl c f, isT tg, argsC cE c [a, b] with
      | some .bt, true, true, some g => some (iZp g)
      | _, _, _, _ => none
    else match cE c (.Call (.Name f p) [a, b] [] pos) with
      | some g => some (iSeq g)
      | none => none
  | e => match cE c e with
    | some g => some (iSeq g)
    | none => none
theorem compI_ok {k : Nat} {W : Wd} {cE : CE} (sE : SoundE k W cE) {c : Ctx} {X : Cx} (o : XOk c W k X) {tg e : Expr} {f : Si} (h : compI cE c tg e = some f) : SI W X tg e f := by
  unfold compI at h
  split at h
  · split at h
    · rename_i ef
      subst ef
      split at h
      · rename_i g1 h1 h2 h3
        cases h
        obtain ⟨a, b⟩ := argsC_ok sE o h3
        simp only [List.all_cons, Bool.and_eq_true] at b
        exact si_rg1 (isGl_ok o h2) (o.glob _ _ h1) a (star_cons b.1 _)
      · cases h
    · split at h
      · rename_i ef
        subst ef
        split at h
        · rename_i g1 h1 h2 h3 h4 h5
          cases h
          cases tg with
          | Tuple es kk tp => exact si_en o.hK (isGl_ok o h2) (o.glob _ _ h1) (sE _ _ _ _ o h5) (star_cons h4 _)
          | _ => exact absurd h3 Bool.false_ne_true
        · cases h
      · split at h
        · rename_i g hg
          cases h
          exact si_seq o.hK (sE _ _ _ _ o hg)
        · cases h
  · split at h
    · rename_i ef
      subst ef
      split at h
      · rename_i g1 h1 h2 h3
        cases h
        obtain ⟨a, b⟩ := argsC_ok sE o h3
        simp only [List.all_cons, Bool.and_eq_true] at b
        exact si_rg2 (isGl_ok o h2) (o.glob _ _ h1) a (by rw [star_cons b.1, star_cons b.2.1]; rfl) (star_cons b.2.1 _)
      · cases h
    · split at h
      · rename_i ef
        subst ef
        split at h
        · rename_i g1 h1 h2 h3 h4
          cases h
          obtain ⟨a, b⟩ := argsC_ok sE o h4
          simp only [List.all_cons, Bool.and_eq_true] at b
          cases tg with
          | Tuple es kk tp => exact si_zp o.hK (isGl_ok o h2) (o.glob _ _ h1) a (by rw [star_cons b.1, star_cons b.2.1]; rfl) (star_cons b.2.1 _)
          | _ => exact absurd h3 Bool.false_ne_true
        · cases h
      · split at h
        · rename_i g hg
          cases h
          exact si_seq o.hK (sE _ _ _ _ o hg)
        · cases h
  · split at h
    · rename_i g hg
      cases h
      exact si_seq o.hK (sE _ _ _ _ o hg)
    · cases h

/-! and, or -/
noncomputable def boolE (cE : CE) (c : Ctx) (op : BoolOp) : List Expr → Option Ev
  | [] => none
  | [a] => cE c a
  | a :: r => match cE c a, boolE cE c op r with
    | some f, some g => some (match op with | .And => eAnd f g | .Or => eOr f g)
    | _, _ => none
theorem boolE_ok {k : Nat} {W : Wd} {cE : CE} (sE : SoundE k W cE) {c : Ctx} {X : Cx} (o : XOk c W k X) {op : BoolOp} {pos : Pos} : ∀ {es : List Expr} {f : Ev}, boolE cE c op es = some f → SE W X (.BoolOp op es pos) f
  | [], f, h => by cases h
  | [a], f, h => se_one (sE _ _ _ _ o h)
  | a :: b :: r, f, h => by
    unfold boolE at h
    split at h
    · rename_i f1 g1 h1 h2
      cases h
      have ih := boolE_ok (pos := pos) sE o h2
      cases op with
      | And => exact se_and o.hK (sE _ _ _ _ o h1) ih
      | Or => exact se_or o.hK (sE _ _ _ _ o h1) ih
    · cases h
noncomputable def boolB (cB : CB) (c : Ctx) (op : BoolOp) : List Expr → Option Eb
  | [] => none
  | [a] => cB c a
  | a :: r => match cB c a, boolB cB c op r with
    | some f, some g => some (match op with | .And => bAnd f g | .Or => bOr f g)
    | _, _ => none
theorem boolB_ok {k : Nat} {W : Wd} {cB : CB} (sB : SoundB k W cB) {c : Ctx} {X : Cx} (o : XOk c W k X) {op : BoolOp} {pos : Pos} : ∀ {es : List Expr} {f : Eb}, boolB cB c op es = some f → SW W X (.BoolOp op es pos) f
  | [], f, h => by cases h
  | [a], f, h => by cases op with | And => exact sw_and1 (sB _ _ _ _ o h) | Or => exact sw_or1 (sB _ _ _ _ o h)
  | a :: b :: r, f, h => by
    unfold boolB at h
    split at h
    · rename_i f1 g1 h1 h2
      cases h
      have ih := boolB_ok (pos := pos) sB o h2
      cases op with
      | And => exact sw_and (sB _ _ _ _ o h1) ih
      | Or => exact sw_or (sB _ _ _ _ o h1) ih
    · cases h

/-! calls -/
def btyp : List (Str × String) := [("int", "int"), ("bool", "bool"), ("str", "str"), ("tuple", "tuple"), ("list", "list"), ("dict", "dict")]
def findT (T : Str) : Option String := (btyp.find? fun t => t.1 == T).map (·.2)
noncomputable def callC (cE : CE) (c : Ctx) (f : Str) (es : List Expr) : Option Ev := if isGl c f = true ∧ (f == ("__debug__" : Str)) = false then match c.G.lookup f with
  | some .bt => if f = "isinstance" then match es with
      | [a, .Name T _] => match c.G.lookup T, isGl c T, notStar a, cE c a, findT T with
        | some .bt, true, true, some g, some tn => some (e1 (isiU tn) g)
        | _, _, _, _, _ => none
      | _ => none
    else match findB f, es, argsC cE c es with
      | some b, _ :: _, some g => some (eC b.g g)
      | _, _, _ => none
  | some (.fn r n ds) => match es, argsC cE c es with
    | _ :: _, some g => if es.length = n then some (eC r g) else if es.length ≤ n ∧ n ≤ es.length + ds.length then some (eC (fun us h => r (us ++ ds.drop (ds.length - (n - es.length))) h) g) else none
    | _, _ => none
  | _ => none
  else none
/-- list(range(..)), tuple(range(..)) -/
noncomputable def rgC (cE : CE) (c : Ctx) (f : Str) : List Expr → Option Ev
  | [.Call (.Name g _) as [] _] => if (isGl c f = true ∧ isGl c g = true) ∧ g = "range" then match c.G.lookup f, c.G.lookup g with
    | some .bt, some .bt => match as with
      | [a] => match notStar a, cE c a with
        | true, some x => if f = "list" then some (e1 (vRg1 false) x) else if f = "tuple" then some (e1 (vRg1 true) x) else none
        | _, _ => none
      | [a, b] => match notStar a, notStar b, cE c a, cE c b with
        | true, true, some x, some y => if f = "list" then some (e2 (vRg2 false) x y) else if f = "tuple" then some (e2 (vRg2 true) x y) else none
        | _, _, _, _ => none
      | _ => none
    | _, _ => none
    else none
  | _ => none
noncomputable def callR (cE : CE) (c : Ctx) (f : Str) (es : List Expr) : Option Ev := match rgC cE c f es with
  | some v => some v
  | none => callC cE c f es
theorem findT_ok {T : Str} {tn : String} (h : findT T = some tn) : bootBuiltins T = some (.type tn) ∧ T ≠ "__name__" ∧ (T == ("__debug__" : Str)) = false := by
  unfold findT at h
  obtain ⟨t, h1, h2⟩ := Option.map_eq_some_iff.mp h
  have hm := List.mem_of_find?_eq_some h1
  have he : t.1 = T := by simpa using List.find?_some h1
  subst he
  subst h2
  simp only [btyp, List.mem_cons, List.not_mem_nil, or_false] at hm
  rcases hm with rfl | rfl | rfl | rfl | rfl | rfl
  · exact ⟨PyProof.Rows.boot_int, by decide, by decide⟩
  · exact ⟨PyProof.Rows.boot_bool, by decide, by decide⟩
  · exact ⟨PyProof.Rows.boot_str, by decide, by decide⟩
  · exact ⟨PyProof.Rows.boot_tuple, by decide, by decide⟩
  · exact ⟨PyProof.Rows.boot_list, by decide, by decide⟩
  · exact ⟨PyProof.Rows.boot_dict, by decide, by decide⟩
theorem SE.congr {W : Wd} {X : Cx} {e : Expr} {f g : Ev} (h : SE W X e f) (q : f = g) : SE W X e g := q ▸ h
theorem callC_ok {k : Nat} {W : Wd} {cE : CE} (sE : SoundE k W cE) {c : Ctx} {X : Cx} (o : XOk c W k X) {f : Str} {es : List Expr} {v : Ev} {p pos : Pos} (h : callC cE c f es = some v) : SE W X (.Call (.Name f p) es [] pos) v := by
  unfold callC at h
  split at h
  · rename_i hg
    obtain ⟨hg, hdb⟩ := hg
    split at h
    · rename_i hbt
      split at h
      · rename_i ef
        subst ef
        split at h
        · split at h
          · rename_i a T pt g tn h1 h2 h3 h4 h5
            cases h
            obtain ⟨b1, b2, b3⟩ := findT_ok h5
            exact se_isi o.hK (sE _ _ _ _ o h4) (isGl_ok o hg) (o.glob _ _ hbt) (isGl_ok o h2) (o.glob _ _ h1) b1 b2 b3 (star_cons h3 _)
          · cases h
        · cases h
      · split at h
        · rename_i b e es g h1 h2
          cases h
          obtain ⟨a, q⟩ := argsC_ok sE o h2
          exact se_builtin o.hK o.calm o.room.units h1 (isGl_ok o hg) (o.glob _ _ hbt) a q
        · cases h
    · rename_i r n ds hfn
      split at h
      · rename_i e es' g h1
        obtain ⟨a, q⟩ := argsC_ok sE o h1
        split at h
        · rename_i hl
          cases h
          refine (se_def (j := ds.length) o.hK o.room (o.glob _ _ hfn) (Nat.le_refl _) (isGl_ok o hg) hdb a q).congr ?_
          rw [List.drop_length]
          simp
        · split at h
          · cases h
            exact se_def o.hK o.room (o.glob _ _ hfn) (Nat.sub_le _ _) (isGl_ok o hg) hdb a q
          · cases h
      · cases h
    · cases h
  · cases h
theorem rgC_ok {k : Nat} {W : Wd} {cE : CE} (sE : SoundE k W cE) {c : Ctx} {X : Cx} (o : XOk c W k X) {f : Str} {es : List Expr} {v : Ev} {p pos : Pos} (h : rgC cE c f es = some v) : SE W X (.Call (.Name f p) es [] pos) v := by
  unfold rgC at h
  split at h
  · split at h
    · rename_i hg
      obtain ⟨⟨g1, g2⟩, rfl⟩ := hg
      split at h
      · rename_i b1 b2
        have m1 := o.glob _ _ b1
        have m2 := o.glob _ _ b2
        split at h
        · split at h
          · rename_i n1 e1
            split at h
            · rename_i ef; subst ef; cases h
              exact se_lrg1 o.calm (isGl_ok o g1) m1 (isGl_ok o g2) m2 (sE _ _ _ _ o e1) (star_cons n1 _)
            · split at h
              · rename_i ef; subst ef; cases h
                exact se_trg1 o.calm (isGl_ok o g1) m1 (isGl_ok o g2) m2 (sE _ _ _ _ o e1) (star_cons n1 _)
              · cases h
          · cases h
        · split at h
          · rename_i n1 n2 e1 e2
            split at h
            · rename_i ef; subst ef; cases h
              exact se_lrg2 o.calm (isGl_ok o g1) m1 (isGl_ok o g2) m2 (sE _ _ _ _ o e1) (sE _ _ _ _ o e2) (by rw [star_cons n1, star_cons n2]; rfl) (star_cons n2 _)
            · split at h
              · rename_i ef; subst ef; cases h
                exact se_trg2 o.calm (isGl_ok o g1) m1 (isGl_ok o g2) m2 (sE _ _ _ _ o e1) (sE _ _ _ _ o e2) (by rw [star_cons n1, star_cons n2]; rfl) (star_cons n2 _)
              · cases h
          · cases h
        · cases h
      · cases h
    · cases h
  · cases h
theorem callR_ok {k : Nat} {W : Wd} {cE : CE} (sE : SoundE k W cE) {c : Ctx} {X : Cx} (o : XOk c W k X) {f : Str} {es : List Expr} {v : Ev} {p pos : Pos} (h : callR cE c f es = some v) : SE W X (.Call (.Name f p) es [] pos) v := by
  unfold callR at h
  split at h
  · rename_i e
    cases h
    exact rgC_ok sE o e
  · exact callC_ok sE o h
noncomputable def methC (cE : CE) (c : Ctx) (ob : Expr) (m : Str) (ap cp : Pos) (es : List Expr) : Option Ev := if noSuper ob = true ∧ (ap.endLine == cp.line) = true ∧ es.length < 29 then match findM m, cE c ob, argsC cE c es with
  | some b, some f, some g => some (eM b.g f g)
  | _, _, _ => none
  else none
theorem methC_ok {k : Nat} {W : Wd} {cE : CE} (sE : SoundE k W cE) {c : Ctx} {X : Cx} (o : XOk c W k X) {ob : Expr} {m : Str} {ap cp : Pos} {es : List Expr} {v : Ev} (h : methC cE c ob m ap cp es = some v) : SE W X (.Call (.Attribute ob m ap) es [] cp) v := by
  unfold methC at h
  split at h
  · rename_i hc
    obtain ⟨c1, c2, c3⟩ := hc
    split at h
    · rename_i b f g h1 h2 h3
      cases h
      obtain ⟨mem, rfl⟩ := findM_ok h1
      obtain ⟨s1, s2, r, s3, s4⟩ := mtab_ok (W := W) (X := X) b mem
      cases es with
      | nil =>
        cases h3
        exact se_m0 o.hK PySem.F.plainAttrs_list s1 s2 s3 s4 (sE _ _ _ _ o h2) c1 c2
      | cons e es =>
        obtain ⟨a, q⟩ := argsC_ok sE o h3
        have q2 := q
        simp only [List.all_cons, Bool.and_eq_true] at q2
        exact se_m o.hK PySem.F.plainAttrs_list s1 s2 s3 s4 (sE _ _ _ _ o h2) a c1 (star_few q c3 _ _) c2 (star_cons q2.1 _) (star_any q2.2 _ _)
    · cases h
  · cases h

/-! comprehensions -/
def ownOf (N : List Str) (scope : Scope) : List (Str × Nat) := scope.names.filterMap fun y => match y.2 with
  | .local => (ixOf N y.1).map fun i => (y.1, i)
  | .cell => (ixOf N y.1).map fun i => (y.1, i)
  | _ => none
def wrOf (scope : Scope) : List Str := (scope.names.filter fun y => y.2 == .local || y.2 == .cell).map (·.1)
def blkCtx (c : Ctx) (scope : Scope) : Ctx := { c with sc := relS scope c.sc, wr := wrOf scope }
theorem blk_ok {k : Nat} {W : Wd} {c : Ctx} {X : Cx} (o : XOk c W k X) {scope : Scope} {own : List (Str × Nat)} (b : BlkOk X.N X.env.scope scope own) (s : Shared) (H : Hp) (C : Addr) (cl : List (Str × Addr)) (fp : List Addr) :
    XOk (blkCtx c scope) W k (BX X scope s H C cl fp) where
  hN := o.hN
  sc := by show relS scope X.env.scope = relS scope c.sc; rw [o.sc]
  hK := o.hK
  calm := o.calm
  nd := o.nd
  fnc := fun x hx _ => by
    obtain ⟨y, hy, rfl⟩ := List.mem_map.mp (show x ∈ wrOf scope from hx)
    obtain ⟨hy, hk⟩ := List.mem_filter.mp hy
    have hl := b.uniq y hy
    simp only [Bool.or_eq_true, beq_iff_eq] at hk
    rcases hk with hk | hk
    · exact .inr (PySem.lookup_relabel_local (env := X.env) (by rw [hl, hk]))
    · left
      show (scope.names.lookup y.1 == some .cell) = true
      rw [hl, hk]; rfl
  room := o.room
  glob := o.glob
  hsub := o.hsub
  hn := o.hn
  hats := o.hats
structure LC where
  fi : Si
  g : Tn
  own : List Nat
  tt : Eb
  fe : Ev
noncomputable def lcC (cE : CE) (cB : CB) (c : Ctx) (elt tg iter : Expr) (ifs : List Expr) (scope : Scope) : Option LC :=
  if blkC c.N c.sc scope (ownOf c.N scope) = true ∧ notSet iter = true then
    match compI cE c tg iter, compN 9 (blkCtx c scope) ((ownOf c.N scope).map (·.2)) tg, (match ifs with | [] => some bYes | [t] => cB (blkCtx c scope) t | _ => none), cE (blkCtx c scope) elt with
    | some fi, some g, some tt, some fe => some ⟨fi, g, (ownOf c.N scope).map (·.2), tt, fe⟩
    | _, _, _, _ => none
  else none
theorem lcC_ok {k : Nat} {W : Wd} {cE : CE} {cB : CB} (sE : SoundE k W cE) (sB : SoundB k W cB) {c : Ctx} {X : Cx} (o : XOk c W k X) {elt tg iter : Expr} {ifs : List Expr} {scope : Scope} {l : LC} (h : lcC cE cB c elt tg iter ifs scope = some l) :
    ∃ own : List (Str × Nat), l.own = own.map (·.2) ∧ SI W X tg iter l.fi ∧ BlkOk X.N X.env.scope scope own ∧ (∀ s H C cl fp, SN W (BX X scope s H C cl fp) tg l.g (own.map (·.2))) ∧ (∀ s H C cl fp, STs W (BX X scope s H C cl fp) ifs l.tt) ∧
      (∀ s H C cl fp, SE W (BX X scope s H C cl fp) elt l.fe) ∧ ∀ x, foldedSetIterable iter X.env x = pure x := by
  unfold lcC at h
  split at h
  · rename_i hb
    obtain ⟨hb, hns⟩ := hb
    split at h
    · rename_i fi g tt fe h1 h2 h3 h4
      cases h
      have ok : BlkOk X.N X.env.scope scope (ownOf c.N scope) := by rw [o.hN, o.sc]; exact blkOk_by hb
      refine ⟨_, rfl, compI_ok sE o h1, ok, fun s H C cl fp => compN_ok 9 (blk_ok o ok s H C cl fp) h2, fun s H C cl fp => ?_, fun s H C cl fp => sE _ _ _ _ (blk_ok o ok s H C cl fp) h4, folded_no hns _⟩
      match ifs, h3 with
      | [], h3 => cases h3; exact sts_nil
      | [t], h3 => exact sts_one (sB _ _ _ _ (blk_ok o ok s H C cl fp) h3)
      | _ :: _ :: _, h3 => cases h3
    · cases h
  · cases h
noncomputable abbrev LC.ev (l : LC) : Ev := eLc l.fi l.g l.own l.tt l.fe

/-! expressions -/
noncomputable def partC (cE : CE) (c : Ctx) : Option Expr → Option Eo
  | none => some oNo
  | some e => match cE c e with | some f => some (oSo f) | none => none
theorem partC_ok {k : Nat} {W : Wd} {cE : CE} (sE : SoundE k W cE) {c : Ctx} {X : Cx} (o : XOk c W k X) {e : Option Expr} {f : Eo} (h : partC cE c e = some f) : SO W X e f := by
  cases e with
  | none => cases h; exact so_none
  | some e =>
    unfold partC at h
    simp only [] at h
    split at h
    · rename_i g hg
      cases h
      exact so_some (sE _ _ _ _ o hg)
    · cases h
noncomputable def subC (cE : CE) (c : Ctx) (a i : Expr) : Option Ev := match i with
  | .Slice lo hi none _ => match cE c a, partC cE c lo, partC cE c hi with
    | some f, some l, some u => some (eSl f l u)
    | _, _, _ => none
  | .Slice none none (some (.UnaryOp .USub (.Constant (.int 1) _ _) _)) _ => match cE c a with
    | some f => some (e1 vRev f)
    | none => none
  | i => if notSlice i = true then match cE c a, cE c i with
    | some f, some g => some (e2 vIx f g)
    | _, _ => none
    else none
theorem subC_ok {k : Nat} {W : Wd} {cE : CE} (sE : SoundE k W cE) {c : Ctx} {X : Cx} (o : XOk c W k X) {a i : Expr} {v : Ev} {pos : Pos} (h : subC cE c a i = some v) : SE W X (.Subscript a i pos) v := by
  unfold subC at h
  split at h
  · split at h
    · rename_i f l u h1 h2 h3
      cases h
      exact se_sl o.hK (sE _ _ _ _ o h1) (partC_ok sE o h2) (partC_ok sE o h3)
    · cases h
  · split at h
    · rename_i f h1
      cases h
      exact se_rev o.hK (sE _ _ _ _ o h1)
    · cases h
  · split at h
    · rename_i hn
      split at h
      · rename_i f g h1 h2
        cases h
        refine se_ix (r := rIx X.K) ?_ (by rw [o.hK]; exact o_ix) (sE _ _ _ _ o h1) (sE _ _ _ _ o h2) (plain_ix hn)
        exact ix_seq
      · cases h
    · cases h
noncomputable def cmpE (cE : CE) (c : Ctx) (a : Expr) (ops : List CmpOp) (bs : List Expr) : Option Ev := match ops, bs with
  | [op], [b] => if behindInMarks op b = false then match cmpG op, cE c a, cE c b with
    | some g, some f, some f' => some (e2 g f f')
    | _, _, _ => none
    else none
  | [op, op'], [b, d] => if op' == .In || op' == .NotIn then none else match cmpG op, cmpG op', cE c a, cE c b, cE c d with
    | some g, some g', some f, some f', some f'' => some (eChain g g' f f' f'')
    | _, _, _, _, _ => none
  | _, _ => none
theorem last_marks {op op' : CmpOp} {b d : Expr} (h1 : op' ≠ .In) (h2 : op' ≠ .NotIn) : lastMarks [op, op'] [b, d] = false := by
  show behindInMarks op' d = false
  exact nomark d h1 h2
theorem cmpE_ok {k : Nat} {W : Wd} {cE : CE} (sE : SoundE k W cE) {c : Ctx} {X : Cx} (o : XOk c W k X) {a : Expr} {ops : List CmpOp} {bs : List Expr} {v : Ev} {pos : Pos} (h : cmpE cE c a ops bs = some v) : SE W X (.Compare a ops bs pos) v ∧ SB W X (.Compare a ops bs pos) (asB v) := by
  unfold cmpE at h
  split at h
  · split at h
    · rename_i hm
      split at h
      · rename_i g f f' h1 h2 h3
        cases h
        obtain ⟨r, r1, r2⟩ := cmpG_ok o.hK o.room.units h1
        exact ⟨se_cmp r1 r2 (sE _ _ _ _ o h2) (sE _ _ _ _ o h3) hm, sb_cmp r1 r2 (sE _ _ _ _ o h2) (sE _ _ _ _ o h3) hm⟩
      · cases h
    · cases h
  · split at h
    · cases h
    rename_i op op' b d hm
    split at h
    · rename_i g g' f f' f'' h1 h2 h3 h4 h5
      cases h
      obtain ⟨r, r1, r2⟩ := cmpG_ok o.hK o.room.units h1
      obtain ⟨r', r1', r2'⟩ := cmpG_ok o.hK o.room.units h2
      have r3' : op' ≠ CmpOp.In := fun z => hm (by subst z; rfl)
      have r4' : op' ≠ CmpOp.NotIn := fun z => hm (by subst z; rfl)
      exact ⟨se_chain r1 r1' r2 r2' (sE _ _ _ _ o h3) (sE _ _ _ _ o h4) (sE _ _ _ _ o h5) (last_marks r3' r4'), sb_chain r1 r1' r2 r2' (sE _ _ _ _ o h3) (sE _ _ _ _ o h4) (sE _ _ _ _ o h5) (last_marks r3' r4')⟩
    · cases h
  · cases h
theorem se_con {k : Nat} {W : Wd} {c : Ctx} {X : Cx} (o : XOk c W k X) {x : Str} {u : U} {pos : Pos} (hg : isGl c x = true) (hdb : (x == ("__debug__" : Str)) = false) (h : c.G.lookup x = some (.con u)) : SE W X (.Name x pos) (eCon u) := by
  obtain ⟨v, z, h1, h2, h3⟩ := o.glob _ _ h
  exact ⟨fun w tk σ h m τ H Q rl rs p => ⟨_, pe_glob (isGl_ok o hg) h1 h2 hdb, p.ok rl (h3 m H)⟩⟩
noncomputable def nameC (c : Ctx) (x : Str) : Option Ev := if (x == ("__debug__" : Str)) = false ∧ (x == ("__classdict__" : Str)) = false then match slotV c x with
  | some i => some (eVar i)
  | none => match isGl c x, c.G.lookup x with
    | true, some (.con u) => some (eCon u)
    | _, _ => none
  else none
theorem nameC_ok {k : Nat} {W : Wd} {c : Ctx} {X : Cx} (o : XOk c W k X) {x : Str} {v : Ev} {pos : Pos} (h : nameC c x = some v) : SE W X (.Name x pos) v := by
  unfold nameC at h
  split at h
  · rename_i hd
    split at h
    · rename_i i hi
      cases h
      obtain ⟨h1, h2⟩ := slotV_ok o hi
      exact se_var h1 h2 hd.1 hd.2
    · split at h
      · rename_i u h1 h2
        cases h
        exact se_con o h1 hd.1 h2
      · cases h
  · cases h
mutual
noncomputable def compE : Nat → Ctx → Expr → Option Ev
  | 0, _, _ => none
  | n + 1, c, e => match e with
    | .Name x _ => nameC c x
    | .Constant (.int i) _ _ => some (eCon (.int i))
    | .Constant (.bool i) _ _ => some (eCon (.bl i))
    | .Constant .none _ _ => some (eCon .non)
    | .Constant (.str i) _ _ => some (eCon (.str i))
    | .BinOp a op b _ => match binG op, compE n c a, compE n c b with
      | some g, some f, some f' => some (e2 g f f')
      | _, _, _ => none
    | .UnaryOp .USub a _ => match compE n c a with | some f => some (e1 vNeg f) | none => none
    | .UnaryOp .Not a _ => match compE n c a with | some f => some (eNot f) | none => none
    | .BoolOp op es _ => boolE (compE n) c op es
    | .Compare a ops bs _ => cmpE (compE n) c a ops bs
    | .IfExp t a b _ => match compB n c t, compE n c a, compE n c b with
      | some f, some g, some g' => some (eIf f g g')
      | _, _, _ => none
    | .Tuple es _ _ => match itemsC (compE n) c es with | some f => some (eTup f) | none => none
    | .List es _ => match itemsC (compE n) c es with | some f => some (eLst f) | none => none
    | .Subscript a i _ => subC (compE n) c a i
    | .Call (.Name f _) es [] _ => callR (compE n) c f es
    | .Call (.Attribute ob m ap) es [] cp => methC (compE n) c ob m ap cp es
    | .ListComp elt [⟨tg, iter, ifs, 0⟩] scope _ => match lcC (compE n) (compB n) c elt tg iter ifs scope with | some l => some l.ev | none => none
    | _ => none
noncomputable def compB : Nat → Ctx → Expr → Option Eb
  | 0, _, _ => none
  | n + 1, c, e => match e with
    | .UnaryOp .Not a _ => match compB n c a with | some f => some (bNot f) | none => none
    | .BoolOp op es _ => boolB (compB n) c op es
    | .Compare a ops bs _ => match cmpE (compE n) c a ops bs with | some f => some (asB f) | none => none
    | e => if plainTest e = true then match compE n c e with | some f => some (bTru f) | none => none else none
end
theorem comp_ok {k : Nat} {W : Wd} : ∀ n, SoundE k W (compE n) ∧ SoundB k W (compB n)
  | 0 => by
    refine ⟨fun c X e v o h => ?_, fun c X e v o h => ?_⟩
    · unfold compE at h; cases h
    · unfold compB at h; cases h
  | n + 1 => by
    obtain ⟨sE, sB⟩ := comp_ok (k := k) (W := W) n
    refine ⟨fun c X e v o h => ?_, fun c X e v o h => ?_⟩
    · unfold compE at h
      split at h
      · exact nameC_ok o h
      · cases h; exact se_int
      · cases h; exact se_bl
      · cases h; exact se_non
      · cases h; exact se_str
      · split at h
        · rename_i g f f' h1 h2 h3
          cases h
          exact se_binG o.hK h1 (sE _ _ _ _ o h2) (sE _ _ _ _ o h3)
        · cases h
      · split at h
        · rename_i f h1
          cases h
          exact se_un un_neg o_neg (sE _ _ _ _ o h1)
        · cases h
      · split at h
        · rename_i f h1
          cases h
          exact se_not o.hK (sE _ _ _ _ o h1)
        · cases h
      · exact boolE_ok sE o h
      · exact (cmpE_ok sE o h).1
      · split at h
        · rename_i f g g' h1 h2 h3
          cases h
          exact se_if (sB _ _ _ _ o h1) (sE _ _ _ _ o h2) (sE _ _ _ _ o h3)
        · cases h
      · split at h
        · rename_i f h1
          cases h
          exact se_tup (itemsC_ok sE o h1)
        · cases h
      · split at h
        · rename_i f h1
          cases h
          exact se_lst (itemsC_ok sE o h1)
        · cases h
      · exact subC_ok sE o h
      · exact callR_ok sE o h
      · exact methC_ok sE o h
      · split at h
        · rename_i l h1
          cases h
          obtain ⟨own, e0, h2, h3, h4, h5, h6, h7⟩ := lcC_ok sE sB o h1
          unfold LC.ev
          rw [e0]
          exact se_lc o.calm o.nd h2 h3 h4 h5 h6 h7
        · cases h
      · cases h
    · unfold compB at h
      split at h
      · split at h
        · rename_i f h1
          cases h
          exact sb_not (sB _ _ _ _ o h1)
        · cases h
      · exact (boolB_ok sB o h).sb
      · split at h
        · rename_i f h1
          cases h
          exact (cmpE_ok sE o h1).2
        · cases h
      · split at h
        · rename_i hp
          split at h
          · rename_i f h1
            cases h
            exact sb_tru o.hK (sE _ _ _ _ o h1) (test_plain hp _)
          · cases h
        · cases h
end Lz
namespace Lz
open PySem PySem.Spec PyProof.Rows L2
section
variable {X : Cx}
/-- xs[i] of a list, a tuple, a text, by getItem -/
theorem get_list : PGet X (rIxL X.K) := by
  intro pins s σ H x y v u Q I rx ry h
  obtain ⟨p, xs, i, z, rfl, rfl, hq, he, q⟩ := h
  cases rx
  obtain ⟨t, rfl⟩ := ry
  obtain ⟨its, r, pl, hz⟩ := I.list hq
  obtain ⟨j, h1, h2, h3, h4, h5⟩ := atI_get he
  obtain ⟨w, ew, rw'⟩ := r.get h2
  have hl := r.length
  have hn := line63
  have fin : EP X pins σ Q w s := ⟨z, H, I, rw', q⟩
  by_cases h0 : 0 ≤ i
  · have hj : i.toNat = j := by
      rw [seqIndex_of h0 h5] at h1
      exact Option.some.inj h1
    exact wpAny_getItem_list pl.isList h0 (by omega) (by rw [hj]; simpa using ew) fin
  · have hj : (i + (its.toArray.size : Int)).toNat = j := by
      rw [seqIndex_neg (by omega) h4] at h1
      rw [List.size_toArray, ← hl]
      exact Option.some.inj h1
    exact wpAny_getItem_list_neg pl.isList (by omega) (by rw [List.size_toArray] <;> omega) (by omega) (by rw [hj]; simpa using ew) fin
theorem get_tup : PGet X (rIxT X.K) := by
  intro pins s σ H x y v u Q I rx ry h
  obtain ⟨p, xs, i, z, rfl, rfl, hq, he, q⟩ := h
  cases rx
  obtain ⟨t, rfl⟩ := ry
  obtain ⟨its, r, pl, hz⟩ := I.tuple hq
  obtain ⟨j, h1, h2, h3, h4, h5⟩ := atI_get he
  obtain ⟨w, ew, rw'⟩ := r.get h2
  have hl := r.length
  have hn := line63
  exact getItem_tuple (j := j) pl (by omega) (by omega) (by rw [List.size_toArray, ← hl]; exact h1) (by simpa using ew) ⟨z, H, I, rw', q⟩
theorem get_str : PGet X rIxS := by
  intro pins s σ H x y v u Q I rx ry h
  obtain ⟨z, i, c, rfl, rfl, hz, he, q⟩ := h
  obtain ⟨t, rfl⟩ := rx
  obtain ⟨t', rfl⟩ := ry
  obtain ⟨j, h1, h2, h3, h4, h5⟩ := atI_get he
  have hl : z.cps.toList.length = z.length := by simp [Str.length]
  rw [hl] at h1 h4 h5
  have hn := line63
  exact getItem_str (c := c) (by
    have e1 : decide (i < -(2 ^ 63 : Int)) = false := decide_eq_false (by omega)
    have e2 : decide (i ≥ 2 ^ 63) = false := decide_eq_false (by omega)
    rw [e1, e2, Bool.or_false]) (by rw [h1]; simpa using h2) ⟨.str ⟨#[c]⟩, H, I.tok _, ⟨_, rfl⟩, q⟩
theorem get_seq : PGet X (rIx X.K) := by
  intro pins s σ H x y v u Q I rx ry h
  rcases h with h | h | h
  · exact get_list pins s σ H x y v u Q I rx ry h
  · exact get_tup pins s σ H x y v u Q I rx ry h
  · exact get_str pins s σ H x y v u Q I rx ry h
end
theorem bind_thn {α β : Type} (r : Res α) (k : α → Hb → Res β) (s : Sg) (k2 : β → Hb → SR) : (r.bind k).thn s k2 = r.thn s fun a h => (k a h).thn s k2 := by
  cases r <;> rfl
section
variable {W : Wd} {X : Cx} {a b c o i e : Expr} {fa fb fc fe : Ev} {pos tpos : Pos}
/-- a[i] op= e, both names -/
theorem ss_augI {ia ib : Nat} {op : Operator} {r : R2} {g : G2} (hK : X.K = W.K) (ho : SE W X o (eVar ia)) (hi : SE W X i (eVar ib)) (he : SE W X e fe) (hop : OpR X (inplaceOp op) r) (og : Op2 W r g)
    (ha : ∀ ov iv new, augStore i ov iv new = (do holding [new, ov, iv] (setItem ov iv new); release [new, ov, iv] []; pure .next)) :
    SS W X (.AugAssign (.Subscript o i tpos) op e pos) (sAsg (e2 g (e2 vIx (eVar ia) (eVar ib)) fe) (gIx pIx (eVar ia) (eVar ib))) := by
  refine ⟨fun w tk σ h m τ H D rl rs p => ⟨_, ps_augS (EvT.pe X o) (EvT.pe X i) get_seq (EvT.pe X e) hop set_list ha, ?_⟩⟩
  unfold sAsg at p
  have eo : ∀ h, eVar ia σ h = match σ[ia]? with | some (some u) => .ok u h | _ => .bad := fun _ => rfl
  have ei : ∀ h, eVar ib σ h = match σ[ib]? with | some (some u) => .ok u h | _ => .bad := fun _ => rfl
  cases ea : σ[ia]? with
  | none => simp only [e2, eo, ea, bind_bad, thn_bad] at p; exact p.elim
  | some oa =>
  cases oa with
  | none => simp only [e2, eo, ea, bind_bad, thn_bad] at p; exact p.elim
  | some uo =>
  cases eb : σ[ib]? with
  | none => simp only [e2, eo, ea, bind_ok, e2k, ei, eb, bind_bad, thn_bad] at p; exact p.elim
  | some ob =>
  cases ob with
  | none => simp only [e2, eo, ea, bind_ok, e2k, ei, eb, bind_bad, thn_bad] at p; exact p.elim
  | some ui =>
    have eo' : ∀ h, eVar ia σ h = .ok uo h := fun h => by rw [eo, ea]
    have ei' : ∀ h, eVar ib σ h = .ok ui h := fun h => by rw [ei, eb]
    have p : PostS W ((vIx uo ui h).thn σ fun x h3 => (fe σ h3).thn σ fun y h4 => (g x y h4).thn σ (sAsgk (gIx pIx (eVar ia) (eVar ib)) σ)) m H D w := by
      have e1 : e2 g (e2 vIx (eVar ia) (eVar ib)) fe σ h = (vIx uo ui h).bind (e2k g fe σ) := by
        show ((eVar ia σ h).bind (e2k vIx (eVar ib) σ)).bind (e2k g fe σ) = _
        rw [eo']
        show ((eVar ib σ h).bind (vIx uo)).bind _ = _
        rw [ei']; rfl
      rw [e1, bind_thn] at p
      have e2' : (fun x h => (e2k g fe σ x h).thn σ (sAsgk (gIx pIx (eVar ia) (eVar ib)) σ)) = fun x h3 => (fe σ h3).thn σ fun y h4 => (g x y h4).thn σ (sAsgk (gIx pIx (eVar ia) (eVar ib)) σ) := by
        funext x h3
        unfold e2k
        rw [bind_thn]
      rw [e2'] at p
      exact p
    have ro := ho.run w tk σ h m τ H (fun v H1 => EvT X i τ H1 fun u H2 => rIx X.K v u H2 fun x H3 => EvT X e τ H3 fun y H4 => r x y H4 fun z H5 => rSetL v u z H5 fun H6 => D.nx τ H6) rl rs
    rw [eo'] at ro
    refine ro fun m1 H1 v e1 rl1 rv => ?_
    have ri := hi.run w tk σ h m1 τ H1 (fun u H2 => rIx X.K v u H2 fun x H3 => EvT X e τ H3 fun y H4 => r x y H4 fun z H5 => rSetL v u z H5 fun H6 => D.nx τ H6) rl1 (rs.mono e1)
    rw [ei'] at ri
    refine ri fun m2 H2 u e2 rl2 ru => ?_
    rw [hK]
    refine o_ix uo ui h m2 H2 v u _ (fun c d H' => w c d τ H') rl2 (RV.mono e2 uo rv) ru (PostS.ahead (rs.mono (e1.trans e2)) (PostS.later p (e1.trans e2)) fun x h3 m3 H3 xv _ e3 rl3 rx p3 => ?_)
    refine he.run w tk σ h3 m3 τ H3 _ rl3 (rs.mono (e1.trans (e2.trans e3))) (PostS.ahead (rs.mono (e1.trans (e2.trans e3))) p3 fun y h4 m4 H4 yv _ e4 rl4 ry p4 => ?_)
    refine og x y h4 m4 H4 xv yv _ (fun c d H' => w c d τ H') rl4 (RV.mono e4 x rx) ry (PostS.ahead (rs.mono (e1.trans (e2.trans (e3.trans e4)))) p4 fun z h5 m5 H5 zv _ e5 rl5 rz p5 => ?_)
    have e15 := e1.trans (e2.trans (e3.trans (e4.trans e5)))
    have e25 := e2.trans (e3.trans (e4.trans e5))
    have e35 := e3.trans (e4.trans e5)
    have p5 : PostS W (gIx pIx (eVar ia) (eVar ib) z σ h5) m5 H5 D w := p5
    have eg : gIx pIx (eVar ia) (eVar ib) z σ h5 = match pIx uo ui z h5 with | some h3 => .nx σ h3 | none => .bad := by
      unfold gIx
      rw [eo']
      show (eVar ib σ h5).thn σ (gI2 pIx z σ uo) = _
      rw [ei']; rfl
    rw [eg] at p5
    cases q : pIx uo ui z h5 with
    | none => rw [q] at p5; exact p5.elim
    | some h6 =>
      rw [q] at p5
      exact o_pix uo ui z h5 h6 m5 H5 v u zv _ q rl5 (RV.mono e25 uo rv) (RV.mono e35 ui ru) rz fun m' H' e' rl' => p5 m' H' τ e' rl' (rs.mono (e15.trans e'))
end
end Lz
namespace Lz
open PySem PySem.Spec PyProof.Rows L2
open Classical

/-! ### statements -/
abbrev CS := Ctx → Stmt → Option Sv
def SoundS (k : Nat) (W : Wd) (f : CS) : Prop := ∀ c X st v, XOk c W k X → PassesOwn (model X.prog X.w) X.A X.env X.xe → X.stack = X.env :: X.outer → X.env.frame = some X.env.locals → f c st = some v → SS W X st v
noncomputable def blockC (f : Stmt → Option Sv) : List Stmt → Option Sv
  | [] => some sNil
  | [s] => f s
  | s :: r => match f s, blockC f r with
    | some a, some b => some (sSeq a b)
    | _, _ => none
theorem blockC_ok {W : Wd} {X : Cx} {f : Stmt → Option Sv} (hf : ∀ s v, f s = some v → SS W X s v) : ∀ {l : List Stmt} {v : Sv}, blockC f l = some v → SL W X l v
  | [], v, h => by cases h; exact sl_nil
  | [s], v, h => sl_one (hf _ _ h)
  | s :: s2 :: r, v, h => by
    unfold blockC at h
    split at h
    · rename_i a b h1 h2
      cases h
      exact sl_cons (hf _ _ h1) (blockC_ok hf h2)
    · cases h
/-- an assigned comprehension: the name is a plain local on the same line (then the model stores it within the comprehension) -/
def swapT (c : Ctx) (y : Str) (py : Pos) (scope : Scope) (pos : Pos) : Bool :=
  c.sc.kind == .function && c.sc.names.lookup y == some .local && py.line == pos.line && !(scope.names.any fun (n, k) => n == y && (k == .local || k == .cell))
/-- or it is no plain local -/
def swapF (c : Ctx) (y : Str) : Bool := !(c.sc.names.lookup y == some .local)
theorem swap_f {c : Ctx} {k : Nat} {W : Wd} {X : Cx} (o : XOk c W k X) {elt : Expr} {gs : List Comprehension} {scope : Scope} {pos py : Pos} {y : Str} {l : Nat} (h : swapF c y = true) : swapsWith (.ListComp elt gs scope pos) (some (.Name y py)) l X.env = pure false := by
  have e : (X.env.kindOf y == some .local) = false := by
    show (X.env.scope.names.lookup y == some .local) = false
    rw [o.sc]
    unfold swapF at h
    cases q : (c.sc.names.lookup y == some .local) with
    | false => rfl
    | true => rw [q] at h; cases h
  unfold swapsWith
  simp only [e, Bool.and_false, Bool.false_and]
theorem swaps_sub {e a i : Expr} {p : Pos} (l : Nat) (env : Env) : swapsWith e (some (.Subscript a i p)) l env = pure false := by
  cases e <;> rfl
theorem swaps_subS {e a i : Expr} {p : Pos} (l : Nat) (env : Env) : swapsWithSole [.Subscript a i p] e l env = pure false := swaps_sub (a := a) (i := i) (p := p) l env
noncomputable def iopG : Operator → Option G2
  | .Add => some (vCmpI (fun i j => i + j)) | .Sub => some (vCmpI (fun i j => i - j))
  | _ => none
where vCmpI (f : Int → Int → Int) : G2 := fun x y h => match x, y with
  | .int i, .int j => .ok (.int (f i j)) h
  | _, _ => .bad
@[simp] theorem vCmpI_int (f : Int → Int → Int) (i j : Int) (h : Hb) : iopG.vCmpI f (.int i) (.int j) h = .ok (.int (f i j)) h := rfl
theorem o_iop {W : Wd} {f : Int → Int → Int} : Op2 W (rI0 fun i j => .int (f i j)) (iopG.vCmpI f) := by
  intro x y h m H v u Q E rl rx ry p
  cases x with
  | int i =>
    cases y with
    | int j => exact ⟨i, j, rx.int_inv, ry.int_inv, p.ok rl (.mk_int _)⟩
    | _ => exact p.elim
  | _ => exact p.elim
theorem iopG_ok {W : Wd} {X : Cx} {op : Operator} {g : G2} (h : iopG op = some g) : ∃ r, OpR X (inplaceOp op) r ∧ Op2 W r g := by
  cases op with
  | Add => cases h; exact ⟨_, iop_add, o_iop⟩
  | Sub => cases h; exact ⟨_, iop_sub, o_iop⟩
  | _ => cases h
/-- a, b = x, y: stored from the right -/
def parT (c : Ctx) (x y : Str) (px py : Pos) (a b : Expr) : Bool :=
  c.sc.kind == .function && c.sc.names.lookup x == some .local && c.sc.names.lookup y == some .local && px.line == py.line && !(x == y) && notStar a && notStar b && !([a, b].all (foldedForSure 8)) && !([a, b].all (constantsAlone 8))
theorem par_t {c : Ctx} {k : Nat} {W : Wd} {X : Cx} (o : XOk c W k X) {x y : Str} {px py pt pt2 : Pos} {kt k2 : Nat} {a b : Expr} (h : parT c x y px py a b = true) :
    swappedStores [.Tuple [.Name x px, .Name y py] kt pt] (.Tuple [a, b] k2 pt2) X.env = pure (some [x, y]) ∧ X.env.scope.names.lookup x = some .local ∧ X.env.scope.names.lookup y = some .local ∧ x ≠ y ∧ notStar a = true ∧ notStar b = true := by
  unfold parT at h
  simp only [Bool.and_eq_true, beq_iff_eq, Bool.not_eq_true'] at h
  obtain ⟨⟨⟨⟨⟨⟨⟨⟨h1, h2⟩, h3⟩, h4⟩, h5⟩, h6⟩, h7⟩, h8⟩, h9⟩ := h
  have kx : X.env.kindOf x = some .local := by show X.env.scope.names.lookup x = _; rw [o.sc]; exact h2
  have ky : X.env.kindOf y = some .local := by show X.env.scope.names.lookup y = _; rw [o.sc]; exact h3
  have ne : x ≠ y := by simpa using h5
  have ne2 : y ≠ x := Ne.symm ne
  have hb : X.env.blockKind = .function := by unfold Env.blockKind; rw [o.sc, h1]; rfl
  have st : ([a, b].any fun | .Starred .. => true | _ => false) = false := by
    have g : ∀ e, notStar e = true → (match e with | .Starred .. => true | _ => false) = false := fun e he => by cases e <;> first | exact absurd he Bool.false_ne_true | rfl
    simp only [List.any_cons, List.any_nil, Bool.or_false]
    have ga := g a h6
    have gb := g b h7
    revert ga gb
    cases a <;> cases b <;> simp
  refine ⟨?_, kx, ky, ne, h6, h7⟩
  have er : ([x, y] : List Str).eraseDups = [x, y] := by
    simp [List.eraseDups_cons, ne2]
  unfold swappedStores
  have e0 : (List.filterMap (fun x_1 => match x_1 with
      | .Name id pos => if (X.env.kindOf id == some .local && pos.line == (([Expr.Name x px, Expr.Name y py].head?.map (·.pos.line)).getD 0)) = true then some id else none
      | _ => none) [Expr.Name x px, Expr.Name y py]) = [x, y] := by
    have l1 : ([Expr.Name x px, Expr.Name y py].head?.map (·.pos.line)).getD 0 = px.line := rfl
    simp only [l1, List.filterMap_cons, List.filterMap_nil, kx, ky, h4, beq_self_eq_true, Bool.and_self, if_true]
  refine (if_neg ?_).trans ((if_neg ?_).trans ((if_neg ?_).trans ((if_neg ?_).trans ((if_neg ?_).trans ?_))))
  · rw [hb]; exact Bool.false_ne_true
  · intro z
    have z' := st.symm.trans z
    cases z'
  · intro z
    have z' : ([x, y].length != 2 || [x, y].eraseDups.length != [x, y].length) = true := by rw [← e0]; exact z
    rw [er] at z'
    exact absurd z' (by simp)
  · rw [h8]; decide
  · rw [h9]; decide
  · exact congrArg (fun l => (pure (some l) : Sem (Option (List Str)))) e0
/-- a, b = 0, 1: constants alone: as a tuple -/
def parF (a b : Expr) : Bool := [a, b].all (foldedForSure 8)

theorem ite_eq2 {α : Type} {c : Prop} [Decidable c] {a b x : α} (h1 : c → a = x) (h2 : ¬ c → b = x) : (if c then a else b) = x := by
  by_cases h : c
  · rw [if_pos h]; exact h1 h
  · rw [if_neg h]; exact h2 h
theorem par_f {c : Ctx} {k : Nat} {W : Wd} {X : Cx} (o : XOk c W k X) {x y : Str} {px py pt pt2 : Pos} {kt k2 : Nat} {a b : Expr} (h : parF a b = true) :
    swappedStores [.Tuple [.Name x px, .Name y py] kt pt] (.Tuple [a, b] k2 pt2) X.env = pure none := by
  unfold parF at h
  unfold swappedStores
  refine ite_eq2 (fun _ => rfl) fun _ => ?_
  refine ite_eq2 (fun _ => rfl) fun _ => ?_
  refine ite_eq2 (fun _ => rfl) fun _ => ?_
  exact if_pos h
def isPair : Expr → Expr → Bool
  | .Tuple .., .Tuple .. => true
  | _, _ => false
theorem swapped_no {tg e : Expr} (h : isPair tg e = false) (hl : ∀ es p, tg ≠ .List es p) (env : Env) : swappedStores [tg] e env = pure none := by
  cases tg with
  | Tuple ts k p => cases e <;> first | exact absurd (show true = false from h) (by decide) | rfl
  | List es p => exact absurd rfl (hl es p)
  | _ => rfl
theorem swaps_sole {t e : Expr} (h : notComp e = true) (l : Nat) (env : Env) : swapsWithSole [t] e l env = pure false := swaps_no h (some t) l env
noncomputable def asgC (cE : CE) (cB : CB) (c : Ctx) (tg e : Expr) (p : Pos) : Option Sv := match tg with
  | .Name y py => match e with
    | .ListComp elt [⟨tg', iter, ifs, 0⟩] scope p2 => match slotL c y, lcC cE cB c elt tg' iter ifs scope with
      | some i, some l => if swapT c y py scope p2 = true ∨ swapF c y = true then some (sSet i l.ev) else none
      | _, _ => none
    | e => if notComp e = true then match slotL c y, cE c e with
      | some i, some f => some (sSet i f)
      | _, _ => none
      else none
  | .Tuple [.Name x px, .Name y py] _ _ => match e with
    | .Tuple [a, b] _ _ => if parT c x y px py a b = true then match slotL c x, slotL c y, argsC cE c [a, b] with
        | some i, some j, some f => if i = j then none else some (sPar i j f)
        | _, _, _ => none
      else if parF a b = true then match compN 9 c (List.range c.N.length) (.Tuple [.Name x px, .Name y py] 0 p), cE c e with
        | some g, some f => some (sAsg f (gN g))
        | _, _ => none
      else none
    | e => if notComp e = true ∧ isPair tg e = false then match compN 9 c (List.range c.N.length) tg, cE c e with
      | some g, some f => some (sAsg f (gN g))
      | _, _ => none
      else none
  | .Tuple [.Subscript a i p1, .Subscript b j p2] k0 p3 => match e with
    | .Tuple [x, y] _ _ => if notSlice i = true ∧ notSlice j = true then match cE c a, cE c i, cE c b, cE c j, cE c e with
      | some fa, some fi, some fb, some fj, some f => some (sAsg f (gTp 2 (gsCons (gIx pIx fa fi) (gsCons (gIx pIx fb fj) gsNil))))
      | _, _, _, _, _ => none
      else none
    | _ => none
  | .Tuple ts _ _ => if notComp e = true ∧ isPair tg e = false then match compN 9 c (List.range c.N.length) tg, cE c e with
      | some g, some f => some (sAsg f (gN g))
      | _, _ => none
      else none
  | .Subscript a i _ => if notSlice i = true then match cE c a, cE c i, cE c e with
      | some fa, some fi, some f => some (sAsg f (gIx pIx fa fi))
      | _, _, _ => none
      else none
  | _ => none
theorem swapped_sub {a i b j x y : Expr} {p1 p2 p3 : Pos} {k0 k1 : Nat} {p4 : Pos} (env : Env) : swappedStores [.Tuple [.Subscript a i p1, .Subscript b j p2] k0 p3] (.Tuple [x, y] k1 p4) env = pure none := by
  unfold swappedStores
  simp only []
  split
  · rfl
  · split
    · rfl
    · rfl
theorem compN_tuple {n : Nat} {c : Ctx} {vs : List Nat} {es : List Expr} {k k' : Nat} {p p' : Pos} : compN (n + 1) c vs (.Tuple es k p) = compN (n + 1) c vs (.Tuple es k' p') := rfl
theorem asgC_ok {k : Nat} {W : Wd} {cE : CE} {cB : CB} (sE : SoundE k W cE) (sB : SoundB k W cB) {c : Ctx} {X : Cx} (o : XOk c W k X) {tg e : Expr} {v : Sv} {pos : Pos} (h : asgC cE cB c tg e pos = some v) : SS W X (.Assign [tg] e pos) v := by
  have one : notStar tg = true → (assignEach [tg] X.env).map (·.2) = [assign tg X.env] := fun hs => by rw [assign_cons hs]; rfl
  unfold asgC at h
  split at h
  · split at h
    · split at h
      · rename_i i l h1 h2
        split at h
        · rename_i hsw
          cases h
          obtain ⟨s1, s2, s3⟩ := slotL_ok o h1
          obtain ⟨own, e0, q2, q3, q4, q5, q6, q7⟩ := lcC_ok sE sB o h2
          unfold LC.ev
          rw [e0]
          rcases hsw with hsw | hsw
          · unfold swapT at hsw
            simp only [Bool.and_eq_true, beq_iff_eq, Bool.not_eq_true'] at hsw
            obtain ⟨⟨⟨t1, t2⟩, t3⟩, t4⟩ := hsw
            rw [← o.sc] at t1 t2
            exact ss_setLc o.calm o.nd s1 t2 (sw_true t1 t2 (by simp [t3]) t4) q2 q3 q4 q5 q6 q7
          · exact ss_set o.nd s1 s2 (se_lc o.calm o.nd q2 q3 q4 q5 q6 q7) (swap_f o hsw) s3
        · cases h
      · cases h
    · split at h
      · rename_i hn
        split at h
        · rename_i i f h1 h2
          cases h
          obtain ⟨s1, s2, s3⟩ := slotL_ok o h1
          exact ss_set o.nd s1 s2 (sE _ _ _ _ o h2) (swaps_no hn _ _ _) s3
        · cases h
      · cases h
  · split at h
    · split at h
      · rename_i hp
        split at h
        · rename_i i j f h1 h2 h3
          split at h
          · cases h
          · rename_i hij
            cases h
            obtain ⟨s1, s2, s3⟩ := slotL_ok o h1
            obtain ⟨s1', s2', s3'⟩ := slotL_ok o h2
            obtain ⟨t1, t2, t3, t4, t5, t6⟩ := par_t o hp
            exact ss_par o.calm o.nd s1 s1' hij t2 t3 (argsC_ok sE o h3).1 t1 rfl
        · cases h
      · split at h
        · rename_i hp
          split at h
          · rename_i g f h1 h2
            cases h
            exact ss_asg (sE _ _ _ _ o h2) (compN_ok 9 o ((compN_tuple).trans h1)).sg on_gN rfl (par_f o hp) (one rfl)
          · cases h
        · cases h
    · split at h
      · rename_i hn
        split at h
        · rename_i g f h1 h2
          cases h
          exact ss_asg (sE _ _ _ _ o h2) (compN_ok 9 o h1).sg on_gN (swaps_sole hn.1 _ _) (swapped_no hn.2 (by intro _ _ z; cases z) _) (one rfl)
        · cases h
      · cases h
  · rename_i a i p1 b j p2 k0 p3
    split at h
    · split at h
      · rename_i x y _ _ hn
        split at h
        · rename_i fa fi fb fj f h1 h2 h3 h4 h5
          cases h
          have g1 : SG W X (.Subscript a i p1) (gIx pIx fa fi) := sg_sub set_list o_pix (sE _ _ _ _ o h1) (sE _ _ _ _ o h2) (by
            intro v
            have hn := hn.1
            cases i <;> first | exact absurd hn Bool.false_ne_true | rfl)
          have g2 : SG W X (.Subscript b j p2) (gIx pIx fb fj) := sg_sub set_list o_pix (sE _ _ _ _ o h3) (sE _ _ _ _ o h4) (by
            intro v
            have hn := hn.2
            cases j <;> first | exact absurd hn Bool.false_ne_true | rfl)
          exact ss_asg (sE _ _ _ _ o h5) (sg_tup o.hK o.calm (sgs_cons g1 (sgs_cons g2 sgs_nil rfl) rfl) rfl rfl) (on_tup (on_cons on_ix (on_cons on_ix on_nil))) rfl (swapped_sub _) (one rfl)
        · cases h
      · cases h
    · cases h
  · split at h
    · rename_i hn
      split at h
      · rename_i g f h1 h2
        cases h
        exact ss_asg (sE _ _ _ _ o h2) (compN_ok 9 o h1).sg on_gN (swaps_sole hn.1 _ _) (swapped_no hn.2 (by intro _ _ z; cases z) _) (one rfl)
      · cases h
    · cases h
  · split at h
    · rename_i a i p hn
      split at h
      · rename_i fa fi f h1 h2 h3
        cases h
        refine ss_asg (sE _ _ _ _ o h3) (sg_sub set_list o_pix (sE _ _ _ _ o h1) (sE _ _ _ _ o h2) ?_) on_ix (swaps_subS _ _) rfl (one rfl)
        intro v
        cases i <;> first | exact absurd hn Bool.false_ne_true | rfl
      · cases h
    · cases h
  · cases h
/-! raise, try -/
theorem XOk.tr {c : Ctx} {W : Wd} {k : Nat} {X : Cx} (o : XOk c W k X) (pn : List (Addr × Obj)) (xe : Value → Shared → Prop) : XOk c W k (X.tr pn xe) :=
  ⟨o.hN, o.sc, o.hK, o.calm, o.nd, o.fnc, o.room, o.glob, o.hsub, o.hn, o.hats⟩
noncomputable def rzC (cE : CE) (c : Ctx) : Expr → Option Sv
  | .Call (.Name x _) es [] _ => if isGl c x = true ∧ (x == ("__debug__" : Str)) = false then match c.G.lookup x with
    | some (.exc k none) => match es with
      | [] => some (sRaise0 k aNil)
      | e :: es => match argsC cE c (e :: es) with | some f => some (sRaise0 k f) | none => none
    | some (.exc k (some o)) => match es with
      | [] => none
      | e :: es => match argsC cE c (e :: es) with | some f => some (sRaiseX k o.1 o.2 f) | none => none
    | _ => none
    else none
  | _ => none
theorem rzC_ok {k : Nat} {W : Wd} {cE : CE} (sE : SoundE k W cE) {c : Ctx} {X : Cx} (o : XOk c W k X) {e : Expr} {v : Sv} {pos : Pos} (h : rzC cE c e = some v) : SS W X (.Raise (some e) none pos) v := by
  unfold rzC at h
  split at h
  · split at h
    · rename_i hg
      obtain ⟨hg, hdb⟩ := hg
      split at h
      · rename_i kc hk
        obtain ⟨g1, g2, g3⟩ := o.glob _ _ hk
        split at h
        · cases h
          exact ss_raise00 o.calm o.hK g3 g2 (isGl_ok o hg) hdb
        · rename_i e es
          split at h
          · rename_i f hf
            cases h
            obtain ⟨a, q⟩ := argsC_ok sE o hf
            simp only [List.all_cons, Bool.and_eq_true] at q
            exact ss_raise0 o.calm o.hK g3 g2 (isGl_ok o hg) hdb a (star_cons q.1 _) (star_any q.2 _ _)
          · cases h
      · rename_i kc ow hk
        obtain ⟨g1, g2, k', hk', g3⟩ := o.glob _ _ hk
        split at h
        · cases h
        · rename_i e es
          split at h
          · rename_i f hf
            cases h
            obtain ⟨a, q⟩ := argsC_ok sE o hf
            simp only [List.all_cons, Bool.and_eq_true] at q
            exact ss_raiseX o.calm o.hK g3 (o.room.mono hk') g2 (isGl_ok o hg) hdb a (star_cons q.1 _) (star_any q.2 _ _)
          · cases h
      · cases h
    · cases h
  · cases h
noncomputable def xAs (f : Expr → Option Xe) : List Expr → Option Xa
  | [] => some xNil
  | e :: es => if notStar e = true then match f e, xAs f es with
    | some g, some r => some (xCons g r)
    | _, _ => none
    else none
noncomputable def xC : Nat → Ctx → Option Nat → Expr → Option Xe
  | 0, _, _, _ => none
  | n + 1, c, i, e => match e with
    | .Constant (.int z) _ _ => some (xCon (.int z))
    | .Constant (.bool z) _ _ => some (xCon (.bl z))
    | .Constant .none _ _ => some (xCon .non)
    | .Constant (.str z) _ _ => some (xCon (.str z))
    | .Tuple es _ _ => match xAs (xC n c i) es with | some f => some (xTup f) | none => none
    | .Attribute (.Name y _) f _ => if (y == ("__debug__" : Str)) = false ∧ (y == ("__classdict__" : Str)) = false then match i, slotV c y with
      | some j, some j' => if j = j' then some (xAt c.nx c.ats f) else none
      | _, _ => none
      else none
    | _ => none
theorem xAs_ok {W : Wd} {X : Cx} {i : Option Nat} {f : Expr → Option Xe} (hf : ∀ e v, f e = some v → SXE W X i e v) : ∀ {es : List Expr} {v : Xa}, xAs f es = some v → SXA W X i es v
  | [], v, h => by cases h; exact sxa_nil
  | e :: es, v, h => by
    unfold xAs at h
    split at h
    · rename_i hs
      split at h
      · rename_i g r h1 h2
        cases h
        exact sxa_cons (hf _ _ h1) (xAs_ok hf h2) (star_cons hs)
      · cases h
    · cases h
theorem xC_ok {k : Nat} {W : Wd} {c : Ctx} {X : Cx} (o : XOk c W k X) {i : Option Nat} : ∀ (n : Nat) (e : Expr) (v : Xe), xC n c i e = some v → SXE W X i e v
  | 0, e, v, h => by unfold xC at h; cases h
  | n + 1, e, v, h => by
    unfold xC at h
    split at h
    · cases h; exact sx_int
    · cases h; exact sx_bl
    · cases h; exact sx_non
    · cases h; exact sx_str
    · split at h
      · rename_i f h1
        cases h
        exact sx_tup (xAs_ok (xC_ok o n) h1)
      · cases h
    · split at h
      · rename_i hd
        split at h
        · rename_i j j' hj
          split at h
          · rename_i e1
            subst e1
            cases h
            obtain ⟨a, b⟩ := slotV_ok o hj
            rw [← o.hn, ← o.hats]
            exact sx_at o.hK a b hd.1 hd.2
          · cases h
        · cases h
      · cases h
    · cases h
noncomputable def suC (c : Ctx) (i : Option Nat) : List Stmt → Option Xs
  | [.Return (some e) _] => match xC 20 c i e with | some f => some (xsRet f) | none => none
  | [.Return none _] => some (xsSt sRetN)
  | [.Pass _] => some (xsSt sNil)
  | [.Break _] => some (xsSt sBrk)
  | [.Continue _] => some (xsSt sCnt)
  | _ => none
theorem suC_ok {k : Nat} {W : Wd} {c : Ctx} {X : Cx} (o : XOk c W k X) {i : Option Nat} {st : List Stmt} {v : Xs} (h : suC c i st = some v) : SXS W X i st v := by
  unfold suC at h
  split at h
  · split at h
    · rename_i f h1
      cases h
      exact sxs_ret (xC_ok o 20 _ _ h1)
    · cases h
  · cases h; exact sxs_retN
  · cases h; exact sxs_pass
  · cases h; exact sxs_brk
  · cases h; exact sxs_cnt
  · cases h
noncomputable def nmC (c : Ctx) : Option Str → Option (Option Nat)
  | none => some none
  | some n => match c.sc.names.lookup n, ixOf c.N n with
    | some .local, some i => some (some i)
    | _, _ => none
noncomputable def clC (c : Ctx) (x : Str) : Option Nat := if isGl c x = true ∧ (x == ("__debug__" : Str)) = false then match c.G.lookup x with
  | some (.exc k _) => some k
  | _ => none
  else none
theorem clC_ok {k : Nat} {W : Wd} {c : Ctx} {X : Cx} (o : XOk c W k X) {x : Str} {kc : Nat} (h : clC c x = some kc) : Names X x (.ref (W.ca kc)) := by
  unfold clC at h
  split at h
  · rename_i hg
    split at h
    · rename_i k1 ow hk
      cases h
      cases ow with
      | none => exact ⟨isGl_ok o hg.1, hg.2, .inl (o.glob _ _ hk).2.1⟩
      | some ow => exact ⟨isGl_ok o hg.1, hg.2, .inl (o.glob _ _ hk).2.1⟩
    · cases h
  · cases h
noncomputable def handC (c : Ctx) : List ExceptHandler → Option (List (Nat × Option Nat × Xs))
  | [] => some []
  | .ExceptHandler (some (.Name x _)) nm (b₀ :: suite) _ :: r => match clC c x, nmC c nm with
    | some k, some i => match suC c i (b₀ :: suite), handC c r with
      | some f, some l => some ((k, i, f) :: l)
      | _, _ => none
    | _, _ => none
  | _ => none
theorem handC_ok {k : Nat} {W : Wd} {c : Ctx} {X : Cx} (o : XOk c W k X) : ∀ {hds : List ExceptHandler} {l : List (Nat × Option Nat × Xs)}, handC c hds = some l → SHs W X hds l
  | [], l, h => by unfold handC at h; cases h; exact .nil
  | hd :: r, l, h => by
    unfold handC at h
    split at h
    · rename_i z; cases z
    · rename_i x _ nm b₀ suite _ r' z
      cases z
      split at h
      · rename_i kc i h1 h2
        split at h
        · rename_i f l' h3 h4
          cases h
          have hc := clC_ok o h1
          unfold nmC at h2
          split at h2
          · cases h2
            exact .plain hc (suC_ok o h3) (handC_ok o h4)
          · rename_i n0
            split at h2
            · rename_i i' e1 e2
              cases h2
              exact .named hc (by rw [o.hN]; exact ixOf_get e2) (by show X.env.scope.names.lookup n0 = some .local; rw [o.sc]; exact e1) (suC_ok o h3) (handC_ok o h4)
            · cases h2
        · cases h
      · cases h
    · cases h
noncomputable def compS : Nat → Ctx → Stmt → Option Sv
  | 0, _, _ => none
  | n + 1, c, st => match st with
    | .Pass _ => some sNil
    | .Break _ => some sBrk
    | .Continue _ => some sCnt
    | .Raise (some e) none _ => match rzC (compE 40) c e with | some f => some f | none => some sBad
    | .Raise _ _ _ => some sBad
    | .Try body (h₀ :: hds) [] [] _ => match blockC (compS n c) body, handC c (h₀ :: hds) with
      | some b, some l => some (sTry c.sub c.nx b l)
      | _, _ => none
    | .Expr (.Constant (.str _) _ _) _ => some sNil
    | .Expr e _ => if notComp e = true then match compE 40 c e with | some f => some (sExp f) | none => none else none
    | .Return (some e) _ => match compE 40 c e with | some f => some (sRet f) | none => none
    | .Return none _ => some sRetN
    | .If t a b _ => match compB 40 c t, blockC (compS n c) a, blockC (compS n c) b with
      | some k, some f, some g => some (sIf k f g)
      | _, _, _ => none
    | .Assign [tg] e p => asgC (compE 40) (compB 40) c tg e p
    | .AugAssign (.Name x _) op e _ => match slotL c x, iopG op, compE 40 c e with
      | some i, some g, some f => some (sAug i g f)
      | _, _, _ => none
    | .AugAssign (.Subscript (.Name x _) (.Name y _) _) op e _ => if ((x == ("__debug__" : Str)) = false ∧ (x == ("__classdict__" : Str)) = false) ∧ (y == ("__debug__" : Str)) = false ∧ (y == ("__classdict__" : Str)) = false then match slotV c x, slotV c y, iopG op, compE 40 c e with
      | some i, some j, some g, some f => some (sAsg (e2 g (e2 vIx (eVar i) (eVar j)) f) (gIx pIx (eVar i) (eVar j)))
      | _, _, _, _ => none
      else none
    | .For tg iter body [] _ => if notSet iter = true then match compI (compE 40) c tg iter, compN 9 c (List.range c.N.length) tg, blockC (compS n c) body with
      | some fi, some g, some b => some (sFor fi (gN g) b)
      | _, _, _ => none
      else none
    | .While t body [] _ => match compB 40 c t, blockC (compS n c) body with
      | some k, some b => some (sWhile k b)
      | _, _ => none
    | _ => none
theorem compS_ok {k : Nat} {W : Wd} : ∀ n, SoundS k W (compS n)
  | 0 => fun c X st v o po hst hfr h => by unfold compS at h; cases h
  | n + 1 => fun c X st v o po hst hfr h => by
    have sE : SoundE k W (compE 40) := (comp_ok 40).1
    have sB : SoundB k W (compB 40) := (comp_ok 40).2
    have ih : ∀ s v, compS n c s = some v → SS W X s v := fun s v hs => compS_ok n c X s v o po hst hfr hs
    unfold compS at h
    split at h
    · cases h; exact ss_pass
    · cases h; exact ss_break
    · cases h; exact ss_continue
    · split at h
      · rename_i f h1
        cases h
        exact rzC_ok sE o h1
      · cases h; exact ss_bad
    · cases h; exact ss_bad
    · split at h
      · rename_i b l h1 h2
        cases h
        rw [← o.hsub, ← o.hn]
        exact ss_try o.hK hst hfr o.nd (fun pn xe po' => blockC_ok (fun s v hs => compS_ok n c (X.tr pn xe) s v (o.tr pn xe) po' hst hfr hs) h1) (handC_ok o h2)
      · cases h
    · cases h; exact ss_doc
    · split at h
      · rename_i hn
        split at h
        · rename_i f h1
          cases h
          exact ss_expr (sE _ _ _ _ o h1) (swaps_no hn _ _ _)
        · cases h
      · cases h
    · split at h
      · rename_i f h1
        cases h
        exact ss_ret (sE _ _ _ _ o h1)
      · cases h
    · cases h; exact ss_retN
    · split at h
      · rename_i t f g h1 h2 h3
        cases h
        exact ss_if (sB _ _ _ _ o h1) (blockC_ok ih h2) (blockC_ok ih h3)
      · cases h
    · exact asgC_ok sE sB o h
    · split at h
      · rename_i i g f h1 h2 h3
        cases h
        obtain ⟨s1, s2, s3⟩ := slotL_ok o h1
        obtain ⟨r, r1, r2⟩ := iopG_ok (W := W) (X := X) h2
        exact ss_aug o.nd s1 s2 (sE _ _ _ _ o h3) r1 r2 s3
      · cases h
    · split at h
      · rename_i hd
        split at h
        · rename_i i j g f h1 h2 h3 h4
          cases h
          obtain ⟨v1, v2⟩ := slotV_ok o h1
          obtain ⟨w1, w2⟩ := slotV_ok o h2
          obtain ⟨r, r1, r2⟩ := iopG_ok (W := W) (X := X) h3
          exact ss_augI o.hK (se_var v1 v2 hd.1.1 hd.1.2) (se_var w1 w2 hd.2.1 hd.2.2) (sE _ _ _ _ o h4) r1 r2 (by intros; rfl)
        · cases h
      · cases h
    · split at h
      · rename_i hn
        split at h
        · rename_i fi g b h1 h2 h3
          cases h
          exact ss_for po o.calm (compI_ok sE o h1) (compN_ok 9 o h2).sg on_gN (blockC_ok ih h3) (folded_no hn _)
        · cases h
      · cases h
    · split at h
      · rename_i t b h1 h2
        cases h
        exact ss_while po (sB _ _ _ _ o h1) (blockC_ok ih h2)
      · cases h
    · cases h

/-! ### a def -/
/-- the globals that a def's text reads, the classes' table -/
structure GsOk (W : Wd) (P : Program) (w : World) (mg : Str → Option Value) (base : Heap) (k : Nat) (c : Ctx) : Prop where
  g : ∀ x gv, c.G.lookup x = some gv → GOk W P w mg base k x gv
  sub : W.sub = c.sub
  n : W.n = c.nx
  ats : W.ats = c.ats
def SR.out : SR → Res U
  | .rt u h' => .ok u h'
  | .nx _ h' => .ok .non h'
  | .ex x _ h' => .ex x h'
  | _ => .bad
def runDef (n np : Nat) (b : Sv) : GC := fun us h => if us.length = np then (b (us.map some ++ List.replicate (n - np) none) h).out else .bad
theorem runDef_ar {n np : Nat} {b : Sv} : ∀ us h, us.length ≠ np → runDef n np b us h = .bad := fun us h e => if_neg e
theorem rs_none {K : PySem.W.Frag} {m : List Addr} {H : Hp} : ∀ n : Nat, RS K m H (List.replicate n none) (List.replicate n none)
  | 0 => rfl
  | n + 1 => by
    show RS K m H (none :: List.replicate n none) (none :: List.replicate n none)
    exact ⟨none, List.replicate n none, rfl, (fun _ z => by cases z), rs_none n⟩
theorem rs_start {K : PySem.W.Frag} {m : List Addr} {H : Hp} (n : Nat) : ∀ {us : List U} {vs : List V}, RVs K m H us vs → RS K m H (us.map some ++ List.replicate n none) (vs.map some ++ List.replicate n none)
  | [], vs, r => by rw [r.inv_nil]; exact rs_none n
  | u :: us, vs, r => by
    obtain ⟨v, q, rfl, a, b⟩ := r.inv_cons
    exact ⟨some v, _, rfl, (fun u' e => by cases e; exact ⟨v, rfl, a⟩), rs_start n b⟩
theorem fn_sim0 {P : Program} {w : World} {W : Wd} {mg : Str → Option Value} {base : Heap} {k : Nat} {qual : Str} {st : Stmt} {f : Addr} {fd : FuncData} {c : Ctx} {ps : List Str} {b : Sv} {n : Nat} (S : FnScope c.N ps (defScope st)) (hsc : c.sc = defScope st)
    (ok : ∀ {sp : Sp}, (∀ vs H Q E, sp vs H Q E → vs.length = ps.length) → (∀ (cdv : Value) (A : Around) (outer : List Env) (s : Shared) (H : Hp) (vs : List V) (Q : VK) (E : XK), Room k (A.deeper (envOfC qual (defScope st) s.heap.objs.size f cdv)) → sp vs H Q E →
      ∃ t, PSs (cxOf (L2.CX P w) P w W.K mg base c.N qual (defScope st) f cdv A outer s H E) (defBody st) t ∧ t { nx := fun _ H' => Q .non H', rt := Q } (L2.start c.N vs) H) → FnOk P w W.K mg base (L2.CX P w) (k + 1) f fd ps sp)
    (G : GsOk W P w mg base k c) (hc : blockC (compS n c) (defBody st) = some b) : FnOk P w W.K mg base (L2.CX P w) (k + 1) f fd ps (spOf W ps.length (runDef c.N.length ps.length b)) := by
  refine ok (fun vs H Q E h => h.1) (fun cdv A outer s H vs Q E hr h => ?_)
  obtain ⟨hl, m, us, hb, rl, rv, p⟩ := h
  have o : XOk c W k (cxOf (L2.CX P w) P w W.K mg base c.N qual (defScope st) f cdv A outer s H E) :=
    ⟨rfl, hsc.symm, rfl, rfl, S.nd, fun _ _ _ => .inl rfl, hr, G.g, G.sub, G.n, G.ats⟩
  have po : PassesOwn (model P w) (A.deeper (envOfC qual (defScope st) s.heap.objs.size f cdv)) (envOfC qual (defScope st) s.heap.objs.size f cdv) (cxOf (L2.CX P w) P w W.K mg base c.N qual (defScope st) f cdv A outer s H E).xe := passes_of rfl
  have tk : Takes (cxOf (L2.CX P w) P w W.K mg base c.N qual (defScope st) f cdv A outer s H E) (fun cls d _ H => E cls d H) := takes_of rfl rfl rfl rfl
  have sl : SL W (cxOf (L2.CX P w) P w W.K mg base c.N qual (defScope st) f cdv A outer s H E) (defBody st) b := blockC_ok (fun s v hs => compS_ok n c _ s v o po rfl rfl hs) hc
  refine ⟨_, EvL.pss _ _, sl.run _ tk (us.map some ++ List.replicate (c.N.length - ps.length) none) hb m _ H _ rl ?_ ?_⟩
  · unfold L2.start
    rw [hl]
    exact rs_start _ rv
  · have hu : us.length = ps.length := by rw [rv.length, hl]
    unfold runDef at p
    rw [if_pos hu] at p
    cases e : b (us.map some ++ List.replicate (c.N.length - ps.length) none) hb with
    | rt u h' => rw [e] at p; exact fun m' H' v e1 r1 rv => p m' H' v e1 r1 rv
    | nx s' h' => rw [e] at p; exact fun m' H' t e1 r1 rs => p m' H' .non e1 r1 .mk_non
    | ex x' s' h' => rw [e] at p; exact fun m' H' cc d t e1 r1 rx rs => p m' H' cc d e1 r1 rx
    | bk _ _ => rw [e] at p; exact p.elim
    | ct _ _ => rw [e] at p; exact p.elim
    | bad => rw [e] at p; exact p.elim
theorem fn_sim {P : Program} {w : World} {W : Wd} {mg : Str → Option Value} {base : Heap} {k : Nat} {x qual : Str} {st : Stmt} {f : Addr} {fd : FuncData} {c : Ctx} {ps : List Str} {b : Sv} {n : Nat} (F : Fun W.K x qual st f fd) (S : FnScope c.N ps (defScope st)) (hsc : c.sc = defScope st)
    (G : GsOk W P w mg base k c) (hc : blockC (compS n c) (defBody st) = some b) : FnOk P w W.K mg base (L2.CX P w) (k + 1) f fd ps (spOf W ps.length (runDef c.N.length ps.length b)) :=
  fn_sim0 S hsc (fun l h => F.okX S l h) G hc
theorem fn_simD {P : Program} {w : World} {W : Wd} {mg : Str → Option Value} {base : Heap} {k : Nat} {x qual : Str} {st : Stmt} {f : Addr} {fd : FuncData} {c : Ctx} {ps : List Str} {b : Sv} {n : Nat} {dvs : List V} {kws : List (Str × V)} (F : FunD W.K x qual (defArgs st) (defBody st) (defScope st) dvs kws f fd) (S : FnScope c.N ps (defScope st)) (hsc : c.sc = defScope st)
    (G : GsOk W P w mg base k c) (hc : blockC (compS n c) (defBody st) = some b) : FnOk P w W.K mg base (L2.CX P w) (k + 1) f fd ps (spOf W ps.length (runDef c.N.length ps.length b)) :=
  fn_sim0 S hsc (fun l h => F.ok S l h) G hc
/-- a def whose arguments are all given -/
theorem g_fn {P : Program} {w : World} {W : Wd} {mg : Str → Option Value} {base : Heap} {k : Nat} {x qual : Str} {st : Stmt} {f : Addr} {fd : FuncData} {c : Ctx} {ps : List Str} {b : Sv} {n : Nat} (hm : mg x = some (.ref f)) (hb : Binds W.K fd ps []) (F : Fun W.K x qual st f fd) (S : FnScope c.N ps (defScope st)) (hsc : c.sc = defScope st)
    (G : GsOk W P w mg base k c) (hc : blockC (compS n c) (defBody st) = some b) : GOk W P w mg base (k + 1) x (.fn (runDef c.N.length ps.length b) ps.length []) :=
  ⟨runDef_ar, f, fd, ps, hm, F.kp, fn_sim F S hsc G hc, rfl, fun j hj => ⟨[], [], hb, .nil, fun m H => by simpa using RVs.nil⟩⟩
theorem GOk.mono {W : Wd} {P : Program} {w : World} {mg : Str → Option Value} {base : Heap} {j k : Nat} {x : Str} {g : GV} (h : GOk W P w mg base j x g) (hj : j ≤ k) : GOk W P w mg base k x g := by
  cases g with
  | bt => exact h
  | con u => exact h
  | fn r n ds =>
    obtain ⟨ar, f, fd, ps, h1, h2, F, h3, h4⟩ := h
    exact ⟨ar, f, fd, ps, h1, h2, F.mono hj, h3, h4⟩
  | exc c ow =>
    cases ow with
    | none => exact h
    | some o =>
      obtain ⟨h1, h2, k', h3, h4⟩ := h
      exact ⟨h1, h2, k', by omega, h4⟩
/-- nothing is promised -/
def noRun : GC := fun _ _ => .bad
theorem g_none {P : Program} {w : World} {W : Wd} {mg : Str → Option Value} {base : Heap} {x : Str} {f : Addr} {fd : FuncData} {ps : List Str} (hm : mg x = some (.ref f)) (hk : PySem.W.keepIn W.K (.ref f) = true) (hb : Binds W.K fd ps []) : GOk W P w mg base 0 x (.fn noRun ps.length []) :=
  ⟨fun _ _ _ => rfl, f, fd, ps, hm, hk, ⟨fun vs H Q E h => h.1, fun A outer s H args us vs Q E _ _ _ _ h => by obtain ⟨_, _, _, _, _, _, p⟩ := h; exact p.elim⟩, rfl, fun j hj => ⟨[], [], hb, .nil, fun m H => by simpa using RVs.nil⟩⟩

theorem g_bt {W : Wd} {P : Program} {w : World} {mg : Str → Option Value} {base : Heap} {k : Nat} {x : Str} (h : mg x = none) : GOk W P w mg base k x .bt := h
theorem gl_nil {W : Wd} {P : Program} {w : World} {mg : Str → Option Value} {base : Heap} {k : Nat} : ∀ x gv, ([] : List (Str × GV)).lookup x = some gv → GOk W P w mg base k x gv := fun _ _ h => by cases h
theorem gl_cons {W : Wd} {P : Program} {w : World} {mg : Str → Option Value} {base : Heap} {k : Nat} {x : Str} {g : GV} {l : List (Str × GV)} (h : GOk W P w mg base k x g) (r : ∀ y gv, l.lookup y = some gv → GOk W P w mg base k y gv) : ∀ y gv, ((x, g) :: l).lookup y = some gv → GOk W P w mg base k y gv := fun y gv e => by
  by_cases hy : y = x
  · subst hy
    rw [List.lookup_cons_self] at e
    cases e
    exact h
  · have hy' : (y == x) = false := by simpa using hy
    rw [List.lookup_cons, hy'] at e
    exact r y gv e

/-! ### the end: the law's def at the script -/
theorem ints_rv {K : PySem.W.Frag} {m : List Addr} {H : Hp} : ∀ ns : List Int, RVs K m H (ns.map U.int) (ns.map V.int)
  | [] => .nil
  | n :: ns => .cons (by unfold RV; rfl) (ints_rv ns)
theorem sp_law {W : Wd} {r : GC} {H : Hp} {a : Addr} {ns : List Int} (hO : Only H) (hS : SqL W.K H a (ns.map V.int)) {h' : Hb} (hr : r [.ref 0] [.fro (ns.map U.int)] = .ok (.bl true) h') :
    spOf W 1 r [.ref a] H (fun v _ => v = .bl true) fun _ _ _ => False := by
  refine ⟨rfl, [a], [.ref 0], [.fro (ns.map U.int)], ⟨rfl, fun i j b h1 h2 n1 n2 => ?_, fun i o b h1 h2 => ?_⟩, .cons (by unfold RV; exact ⟨a, rfl, rfl⟩) .nil, ?_⟩
  · have hi : i = 0 := by
      cases i with
      | zero => rfl
      | succ i => simp at h1
    subst hi
    exact absurd rfl (n1 (ns.map U.int))
  · have hi : i = 0 := by
      cases i with
      | zero => rfl
      | succ i => simp at h1
    subst hi
    simp at h1 h2
    subst h1 h2
    refine ⟨ns.map V.int, ?_, ints_rv ns⟩
    rcases hS with (hS | ⟨o, hS⟩) | hS
    · rcases hO a with z | ⟨o, xs, z⟩
      · rw [z] at hS; cases hS
      · rw [z] at hS; cases hS
    · exact .inl ⟨o, hS⟩
    · exact .inr hS
  · rw [hr]
    intro m' H' v _ _ rv
    unfold RV at rv
    exact rv
theorem room0 : Room 60 callerA := ⟨rfl, by decide, by decide⟩
/-! ### constants of the module -/
structure KC (K : PySem.W.Frag) (u : U) (z : Value) : Prop where
  ex : ∃ v, RelV v z ∧ ∀ m H, RV K m H u v
structure KCs (K : PySem.W.Frag) (us : List U) (zs : List Value) : Prop where
  ex : ∃ vs, Vals vs zs ∧ ∀ m H, RVs K m H us vs
section
variable {K : PySem.W.Frag}
theorem kc_non : KC K .non .none := ⟨.non, rfl, fun _ _ => by simp [RV]⟩
theorem kc_bl {b : Bool} : KC K (.bl b) (.bool b) := ⟨.bl b, rfl, fun _ _ => by simp [RV]⟩
theorem kc_int {i : Int} {t : Tok} : KC K (.int i) (.int i t) := ⟨.int i, ⟨t, rfl⟩, fun _ _ => by simp [RV]⟩
theorem kc_str {x : Str} {t : Tok} : KC K (.str x) (.str x t) := ⟨.str x, ⟨t, rfl⟩, fun _ _ => by simp [RV]⟩
theorem kcs_nil : KCs K [] [] := ⟨[], .nil, fun _ _ => by simp [RVs]⟩
theorem kcs_cons {u : U} {z : Value} {us : List U} {zs : List Value} (a : KC K u z) (b : KCs K us zs) : KCs K (u :: us) (z :: zs) := by
  obtain ⟨v, p, q⟩ := a.ex
  obtain ⟨vs, r, s⟩ := b.ex
  exact ⟨v :: vs, .cons p r, fun m H => by unfold RVs; exact ⟨v, vs, rfl, q m H, s m H⟩⟩
theorem kc_tup {us : List U} {a : Addr} {d : Option Addr} {its : Array Value} {n : Nat} {sl : Array (Option Value)} (h : K.lookup a = some ⟨.type "tuple", d, .seq its n, sl⟩) (hz : its.size ≤ 1000) (b : KCs K us its.toList) : KC K (.tup us) (.ref a) := by
  obtain ⟨vs, r, s⟩ := b.ex
  exact ⟨.ref a, rfl, fun m H => by
    unfold RV
    exact ⟨a, vs, rfl, .inr ⟨_, its, n, h, rfl, rfl, by rw [sizeLine_eq]; omega, r⟩, s m H⟩⟩
end
theorem g_con {W : Wd} {P : Program} {w : World} {mg : Str → Option Value} {base : Heap} {k : Nat} {x : Str} {u : U} {z : Value} (hm : mg x = some z) (h : KC W.K u z) : GOk W P w mg base k x (.con u) := by
  obtain ⟨v, p, q⟩ := h.ex
  exact ⟨v, z, hm, p, q⟩
/-! ### defs with defaults -/
/-- the tuple of the defaults as it stands in the module -/
theorem fund_mk {K : PySem.W.Frag} {x qual : Str} {st : Stmt} {f T : Addr} {oc : Value} {od an : Option Addr} {osl : Array (Option Value)} {kV doc pm cdv ct : Value} {o : Obj} {its : List Value} {m : Nat} {dus : List U} (l : K.lookup f = some ⟨oc, od, .func (PySem.W.fnOf x qual (defArgs st) (defBody st) (defScope st) (.ref T) kV doc pm an cdv ct), osl⟩)
    (c : PySem.W.codeIn K cdv qual = true) (k : PySem.W.keepIn K (.ref f) = true) (lT : K.lookup T = some o) (oT : o.data = .seq its.toArray m) (hd : KCs K dus its) (hne : dus ≠ []) :
    ∃ dvs : List V, dvs.length = dus.length ∧ (∀ M H, RVs K M H dus dvs) ∧ FunD K x qual (defArgs st) (defBody st) (defScope st) dvs [] f (PySem.W.fnOf x qual (defArgs st) (defBody st) (defScope st) (.ref T) kV doc pm an cdv ct) := by
  obtain ⟨vs, r, s⟩ := hd.ex
  have hl : vs.length = dus.length := (s [] (fun _ => none)).length.symm
  refine ⟨vs, hl, s, ⟨⟨oc, od, .ref T, kV, doc, pm, an, cdv, ct, osl, rfl, l, c, .inr ⟨?_, T, o, its, m, rfl, lT, oT, r⟩, .inl rfl⟩, k⟩⟩
  intro e
  rw [e] at hl
  exact hne (List.length_eq_zero_iff.mp hl.symm)
/-- what the binding of such a def looks like when the first n arguments are given -/
def DBind (x qual : Str) (st : Stmt) (ps : List Str) (n j m : Nat) : Prop := ∀ (T : Addr) (kV doc pm : Value) (an : Option Addr) (cdv ct : Value) (us its : List Value), us.length = n → its.length = m →
      ∃ k, bindArgs (PySem.W.fnOf x qual (defArgs st) (defBody st) (defScope st) (.ref T) kV doc pm an cdv ct) ⟨us, []⟩ = seqItems? (.ref T) >>= k ∧ k (some its.toArray) = pure (ps.zip (us ++ its.drop j))
theorem g_fnD {P : Program} {w : World} {W : Wd} {mg : Str → Option Value} {base : Heap} {k : Nat} {x qual : Str} {st : Stmt} {f : Addr} {fd : FuncData} {c : Ctx} {ps : List Str} {b : Sv} {n : Nat} {dvs : List V} {dus : List U} (hm : mg x = some (.ref f))
    (hl : dvs.length = dus.length) (hr : ∀ M H, RVs W.K M H dus dvs) (F : FunD W.K x qual (defArgs st) (defBody st) (defScope st) dvs [] f fd) (hne : dus ≠ []) (hp : dus.length ≤ ps.length) (hb : ∀ j, j ≤ dus.length → DBind x qual st ps (ps.length - (dus.length - j)) j dus.length) (S : FnScope c.N ps (defScope st)) (hsc : c.sc = defScope st)
    (G : GsOk W P w mg base k c) (hc : blockC (compS n c) (defBody st) = some b) : GOk W P w mg base (k + 1) x (.fn (runDef c.N.length ps.length b) ps.length dus) := by
  refine ⟨runDef_ar, f, fd, ps, hm, F.kp, fn_simD F S hsc G hc, rfl, fun j hj => ?_⟩
  have hd : dvs ≠ [] := by
    intro e
    rw [e] at hl
    exact hne (List.length_eq_zero_iff.mp hl.symm)
  obtain ⟨ds, h1, h2⟩ := F.binds1 (ps := ps) (ps.length - (dus.length - j)) j hd (by rw [hl]; omega) (by rw [hl]; exact hb j hj)
  exact ⟨dvs.drop j, ds, h2, h1, fun m H => (hr m H).drop j⟩
end Lz
namespace Lz
open PySem PySem.Spec PyProof.Rows L2
open Classical
/-! ### running by rewriting -/
section
variable {s : Sg} {h : Hb}
theorem run_def {n np : Nat} {b : Sv} {us : List U} (e : us.length = np) : runDef n np b us h = (b (us.map some ++ List.replicate (n - np) none) h).out := by unfold runDef; rw [if_pos e]
theorem run1 {n : Nat} {b : Sv} (x : U) : runDef n 1 b [x] h = (b (some x :: List.replicate (n - 1) none) h).out := run_def (us := [x]) rfl
theorem run2 {n : Nat} {b : Sv} (x y : U) : runDef n 2 b [x, y] h = (b (some x :: some y :: List.replicate (n - 2) none) h).out := run_def (us := [x, y]) rfl
theorem run3 {n : Nat} {b : Sv} (x y z : U) : runDef n 3 b [x, y, z] h = (b (some x :: some y :: some z :: List.replicate (n - 3) none) h).out := run_def (us := [x, y, z]) rfl
theorem run4 {n : Nat} {b : Sv} (x y z w : U) : runDef n 4 b [x, y, z, w] h = (b (some x :: some y :: some z :: some w :: List.replicate (n - 4) none) h).out := run_def (us := [x, y, z, w]) rfl
theorem run5 {n : Nat} {b : Sv} (x y z w v : U) : runDef n 5 b [x, y, z, w, v] h = (b (some x :: some y :: some z :: some w :: some v :: List.replicate (n - 5) none) h).out := run_def (us := [x, y, z, w, v]) rfl
@[simp] theorem out_rt (u : U) : (SR.rt u h).out = .ok u h := rfl
@[simp] theorem out_nx : (SR.nx s h).out = .ok .non h := rfl
@[simp] theorem out_ex (x : Ex) : (SR.ex x s h).out = .ex x h := rfl
def eVarK (o : Option (Option U)) (h : Hb) : Res U := match o with | some (some u) => .ok u h | _ => .bad
@[simp] theorem eVarK_some (u : U) : eVarK (some (some u)) h = .ok u h := rfl
@[simp] theorem eVar_run (i : Nat) : eVar i s h = eVarK s[i]? h := by
  unfold eVar eVarK
  cases s[i]? with
  | none => rfl
  | some o => cases o <;> rfl
@[simp] theorem eCon_run (u : U) : eCon u s h = .ok u h := rfl
@[simp] theorem e2_run (g : G2) (f f' : Ev) : e2 g f f' s h = (f s h).bind (e2k g f' s) := rfl
@[simp] theorem e2k_run (g : G2) (f' : Ev) (x : U) : e2k g f' s x h = (f' s h).bind (g x) := rfl
@[simp] theorem asB_run (f : Ev) : asB f s h = (f s h).bind asBk := rfl
@[simp] theorem asBk_run (k : Bool) : asBk (.bl k) h = .ok k h := rfl
@[simp] theorem eChain_run (g g' : G2) (a b c : Ev) : eChain g g' a b c s h = (a s h).bind (ch1 g g' b c s) := rfl
@[simp] theorem ch1_run (g g' : G2) (b c : Ev) (x : U) : ch1 g g' b c s x h = (b s h).bind (ch2 g g' c s x) := rfl
@[simp] theorem ch2_run (g g' : G2) (c : Ev) (x y : U) : ch2 g g' c s x y h = (g x y h).bind (ch3 g' c s y) := rfl
@[simp] theorem ch3_t (g' : G2) (c : Ev) (y : U) : ch3 g' c s y (.bl true) h = (c s h).bind (g' y) := rfl
@[simp] theorem ch3_f (g' : G2) (c : Ev) (y : U) : ch3 g' c s y (.bl false) h = .ok (.bl false) h := rfl
@[simp] theorem e1_run (g : G1) (f : Ev) : e1 g f s h = (f s h).bind g := rfl
@[simp] theorem bTru_run (f : Ev) : bTru f s h = (f s h).bind truK := rfl
@[simp] theorem truK_bl (b : Bool) : truK (.bl b) h = .ok b h := rfl
@[simp] theorem truK_int (i : Int) : truK (.int i) h = .ok (i != 0) h := rfl
@[simp] theorem truK_tup (xs : List U) : truK (.tup xs) h = .ok (!xs.isEmpty) h := rfl
@[simp] theorem truK_non : truK .non h = .ok false h := rfl
theorem truK_lst {a : Nat} {xs : List U} (e : h[a]? = some (.lst xs)) : truK (.ref a) h = .ok (!xs.isEmpty) h := by unfold truK truU; simp [e]
@[simp] theorem bNot_run (f : Eb) : bNot f s h = (f s h).bind bNotk := rfl
@[simp] theorem bNotk_run (k : Bool) : bNotk k h = .ok (!k) h := rfl
@[simp] theorem bAnd_run (f g : Eb) : bAnd f g s h = (f s h).bind (bAndk g s) := rfl
@[simp] theorem bAndk_t (g : Eb) : bAndk g s true h = g s h := rfl
@[simp] theorem bAndk_f (g : Eb) : bAndk g s false h = .ok false h := rfl
@[simp] theorem bOr_run (f g : Eb) : bOr f g s h = (f s h).bind (bOrk g s) := rfl
@[simp] theorem bOrk_t (g : Eb) : bOrk g s true h = .ok true h := rfl
@[simp] theorem bOrk_f (g : Eb) : bOrk g s false h = g s h := rfl
@[simp] theorem eAnd_run (f g : Ev) : eAnd f g s h = (f s h).bind (eAndk g s) := rfl
@[simp] theorem eAndk_run (g : Ev) (x : U) : eAndk g s x h = (match truU h x with | some true => g s h | some false => .ok x h | none => .bad) := rfl
@[simp] theorem eOr_run (f g : Ev) : eOr f g s h = (f s h).bind (eOrk g s) := rfl
@[simp] theorem eOrk_run (g : Ev) (x : U) : eOrk g s x h = (match truU h x with | some true => .ok x h | some false => g s h | none => .bad) := rfl
@[simp] theorem eNot_run (f : Ev) : eNot f s h = (f s h).bind eNotk := rfl
@[simp] theorem eNotk_run (x : U) : eNotk x h = (match truU h x with | some k => .ok (.bl (!k)) h | none => .bad) := rfl
@[simp] theorem eIf_run (c : Eb) (f g : Ev) : eIf c f g s h = (c s h).bind (eIfk f g s) := rfl
@[simp] theorem eIfk_t (f g : Ev) : eIfk f g s true h = f s h := rfl
@[simp] theorem eIfk_f (f g : Ev) : eIfk f g s false h = g s h := rfl
@[simp] theorem aNil_run : aNil s h = .ok [] h := rfl
@[simp] theorem aCons_run (f : Ev) (g : Ea) : aCons f g s h = (f s h).bind (aC1 g s) := rfl
@[simp] theorem aC1_run (g : Ea) (x : U) : aC1 g s x h = (g s h).bind (aC2 x) := rfl
@[simp] theorem aC2_run (x : U) (xs : List U) : aC2 x xs h = .ok (x :: xs) h := rfl
theorem small_line {n : Nat} (e : n ≤ 10000000) : n ≤ sizeLine := by rw [sizeLine_eq]; omega
theorem small_line' {n : Nat} (e : n ≤ 10000000) : n < sizeLine := by rw [sizeLine_eq]; omega
@[simp] theorem eTup_run (g : Ea) : eTup g s h = (g s h).bind eTupk := rfl
@[simp] theorem eTupk_run {xs : List U} (e : xs.length ≤ 10000000) : eTupk xs h = .ok (.tup xs) h := if_pos (small_line e)
@[simp] theorem eLst_run (g : Ea) : eLst g s h = (g s h).bind eLstk := rfl
@[simp] theorem eLstk_run {xs : List U} (e : xs.length ≤ 10000000) : eLstk xs h = .ok (.ref h.length) (h ++ [.lst xs]) := if_pos (small_line e)
@[simp] theorem eC_run (g : GC) (f : Ea) : eC g f s h = (f s h).bind g := rfl
@[simp] theorem eM_run (g : GM) (f : Ev) (fs : Ea) : eM g f fs s h = (f s h).bind (eMk g fs s) := rfl
theorem eMk_lst {g : GM} {fs : Ea} {a : Nat} {xs : List U} (e : h[a]? = some (.lst xs)) : eMk g fs s (.ref a) h = (fs s h).bind (g (.ref a)) := by unfold eMk lstU; simp [e]
@[simp] theorem oNo_run : oNo s h = .ok none h := rfl
@[simp] theorem oSo_run (f : Ev) : oSo f s h = (f s h).bind oSok := rfl
@[simp] theorem oSok_run (i : Int) : oSok (.int i) h = .ok (some i) h := rfl
@[simp] theorem eSl_run (f : Ev) (l u : Eo) : eSl f l u s h = (f s h).bind (sl1 l u s) := rfl
@[simp] theorem sl1_run (l u : Eo) (x : U) : sl1 l u s x h = (l s h).bind (sl2 u s x) := rfl
@[simp] theorem sl2_run (u : Eo) (x : U) (l : Option Int) : sl2 u s x l h = (u s h).bind (vSl x l) := rfl
@[simp] theorem vSl_tup (us : List U) (lo hi : Option Int) : vSl (.tup us) lo hi h = .ok (.tup (cutU us lo hi)) h := rfl
/-! statements -/
@[simp] theorem sNil_run : sNil s h = .nx s h := rfl
@[simp] theorem sSeq_run (f g : Sv) : sSeq f g s h = (f s h).thn g := rfl
@[simp] theorem sBrk_run : sBrk s h = .bk s h := rfl
@[simp] theorem sCnt_run : sCnt s h = .ct s h := rfl
@[simp] theorem sExp_run (f : Ev) : sExp f s h = (f s h).thn s (sExpk s) := rfl
@[simp] theorem sExpk_run (u : U) : sExpk s u h = .nx s h := rfl
@[simp] theorem sRet_run (f : Ev) : sRet f s h = (f s h).thn s SR.rt := rfl
@[simp] theorem sRetN_run : sRetN s h = .rt .non h := rfl
@[simp] theorem sIf_run (c : Eb) (f g : Sv) : sIf c f g s h = (c s h).thn s (brS f g s) := rfl
@[simp] theorem brS_t (f g : Sv) : brS f g s true h = f s h := rfl
@[simp] theorem brS_f (f g : Sv) : brS f g s false h = g s h := rfl
@[simp] theorem gNm_run (i : Nat) (u : U) : gNm i u s h = .nx (s.set i (some u)) h := rfl
@[simp] theorem gIx_run (g : G3) (fo fi : Ev) (u : U) : gIx g fo fi u s h = (fo s h).thn s (gI1 g fi u s) := rfl
@[simp] theorem gI1_run (g : G3) (fi : Ev) (u o : U) : gI1 g fi u s o h = (fi s h).thn s (gI2 g u s o) := rfl
theorem gI2_some {g : G3} {u o i : U} {h' : Hb} (e : g o i u h = some h') : gI2 g u s o i h = .nx s h' := by unfold gI2; rw [e]
@[simp] theorem sAsg_run (f : Ev) (g : Tg) : sAsg f g s h = (f s h).thn s (sAsgk g s) := rfl
@[simp] theorem sAsgk_run (g : Tg) (u : U) : sAsgk g s u h = g u s h := rfl
@[simp] theorem sSet_run (i : Nat) (f : Ev) : sSet i f s h = (f s h).thn s (sSetk i s) := rfl
@[simp] theorem sSetk_run (i : Nat) (u : U) : sSetk i s u h = .nx (s.set i (some u)) h := rfl
@[simp] theorem sPar_run (i j : Nat) (f : Ea) : sPar i j f s h = (f s h).thn s (sPark i j s) := rfl
@[simp] theorem sPark_run (i j : Nat) (x y : U) : sPark i j s [x, y] h = .nx ((s.set i (some x)).set j (some y)) h := rfl
@[simp] theorem sAug_run (i : Nat) (g : G2) (f : Ev) : sAug i g f s h = sAug0 i g f s h s[i]? := rfl
@[simp] theorem sAug0_run (i : Nat) (g : G2) (f : Ev) (x : U) : sAug0 i g f s h (some (some x)) = (f s h).thn s (sAugk i g s x) := rfl
@[simp] theorem sAugk_run (i : Nat) (g : G2) (x y : U) : sAugk i g s x y h = (g x y h).thn s (sSetk i s) := rfl
@[simp] theorem gN_run (g : Tn) (u : U) : gN g u s h = (match g u s with | some s' => .nx s' h | none => .bad) := rfl
@[simp] theorem nNm_run (i : Nat) (u : U) : nNm i u s = some (s.set i (some u)) := rfl
@[simp] theorem nTp_run (n : Nat) (gs : List U → Sg → Option Sg) (us : List U) : nTp n gs (.tup us) s = if us.length = n then gs us s else none := rfl
@[simp] theorem nsNil_run : nsNil [] s = some s := rfl
@[simp] theorem nsCons_run (g : Tn) (gs : List U → Sg → Option Sg) (u : U) (r : List U) : nsCons g gs (u :: r) s = (g u s).bind (gs r) := rfl
@[simp] theorem sFor_run (f : Si) (g : Tg) (b : Sv) : sFor f g b s h = (f s h).thn s (sFork g b s) := rfl
@[simp] theorem sFork_run (g : Tg) (b : Sv) (src : Src) : sFork g b s src h = forL src.ok g b src.xs s h := rfl
@[simp] theorem iSeq_run (f : Ev) : iSeq f s h = (f s h).bind iSeqk := rfl
@[simp] theorem iSeqk_tup (xs : List U) : iSeqk (.tup xs) h = .ok ⟨xs, fun _ => True⟩ h := rfl
theorem iSeqk_lst {a : Nat} {xs : List U} (e : h[a]? = some (.lst xs)) : iSeqk (.ref a) h = .ok ⟨xs, fun h' => h'[a]? = some (.lst xs)⟩ h := by unfold iSeqk srcU; simp [e]
theorem iSeqk_fro {a : Nat} {xs : List U} (e : h[a]? = some (.fro xs)) : iSeqk (.ref a) h = .ok ⟨xs, fun h' => h'[a]? = some (.fro xs)⟩ h := by unfold iSeqk srcU; simp [e]
@[simp] theorem iRg1_run (f : Ea) : iRg1 f s h = (f s h).bind iRg1k := rfl
@[simp] theorem iRg1k_run {j : Int} (e : j < 4611686018427387904) (e0 : -4611686018427387904 ≤ j) : iRg1k [.int j] h = .ok ⟨rgU 0 j.toNat, fun _ => True⟩ h := by
  have hb : big62 j := ⟨e0, e⟩
  unfold iRg1k rgS1
  simp only [if_pos hb]
@[simp] theorem iRg2_run (f : Ea) : iRg2 f s h = (f s h).bind iRg2k := rfl
@[simp] theorem iRg2k_run {i j : Int} (d0 : -4611686018427387904 ≤ i) (d : i < 4611686018427387904) (e0 : -4611686018427387904 ≤ j) (e : j < 4611686018427387904) : iRg2k [.int i, .int j] h = .ok ⟨rgU i (j - i).toNat, fun _ => True⟩ h := by
  have hb : big62 i ∧ big62 j := ⟨⟨d0, d⟩, e0, e⟩
  unfold iRg2k rgS2
  simp only [if_pos hb]
@[simp] theorem iEn_run (f : Ev) : iEn f s h = (f s h).bind iEnk := rfl
@[simp] theorem iZp_run (f : Ea) : iZp f s h = (f s h).bind iZpk := rfl
theorem iZpk_lst {a b : Nat} {xs ys : List U} (e : h[a]? = some (.lst xs)) (e2 : h[b]? = some (.lst ys)) : iZpk [.ref a, .ref b] h = .ok ⟨zpU xs ys, fun h' => h'[a]? = some (.lst xs) ∧ h'[b]? = some (.lst ys)⟩ h := by unfold iZpk zpS; simp [e, e2]
theorem iZpk_mix {a : Nat} {xs ys : List U} (e : h[a]? = some (.lst xs)) : iZpk [.ref a, .tup ys] h = .ok ⟨zpU xs ys, fun h' => h'[a]? = some (.lst xs)⟩ h := by unfold iZpk zpS; simp [e]
theorem iZpk_tup {xs ys : List U} : iZpk [.tup xs, .tup ys] h = .ok ⟨zpU xs ys, fun _ => True⟩ h := rfl
theorem iEnk_lst {a : Nat} {xs : List U} (e : h[a]? = some (.lst xs)) : iEnk (.ref a) h = .ok ⟨enU xs, fun h' => h'[a]? = some (.lst xs)⟩ h := by unfold iEnk; simp [e]
@[simp] theorem eLc_run (fi : Si) (g : Tn) (own : List Nat) (tt : Eb) (fe : Ev) : eLc fi g own tt fe s h = (fi s h).bind (lcK g own tt fe s) := rfl
@[simp] theorem bYes_run : bYes s h = .ok true h := rfl
/-! values -/
theorem vIx_tup {xs : List U} {i : Int} {u : U} (e : L2.atI xs i = some u) : vIx (.tup xs) (.int i) h = .ok u h := by unfold vIx seqU; simp [e]
theorem vIx_lst {a : Nat} {xs : List U} {i : Int} {u : U} (q : h[a]? = some (.lst xs)) (e : L2.atI xs i = some u) : vIx (.ref a) (.int i) h = .ok u h := by unfold vIx seqU; simp [e, q]
theorem atI_of_nat {α : Type} {xs : List α} {k : Nat} {u : α} (e : xs[k]? = some u) : L2.atI xs (k : Int) = some u := atI_nat e
@[simp] theorem vIx_tup0 (x : U) (r : List U) : vIx (.tup (x :: r)) (.int 0) h = .ok x h := vIx_tup (atI_nat (j := 0) rfl)
@[simp] theorem vIx_tup1 (x y : U) (r : List U) : vIx (.tup (x :: y :: r)) (.int 1) h = .ok y h := vIx_tup (atI_nat (j := 1) rfl)
@[simp] theorem vIx_tup2 (x y z : U) (r : List U) : vIx (.tup (x :: y :: z :: r)) (.int 2) h = .ok z h := vIx_tup (atI_nat (j := 2) rfl)
@[simp] theorem cLen_tup (xs : List U) : cLen [.tup xs] h = .ok (.int xs.length) h := rfl
theorem cLen_lst {a : Nat} {xs : List U} (e : h[a]? = some (.lst xs)) : cLen [.ref a] h = .ok (.int xs.length) h := by unfold cLen seqU; simp [e]
theorem cLst_lst {a : Nat} {xs : List U} (e : h[a]? = some (.lst xs)) : cLst [.ref a] h = .ok (.ref h.length) (h ++ [.lst xs]) := by unfold cLst seqU; simp [e]
@[simp] theorem cLst_tup (xs : List U) : cLst [.tup xs] h = .ok (.ref h.length) (h ++ [.lst xs]) := rfl
theorem cTup_lst {a : Nat} {xs : List U} (e : h[a]? = some (.lst xs)) : cTup [.ref a] h = .ok (.tup xs) h := by unfold cTup lstU; simp [e]
theorem pIx_run {a : Nat} {xs : List U} {i : Int} {j : Nat} {u : U} (q : h[a]? = some (.lst xs)) (e : ixN xs.length i = some j) : pIx (.ref a) (.int i) u h = some (h.set a (.lst (xs.set j u))) := by unfold pIx; simp [q, e]
theorem mAppend_run {a : Nat} {xs : List U} {y : U} (q : h[a]? = some (.lst xs)) (e : xs.length ≤ 10000000) : mAppend (.ref a) [y] h = .ok .non (h.set a (.lst (xs ++ [y]))) := by unfold mAppend; simp [q, small_line' e]
@[simp] theorem isi_tup_tup (xs : List U) : isiU "tuple" (.tup xs) h = .ok (.bl true) h := rfl
@[simp] theorem isi_tup_int (i : Int) : isiU "tuple" (.int i) h = .ok (.bl false) h := rfl
@[simp] theorem isi_tup_bl (i : Bool) : isiU "tuple" (.bl i) h = .ok (.bl false) h := rfl
@[simp] theorem isi_tup_str (i : Str) : isiU "tuple" (.str i) h = .ok (.bl false) h := rfl
@[simp] theorem isi_tup_non : isiU "tuple" .non h = .ok (.bl false) h := rfl
@[simp] theorem isi_lst_tup (xs : List U) : isiU "list" (.tup xs) h = .ok (.bl false) h := rfl
@[simp] theorem isi_lst_int (i : Int) : isiU "list" (.int i) h = .ok (.bl false) h := rfl
@[simp] theorem isi_lst_bl (i : Bool) : isiU "list" (.bl i) h = .ok (.bl false) h := rfl
@[simp] theorem isi_lst_str (i : Str) : isiU "list" (.str i) h = .ok (.bl false) h := rfl
@[simp] theorem isi_lst_non : isiU "list" .non h = .ok (.bl false) h := rfl
theorem isi_tup_ref {a : Nat} {xs : List U} (e : h[a]? = some (.lst xs)) : isiU "tuple" (.ref a) h = .ok (.bl false) h := by unfold isiU tyU; simp [e]; rfl
theorem isi_lst_ref {a : Nat} {xs : List U} (e : h[a]? = some (.lst xs)) : isiU "list" (.ref a) h = .ok (.bl true) h := by unfold isiU tyU; simp [e]; rfl
@[simp] theorem isi_bl_tup (xs : List U) : isiU "bool" (.tup xs) h = .ok (.bl false) h := rfl
@[simp] theorem isi_bl_int (i : Int) : isiU "bool" (.int i) h = .ok (.bl false) h := rfl
@[simp] theorem isi_bl_bl (i : Bool) : isiU "bool" (.bl i) h = .ok (.bl true) h := rfl
@[simp] theorem isi_bl_str (i : Str) : isiU "bool" (.str i) h = .ok (.bl false) h := rfl
@[simp] theorem isi_bl_non : isiU "bool" .non h = .ok (.bl false) h := rfl
@[simp] theorem isi_str_tup (xs : List U) : isiU "str" (.tup xs) h = .ok (.bl false) h := rfl
@[simp] theorem isi_str_int (i : Int) : isiU "str" (.int i) h = .ok (.bl false) h := rfl
@[simp] theorem isi_str_bl (i : Bool) : isiU "str" (.bl i) h = .ok (.bl false) h := rfl
@[simp] theorem isi_str_str (i : Str) : isiU "str" (.str i) h = .ok (.bl true) h := rfl
@[simp] theorem isi_str_non : isiU "str" .non h = .ok (.bl false) h := rfl
@[simp] theorem isi_int_tup (xs : List U) : isiU "int" (.tup xs) h = .ok (.bl false) h := rfl
@[simp] theorem isi_int_int (i : Int) : isiU "int" (.int i) h = .ok (.bl true) h := rfl
@[simp] theorem isi_int_bl (i : Bool) : isiU "int" (.bl i) h = .ok (.bl true) h := rfl
@[simp] theorem isi_int_str (i : Str) : isiU "int" (.str i) h = .ok (.bl false) h := rfl
@[simp] theorem isi_int_non : isiU "int" .non h = .ok (.bl false) h := rfl
end
/-! ### loops by an invariant -/
/-- what is wanted of a statement's end -/
structure Wants where
  nx : Sg → Hb → Prop
  rt : U → Hb → Prop := fun _ _ => False
  bk : Sg → Hb → Prop := fun _ _ => False
  ct : Sg → Hb → Prop := fun _ _ => False
@[irreducible] def SR.is (r : SR) (D : Wants) : Prop := match r with
  | .nx s h => D.nx s h
  | .rt u h => D.rt u h
  | .bk s h => D.bk s h
  | .ct s h => D.ct s h
  | _ => False
@[simp] theorem is_nx (s : Sg) (h : Hb) (D : Wants) : (SR.nx s h).is D ↔ D.nx s h := by unfold SR.is; exact Iff.rfl
@[simp] theorem is_rt (u : U) (h : Hb) (D : Wants) : (SR.rt u h).is D ↔ D.rt u h := by unfold SR.is; exact Iff.rfl
@[simp] theorem is_bk (s : Sg) (h : Hb) (D : Wants) : (SR.bk s h).is D ↔ D.bk s h := by unfold SR.is; exact Iff.rfl
@[simp] theorem is_ct (s : Sg) (h : Hb) (D : Wants) : (SR.ct s h).is D ↔ D.ct s h := by unfold SR.is; exact Iff.rfl
@[simp] theorem is_ex (x : Ex) (s : Sg) (h : Hb) (D : Wants) : ¬ (SR.ex x s h).is D := by unfold SR.is; exact id
@[simp] theorem is_bad (D : Wants) : ¬ SR.bad.is D := by unfold SR.is; exact id
theorem is_thn {r : SR} {k : Sg → Hb → SR} {D : Wants} (q : r.is { D with nx := fun s h => (k s h).is D }) : (r.thn k).is D := by
  cases r with
  | nx s h => exact (is_nx _ _ _).mp q
  | rt u h => rw [is_rt] at q; exact (is_rt _ _ D).mpr q
  | bk s h => rw [is_bk] at q; exact (is_bk _ _ D).mpr q
  | ct s h => rw [is_ct] at q; exact (is_ct _ _ D).mpr q
  | ex x s h => exact (is_ex _ _ _ _ q).elim
  | bad => exact (is_bad _ q).elim
theorem is_mono {r : SR} {D D' : Wants} (q : r.is D) (h1 : ∀ s h, D.nx s h → D'.nx s h) (h2 : ∀ s h, D.rt s h → D'.rt s h) (h3 : ∀ s h, D.bk s h → D'.bk s h) (h4 : ∀ s h, D.ct s h → D'.ct s h) : r.is D' := by
  cases r with
  | nx s h => exact (is_nx _ _ _).mpr (h1 _ _ ((is_nx _ _ _).mp q))
  | rt u h => exact (is_rt _ _ _).mpr (h2 _ _ ((is_rt _ _ _).mp q))
  | bk s h => exact (is_bk _ _ _).mpr (h3 _ _ ((is_bk _ _ _).mp q))
  | ct s h => exact (is_ct _ _ _).mpr (h4 _ _ ((is_ct _ _ _).mp q))
  | ex x s h => exact (is_ex _ _ _ _ q).elim
  | bad => exact (is_bad _ q).elim
/-- a for loop: I by the turn, the slots, the heap -/
theorem for_inv {ok : Hb → Prop} {g : Tg} {b : Sv} {xs : List U} {D : Wants} (I : Nat → Sg → Hb → Prop) (hok : ∀ i s h, i ≤ xs.length → I i s h → ok h)
    (turn : ∀ i x s h, xs[i]? = some x → I i s h → ((g x s h).thn b).is { nx := I (i + 1), ct := I (i + 1), bk := D.nx, rt := D.rt }) (fin : ∀ s h, I xs.length s h → D.nx s h) :
    ∀ {s : Sg} {h : Hb}, I 0 s h → (forL ok g b xs s h).is D := by
  have key : ∀ (n i : Nat) (s : Sg) (h : Hb), i + n = xs.length → I i s h → (forL ok g b (xs.drop i) s h).is D := by
    intro n
    induction n with
    | zero =>
      intro i s h e hi
      have : xs.drop i = [] := List.drop_eq_nil_of_le (by omega)
      rw [this]
      unfold forL
      rw [if_pos (hok i s h (by omega) hi)]
      have ei : i = xs.length := by omega
      subst ei
      exact (is_nx _ _ _).mpr (fin s h hi)
    | succ n ih =>
      intro i s h e hi
      have lt : i < xs.length := by omega
      rw [List.drop_eq_getElem_cons lt]
      unfold forL
      rw [if_pos (hok i s h (by omega) hi)]
      have t := turn i xs[i] s h (List.getElem?_eq_getElem lt) hi
      cases q : (g xs[i] s h).thn b with
      | nx s2 h2 => rw [q, is_nx] at t; exact ih (i + 1) s2 h2 (by omega) t
      | ct s2 h2 => rw [q, is_ct] at t; exact ih (i + 1) s2 h2 (by omega) t
      | bk s2 h2 => rw [q, is_bk] at t; exact (is_nx _ _ D).mpr t
      | rt u h2 => rw [q, is_rt] at t; exact (is_rt _ _ D).mpr t
      | ex x s2 h2 => rw [q] at t; exact (is_ex _ _ _ _ t).elim
      | bad => rw [q] at t; exact (is_bad _ t).elim
  intro s h h0
  have := key xs.length 0 s h (by omega) h0
  rwa [List.drop_zero] at this
/-- a while loop: I and a measure -/
theorem while_inv {c : Eb} {b : Sv} {D : Wants} (I : Sg → Hb → Prop) (μ : Sg → Hb → Nat)
    (turn : ∀ s h, I s h → ∃ k h1, c s h = .ok k h1 ∧ (k = false → D.nx s h1) ∧ (k = true → (b s h1).is { nx := fun s2 h2 => I s2 h2 ∧ μ s2 h2 < μ s h, ct := fun s2 h2 => I s2 h2 ∧ μ s2 h2 < μ s h, bk := D.nx, rt := D.rt })) :
    ∀ {s : Sg} {h : Hb}, I s h → (sWhile c b s h).is D := by
  have key : ∀ (n : Nat) (s : Sg) (h : Hb), μ s h ≤ n → I s h → ∃ r, whileN c b (n + 1) s h = some r ∧ r.is D := by
    intro n
    induction n with
    | zero =>
      intro s h hn hi
      obtain ⟨k, h1, e, hf, ht⟩ := turn s h hi
      unfold whileN
      rw [e]
      cases k with
      | false => exact ⟨_, rfl, (is_nx _ _ _).mpr (hf rfl)⟩
      | true =>
        have t := ht rfl
        simp only []
        cases q : b s h1 with
        | nx s2 h2 => rw [q, is_nx] at t; have t2 : μ s2 h2 < μ s h := t.2; omega
        | ct s2 h2 => rw [q, is_ct] at t; have t2 : μ s2 h2 < μ s h := t.2; omega
        | bk s2 h2 => rw [q, is_bk] at t; exact ⟨_, rfl, (is_nx _ _ _).mpr t⟩
        | rt u h2 => rw [q, is_rt] at t; exact ⟨_, rfl, (is_rt _ _ _).mpr t⟩
        | ex x s2 h2 => rw [q] at t; exact (is_ex _ _ _ _ t).elim
        | bad => rw [q] at t; exact (is_bad _ t).elim
    | succ n ih =>
      intro s h hn hi
      obtain ⟨k, h1, e, hf, ht⟩ := turn s h hi
      unfold whileN
      rw [e]
      cases k with
      | false => exact ⟨_, rfl, (is_nx _ _ _).mpr (hf rfl)⟩
      | true =>
        have t := ht rfl
        simp only []
        cases q : b s h1 with
        | nx s2 h2 => rw [q, is_nx] at t; have t2 : μ s2 h2 < μ s h := t.2; exact ih s2 h2 (by omega) t.1
        | ct s2 h2 => rw [q, is_ct] at t; have t2 : μ s2 h2 < μ s h := t.2; exact ih s2 h2 (by omega) t.1
        | bk s2 h2 => rw [q, is_bk] at t; exact ⟨_, rfl, (is_nx _ _ _).mpr t⟩
        | rt u h2 => rw [q, is_rt] at t; exact ⟨_, rfl, (is_rt _ _ _).mpr t⟩
        | ex x s2 h2 => rw [q] at t; exact (is_ex _ _ _ _ t).elim
        | bad => rw [q] at t; exact (is_bad _ t).elim
  intro s h hi
  obtain ⟨r, e, q⟩ := key (μ s h) s h (Nat.le_refl _) hi
  rw [sWhile_of e]
  exact q
@[irreducible] def Res.is {α : Type} (r : Res α) (Q : α → Hb → Prop) : Prop := match r with
  | .ok a h => Q a h
  | _ => False
@[simp] theorem ris_ok {α : Type} (a : α) (h : Hb) (Q : α → Hb → Prop) : (Res.ok a h).is Q ↔ Q a h := by unfold Res.is; exact Iff.rfl
@[simp] theorem ris_exc {α : Type} (x : Ex) (h : Hb) (Q : α → Hb → Prop) : ¬ (Res.ex x h : Res α).is Q := by unfold Res.is; exact id
@[simp] theorem ris_bad {α : Type} (Q : α → Hb → Prop) : ¬ (Res.bad : Res α).is Q := by unfold Res.is; exact id
theorem ris_bind {α β : Type} {r : Res α} {k : α → Hb → Res β} {Q : β → Hb → Prop} (q : r.is fun a h => (k a h).is Q) : (r.bind k).is Q := by
  cases r with
  | ok a h => exact (ris_ok _ _ _).mp q
  | ex x h => exact (ris_exc _ _ _ q).elim
  | bad => exact (ris_bad _ q).elim
theorem ris_thn {α : Type} {r : Res α} {s : Sg} {k : α → Hb → SR} {D : Wants} (q : r.is fun a h => (k a h).is D) : (r.thn s k).is D := by
  cases r with
  | ok a h => exact (ris_ok _ _ _).mp q
  | ex x h => exact (ris_exc _ _ _ q).elim
  | bad => exact (ris_bad _ q).elim
theorem ris_out {r : SR} {Q : U → Hb → Prop} (q : r.is { nx := fun _ h => Q .non h, rt := Q }) : r.out.is Q := by
  cases r with
  | nx s h => exact (ris_ok _ _ _).mpr ((is_nx _ _ _).mp q)
  | rt u h => exact (ris_ok _ _ _).mpr ((is_rt _ _ _).mp q)
  | bk s h => exact ((is_bk _ _ _).mp q).elim
  | ct s h => exact ((is_ct _ _ _).mp q).elim
  | ex x s h => exact (is_ex _ _ _ _ q).elim
  | bad => exact (is_bad _ q).elim
theorem ris_mono {α : Type} {r : Res α} {Q Q' : α → Hb → Prop} (q : r.is Q) (m : ∀ a h, Q a h → Q' a h) : r.is Q' := by
  cases r with
  | ok a h => exact (ris_ok _ _ _).mpr (m a h ((ris_ok _ _ _).mp q))
  | ex x h => exact (ris_exc _ _ _ q).elim
  | bad => exact (ris_bad _ q).elim
theorem ris_ex {α : Type} {r : Res α} {Q : α → Hb → Prop} (q : r.is Q) : ∃ a h, r = .ok a h ∧ Q a h := by
  cases r with
  | ok a h => exact ⟨a, h, rfl, (ris_ok _ _ _).mp q⟩
  | ex x h => exact (ris_exc _ _ _ q).elim
  | bad => exact (ris_bad _ q).elim
theorem ris_of {α : Type} {r : Res α} {Q : α → Hb → Prop} {a : α} {h : Hb} (e : r = .ok a h) (q : Q a h) : r.is Q := by rw [e]; exact (ris_ok _ _ _).mpr q
/-- a comprehension: I by the turn, the list so far, the heap (at D stands the list so far) -/
theorem lc_inv {ok : Hb → Prop} {g : Tn} {own : List Nat} {tt : Eb} {fe : Ev} {D : Nat} {s : Sg} {xs : List U} {Q : Unit → Hb → Prop} (I : Nat → List U → Hb → Prop) (hok : ∀ i acc h, i ≤ xs.length → I i acc h → ok h)
    (hD : ∀ i acc h, I i acc h → h[D]? = some (.lst acc))
    (turn : ∀ i x acc h, xs[i]? = some x → I i acc h → ∃ s2, g x (wipeG s own) = some s2 ∧ (tt s2 h).is fun b h1 => if b = true then (fe s2 h1).is fun y h2 => h2[D]? = some (.lst acc) ∧ acc.length ≤ 10000000 ∧ I (i + 1) (acc ++ [y]) (h2.set D (.lst (acc ++ [y]))) else I (i + 1) acc h1)
    (fin : ∀ acc h, I xs.length acc h → Q () h) : ∀ {h : Hb}, I 0 [] h → (lcL ok g own tt fe D s xs h).is Q := by
  have key : ∀ (n i : Nat) (acc : List U) (h : Hb), i + n = xs.length → I i acc h → (lcL ok g own tt fe D s (xs.drop i) h).is Q := by
    intro n
    induction n with
    | zero =>
      intro i acc h e hi
      have : xs.drop i = [] := List.drop_eq_nil_of_le (by omega)
      rw [this]
      unfold lcL
      rw [if_pos (hok i acc h (by omega) hi)]
      have ei : i = xs.length := by omega
      subst ei
      exact (ris_ok _ _ _).mpr (fin acc h hi)
    | succ n ih =>
      intro i acc h e hi
      have lt : i < xs.length := by omega
      rw [List.drop_eq_getElem_cons lt]
      unfold lcL
      rw [if_pos (hok i acc h (by omega) hi)]
      obtain ⟨s2, eg, t⟩ := turn i xs[i] acc h (List.getElem?_eq_getElem lt) hi
      rw [eg]
      unfold lcT
      simp only []
      cases q : tt s2 h with
      | ex x h1 => rw [q] at t; exact (ris_exc _ _ _ t).elim
      | bad => rw [q] at t; exact (ris_bad _ t).elim
      | ok b h1 =>
        rw [q, ris_ok] at t
        simp only [calm_ok, bind_ok]
        have t : (if b = true then (fe s2 h1).is fun y h2 => h2[D]? = some (.lst acc) ∧ acc.length ≤ 10000000 ∧ I (i + 1) (acc ++ [y]) (h2.set D (.lst (acc ++ [y]))) else I (i + 1) acc h1) := t
        cases b with
        | false =>
          rw [if_neg Bool.false_ne_true] at t
          exact ih (i + 1) acc h1 (by omega) t
        | true =>
          rw [if_pos rfl] at t
          unfold lcB
          simp only []
          cases q2 : fe s2 h1 with
          | ex x h2 => rw [q2] at t; exact (ris_exc _ _ _ t).elim
          | bad => rw [q2] at t; exact (ris_bad _ t).elim
          | ok y h2 =>
            rw [q2, ris_ok] at t
            obtain ⟨t1, t2, t3⟩ := t
            simp only [calm_ok, bind_ok, lcA, t1]
            rw [if_pos (small_line' t2)]
            exact ih (i + 1) _ _ (by omega) t3
  intro h h0
  have := key xs.length 0 [] h (by omega) h0
  rwa [List.drop_zero] at this
end Lz
namespace Lz
open PySem PySem.Spec PyProof.Rows L2

/-! # values without a heap
P: what is only read (a frozen list, a frozen instance too); W: what may be owned. -/
inductive P where
  | non | bl (b : Bool) | int (i : Int) | str (x : Str) | tup (xs : List P) | fz (xs : List P) | fr (xs : List P) | fin (c : Nat) (ns : List Str) (xs : List P)
inductive W where
  | im (p : P) | lst (ws : List W) | tw (ws : List W) | ins (c : Nat) (ns : List Str) (ws : List W)
instance : Inhabited P := ⟨.non⟩
instance : Inhabited W := ⟨.im .non⟩
abbrev St := Nat → Prop
def Sub (F G : St) : Prop := ∀ a, F a → G a
def Dis (F G : St) : Prop := ∀ a, F a → ¬ G a
def Un (F G : St) : St := fun a => F a ∨ G a
def No : St := fun _ => False
theorem Dis.symm {F G : St} (d : Dis F G) : Dis G F := fun a g f => d a f g

mutual
def RP (h : Hb) (Z : St) : P → U → Prop
  | .non, u => u = .non
  | .bl b, u => u = .bl b
  | .int i, u => u = .int i
  | .str x, u => u = .str x
  | .tup ps, u => ∃ us, u = .tup us ∧ RPs h Z ps us
  | .fz ps, u => ∃ a us, u = .ref a ∧ Z a ∧ h[a]? = some (.lst us) ∧ RPs h Z ps us
  | .fr ps, u => ∃ a us, u = .ref a ∧ Z a ∧ h[a]? = some (.fro us) ∧ RPs h Z ps us
  | .fin c ns ps, u => ∃ a fs, u = .ref a ∧ Z a ∧ h[a]? = some (.ins c fs) ∧ fs.map (·.1) = ns ∧ RPs h Z ps (fs.map (·.2))
def RPs (h : Hb) (Z : St) : List P → List U → Prop
  | [], us => us = []
  | p :: ps, us => ∃ u r, us = u :: r ∧ RP h Z p u ∧ RPs h Z ps r
end
mutual
def RW (h : Hb) (Z : St) : W → U → St → Prop
  | .im p, u, _ => RP h Z p u
  | .lst ws, u, F => ∃ a us G, u = .ref a ∧ h[a]? = some (.lst us) ∧ F a ∧ ¬ G a ∧ Sub G F ∧ RWs h Z ws us G
  | .tw ws, u, F => ∃ us, u = .tup us ∧ RWs h Z ws us F
  | .ins c ns ws, u, F => ∃ a fs G, u = .ref a ∧ h[a]? = some (.ins c fs) ∧ F a ∧ ¬ G a ∧ Sub G F ∧ fs.map (·.1) = ns ∧ RWs h Z ws (fs.map (·.2)) G
def RWs (h : Hb) (Z : St) : List W → List U → St → Prop
  | [], us, _ => us = []
  | w :: ws, us, F => ∃ u r F1 F2, us = u :: r ∧ Dis F1 F2 ∧ Sub F1 F ∧ Sub F2 F ∧ RW h Z w u F1 ∧ RWs h Z ws r F2
end
section
variable {h h' : Hb} {Z Z' F G : St}
/-- what stands on X in h stands in h' -/
def Keep (h h' : Hb) (X : St) : Prop := ∀ a, X a → h'[a]? = h[a]?
theorem Keep.sub {X Y : St} (k : Keep h h' X) (s : Sub Y X) : Keep h h' Y := fun a y => k a (s a y)
mutual
theorem RP.frame (kz : Keep h h' Z) (zz : Sub Z Z') : ∀ (p : P) {u : U}, RP h Z p u → RP h' Z' p u
  | .non, _, r => by unfold RP at r ⊢; exact r
  | .bl _, _, r => by unfold RP at r ⊢; exact r
  | .int _, _, r => by unfold RP at r ⊢; exact r
  | .str _, _, r => by unfold RP at r ⊢; exact r
  | .tup ps, _, r => by
    unfold RP at r ⊢
    obtain ⟨us, rfl, q⟩ := r
    exact ⟨us, rfl, RPs.frame kz zz ps q⟩
  | .fz ps, _, r => by
    unfold RP at r ⊢
    obtain ⟨a, us, rfl, z, e, q⟩ := r
    exact ⟨a, us, rfl, zz a z, by rw [kz a z]; exact e, RPs.frame kz zz ps q⟩
  | .fr ps, _, r => by
    unfold RP at r ⊢
    obtain ⟨a, us, rfl, z, e, q⟩ := r
    exact ⟨a, us, rfl, zz a z, by rw [kz a z]; exact e, RPs.frame kz zz ps q⟩
  | .fin c ns ps, _, r => by
    unfold RP at r ⊢
    obtain ⟨a, fs, rfl, z, e, n, q⟩ := r
    exact ⟨a, fs, rfl, zz a z, by rw [kz a z]; exact e, n, RPs.frame kz zz ps q⟩
theorem RPs.frame (kz : Keep h h' Z) (zz : Sub Z Z') : ∀ (ps : List P) {us : List U}, RPs h Z ps us → RPs h' Z' ps us
  | [], _, r => by unfold RPs at r ⊢; exact r
  | p :: ps, _, r => by
    unfold RPs at r ⊢
    obtain ⟨u, q, rfl, a, b⟩ := r
    exact ⟨u, q, rfl, RP.frame kz zz p a, RPs.frame kz zz ps b⟩
end
mutual
theorem RW.frame (kz : Keep h h' Z) (zz : Sub Z Z') : ∀ (w : W) {u : U} {F G : St}, Keep h h' F → Sub F G → RW h Z w u F → RW h' Z' w u G
  | .im p, _, _, _, _, _, r => by unfold RW at r ⊢; exact RP.frame kz zz p r
  | .lst ws, _, F, G, k, s, r => by
    unfold RW at r ⊢
    obtain ⟨a, us, X, rfl, e, fa, nx, sx, q⟩ := r
    exact ⟨a, us, X, rfl, by rw [k a fa]; exact e, s a fa, nx, fun b xb => s b (sx b xb), RWs.frame kz zz ws (k.sub sx) (fun _ x => x) q⟩
  | .tw ws, _, F, G, k, s, r => by
    unfold RW at r ⊢
    obtain ⟨us, rfl, q⟩ := r
    exact ⟨us, rfl, RWs.frame kz zz ws k s q⟩
  | .ins c ns ws, _, F, G, k, s, r => by
    unfold RW at r ⊢
    obtain ⟨a, us, X, rfl, e, fa, nx, sx, n, q⟩ := r
    exact ⟨a, us, X, rfl, by rw [k a fa]; exact e, s a fa, nx, fun b xb => s b (sx b xb), n, RWs.frame kz zz ws (k.sub sx) (fun _ x => x) q⟩
theorem RWs.frame (kz : Keep h h' Z) (zz : Sub Z Z') : ∀ (ws : List W) {us : List U} {F G : St}, Keep h h' F → Sub F G → RWs h Z ws us F → RWs h' Z' ws us G
  | [], _, _, _, _, _, r => by unfold RWs at r ⊢; exact r
  | w :: ws, _, F, G, k, s, r => by
    unfold RWs at r ⊢
    obtain ⟨u, q, F1, F2, rfl, d, s1, s2, a, b⟩ := r
    exact ⟨u, q, F1, F2, rfl, d, fun x y => s x (s1 x y), fun x y => s x (s2 x y), RW.frame kz zz w (k.sub s1) (fun _ x => x) a, RWs.frame kz zz ws (k.sub s2) (fun _ x => x) b⟩
end
theorem Keep.refl (h : Hb) (X : St) : Keep h h X := fun _ _ => rfl
theorem Sub.refl (F : St) : Sub F F := fun _ x => x
theorem RW.mono {w : W} {u : U} (r : RW h Z w u F) (s : Sub F G) : RW h Z w u G := RW.frame (.refl h Z) (.refl Z) w (.refl h F) s r
theorem RWs.mono {w : List W} {u : List U} (r : RWs h Z w u F) (s : Sub F G) : RWs h Z w u G := RWs.frame (.refl h Z) (.refl Z) w (.refl h F) s r
theorem RWs.nil : RWs h Z [] [] F := by unfold RWs; rfl
theorem RWs.cons {w : W} {ws : List W} {u : U} {us : List U} {F1 F2 : St} (d : Dis F1 F2) (a : RW h Z w u F1) (b : RWs h Z ws us F2) : RWs h Z (w :: ws) (u :: us) (Un F1 F2) := by
  unfold RWs
  exact ⟨u, us, F1, F2, rfl, d, fun _ => .inl, fun _ => .inr, a, b⟩
theorem RWs.nil_inv {us : List U} (r : RWs h Z [] us F) : us = [] := by unfold RWs at r; exact r
theorem RWs.cons_inv {w : W} {ws : List W} {us : List U} (r : RWs h Z (w :: ws) us F) : ∃ u r F1 F2, us = u :: r ∧ Dis F1 F2 ∧ Sub F1 F ∧ Sub F2 F ∧ RW h Z w u F1 ∧ RWs h Z ws r F2 := by unfold RWs at r; exact r
theorem RPs.nil_inv {us : List U} (r : RPs h Z [] us) : us = [] := by unfold RPs at r; exact r
theorem RPs.cons_inv {w : P} {ws : List P} {us : List U} (r : RPs h Z (w :: ws) us) : ∃ u r, us = u :: r ∧ RP h Z w u ∧ RPs h Z ws r := by unfold RPs at r; exact r
theorem RPs.nil : RPs h Z [] [] := by unfold RPs; rfl
theorem RPs.cons {w : P} {ws : List P} {u : U} {us : List U} (a : RP h Z w u) (b : RPs h Z ws us) : RPs h Z (w :: ws) (u :: us) := by unfold RPs; exact ⟨u, us, rfl, a, b⟩
theorem RPs.length : ∀ {ps : List P} {us : List U}, RPs h Z ps us → ps.length = us.length
  | [], us, r => by rw [r.nil_inv]; rfl
  | p :: ps, us, r => by obtain ⟨u, q, rfl, a, b⟩ := r.cons_inv; simp [b.length]
theorem RWs.length : ∀ {ws : List W} {us : List U} {F : St}, RWs h Z ws us F → ws.length = us.length
  | [], us, _, r => by rw [r.nil_inv]; rfl
  | p :: ps, us, _, r => by obtain ⟨u, q, F1, F2, rfl, d, s1, s2, a, b⟩ := r.cons_inv; simp [b.length]
/-- items that are read -/
theorem RPs.ws : ∀ {ps : List P} {us : List U}, RPs h Z ps us → RWs h Z (ps.map .im) us No
  | [], us, r => by rw [r.nil_inv]; exact .nil
  | p :: ps, us, r => by
    obtain ⟨u, q, rfl, a, b⟩ := r.cons_inv
    have := RWs.cons (F1 := No) (F2 := No) (fun _ x => x.elim) (show RW h Z (.im p) u No by unfold RW; exact a) b.ws
    exact this.mono fun _ x => x.elim id id
theorem RWs.get : ∀ {ws : List W} {us : List U} {F : St} {i : Nat} {w : W}, RWs h Z ws us F → ws[i]? = some w → ∃ u, us[i]? = some u ∧ RW h Z w u F
  | [], _, _, _, _, _, e => by simp at e
  | w :: ws, us, F, 0, x, r, e => by
    obtain ⟨u, q, F1, F2, rfl, d, s1, s2, a, b⟩ := r.cons_inv
    simp at e; subst e
    exact ⟨u, rfl, a.mono s1⟩
  | w :: ws, us, F, i + 1, x, r, e => by
    obtain ⟨u, q, F1, F2, rfl, d, s1, s2, a, b⟩ := r.cons_inv
    obtain ⟨v, h1, h2⟩ := RWs.get (i := i) b (by simpa using e)
    exact ⟨v, by simpa using h1, h2.mono s2⟩
/-- out of the items one, and back -/
theorem RWs.wand : ∀ {ws : List W} {us : List U} {F : St} {i : Nat} {w : W}, RWs h Z ws us F → ws[i]? = some w → ∃ u F1 Fr, us[i]? = some u ∧ Dis F1 Fr ∧ Sub F1 F ∧ Sub Fr F ∧ RW h Z w u F1 ∧
    ∀ (h' : Hb) (Z' G : St) (w' : W) (u' : U), Keep h h' Z → Sub Z Z' → Keep h h' Fr → Dis G Fr → RW h' Z' w' u' G → RWs h' Z' (ws.set i w') (us.set i u') (Un G Fr)
  | [], _, _, _, _, _, e => by simp at e
  | w :: ws, us, F, 0, x, r, e => by
    obtain ⟨u, q, F1, F2, rfl, d, s1, s2, a, b⟩ := r.cons_inv
    simp at e; subst e
    refine ⟨u, F1, F2, rfl, d, s1, s2, a, fun h' Z' G w' u' kz zz kf dg rw' => ?_⟩
    exact RWs.cons dg rw' (RWs.frame kz zz ws kf (.refl _) b)
  | w :: ws, us, F, i + 1, x, r, e => by
    obtain ⟨u, q, F1, F2, rfl, d, s1, s2, a, b⟩ := r.cons_inv
    obtain ⟨v, X, Y, h1, dx, sx, sy, h2, k⟩ := RWs.wand (i := i) b (by simpa using e)
    refine ⟨v, X, Un F1 Y, by simpa using h1, fun c xc z => ?_, fun c xc => s2 c (sx c xc), fun c xc => xc.elim (s1 c) fun y => s2 c (sy c y), h2, fun h' Z' G w' u' kz zz kf dg rw' => ?_⟩
    · rcases z with z | z
      · exact d c z (sx c xc)
      · exact dx c xc z
    · have k2 := k h' Z' G w' u' kz zz (kf.sub fun _ => .inr) (fun c gc yc => dg c gc (.inr yc)) rw'
      have := RWs.cons (F1 := F1) (F2 := Un G Y) (fun c fc z => z.elim (fun g => dg c g (.inl fc)) fun y => d c fc (sy c y)) (RW.frame kz zz w (kf.sub fun _ => .inl) (.refl _) a) k2
      simp only [List.set_cons_succ]
      exact this.mono fun c z => z.elim (fun f => .inr (.inl f)) fun z => z.elim .inl fun y => .inr (.inr y)
theorem RWs.append : ∀ {ws xs : List W} {us ys : List U} {F G : St}, Dis F G → RWs h Z ws us F → RWs h Z xs ys G → RWs h Z (ws ++ xs) (us ++ ys) (Un F G)
  | [], xs, us, ys, F, G, d, r, q => by rw [r.nil_inv]; exact q.mono fun _ => .inr
  | w :: ws, xs, us, ys, F, G, d, r, q => by
    obtain ⟨u, q2, F1, F2, rfl, d2, s1, s2, a, b⟩ := r.cons_inv
    have := RWs.cons (F1 := F1) (F2 := Un F2 G) (fun c fc z => z.elim (d2 c fc) (d c (s1 c fc))) a (RWs.append (fun c x => d c (s2 c x)) b q)
    exact this.mono fun c z => z.elim (fun x => .inl (s1 c x)) fun z => z.elim (fun x => .inl (s2 c x)) .inr
theorem RWs.drop : ∀ {ws : List W} {us : List U} {F : St} (n : Nat), RWs h Z ws us F → RWs h Z (ws.drop n) (us.drop n) F
  | [], us, F, n, r => by rw [r.nil_inv]; simpa using RWs.nil
  | w :: ws, us, F, 0, r => r
  | w :: ws, us, F, n + 1, r => by
    obtain ⟨u, q2, F1, F2, rfl, d2, s1, s2, a, b⟩ := r.cons_inv
    exact (RWs.drop n b).mono s2
theorem RWs.take : ∀ {ws : List W} {us : List U} {F : St} (n : Nat), RWs h Z ws us F → RWs h Z (ws.take n) (us.take n) F
  | [], us, F, n, r => by rw [r.nil_inv]; simpa using RWs.nil
  | w :: ws, us, F, 0, r => by simpa using RWs.nil
  | w :: ws, us, F, n + 1, r => by
    obtain ⟨u, q2, F1, F2, rfl, d2, s1, s2, a, b⟩ := r.cons_inv
    exact (RWs.cons d2 a (RWs.take n b)).mono fun c z => z.elim (s1 c) (s2 c)
theorem RWs.reverse : ∀ {ws : List W} {us : List U} {F : St}, RWs h Z ws us F → RWs h Z ws.reverse us.reverse F
  | [], us, F, r => by rw [r.nil_inv]; simpa using RWs.nil
  | w :: ws, us, F, r => by
    obtain ⟨u, q2, F1, F2, rfl, d2, s1, s2, a, b⟩ := r.cons_inv
    rw [List.reverse_cons, List.reverse_cons]
    have e := RWs.append (fun c x y => d2 c (y.elim id False.elim) x) (RWs.reverse b) (RWs.cons (F2 := No) (fun _ _ x => x.elim) a .nil)
    exact e.mono fun c z => z.elim (s2 c) fun z => z.elim (s1 c) False.elim
theorem RWs.eraseIdx : ∀ {ws : List W} {us : List U} {F : St} (n : Nat), RWs h Z ws us F → RWs h Z (ws.eraseIdx n) (us.eraseIdx n) F
  | [], us, F, n, r => by rw [r.nil_inv]; simpa using RWs.nil
  | w :: ws, us, F, 0, r => by
    obtain ⟨u, q2, F1, F2, rfl, d2, s1, s2, a, b⟩ := r.cons_inv
    exact b.mono s2
  | w :: ws, us, F, n + 1, r => by
    obtain ⟨u, q2, F1, F2, rfl, d2, s1, s2, a, b⟩ := r.cons_inv
    exact (RWs.cons d2 a (RWs.eraseIdx n b)).mono fun c z => z.elim (s1 c) (s2 c)
/-- one taken out: what is left stands beside it -/
theorem RWs.out1 : ∀ {ws : List W} {us : List U} {F : St} {i : Nat} {w : W}, RWs h Z ws us F → ws[i]? = some w → ∃ u F1 Fr, us[i]? = some u ∧ Dis F1 Fr ∧ Sub F1 F ∧ Sub Fr F ∧ RW h Z w u F1 ∧ RWs h Z (ws.eraseIdx i) (us.eraseIdx i) Fr
  | [], _, _, _, _, _, e => by simp at e
  | w :: ws, us, F, 0, x, r, e => by
    obtain ⟨u, q, F1, F2, rfl, d, s1, s2, a, b⟩ := r.cons_inv
    simp at e; subst e
    exact ⟨u, F1, F2, rfl, d, s1, s2, a, b⟩
  | w :: ws, us, F, i + 1, x, r, e => by
    obtain ⟨u, q, F1, F2, rfl, d, s1, s2, a, b⟩ := r.cons_inv
    obtain ⟨v, X, Y, h1, dx, sx, sy, h2, k⟩ := RWs.out1 (i := i) b (by simpa using e)
    refine ⟨v, X, Un F1 Y, by simpa using h1, fun c xc z => ?_, fun c xc => s2 c (sx c xc), fun c xc => xc.elim (s1 c) fun y => s2 c (sy c y), h2, ?_⟩
    · rcases z with z | z
      · exact d c z (sx c xc)
      · exact dx c xc z
    · exact RWs.cons (fun c x y => d c x (sy c y)) a k
/-! freezing -/
mutual
def W.frz : W → P
  | .im p => p
  | .lst ws => .fz (frzs ws)
  | .tw ws => .tup (frzs ws)
  | .ins c ns ws => .fin c ns (frzs ws)
def frzs : List W → List P
  | [] => []
  | w :: ws => w.frz :: frzs ws
end
mutual
theorem RW.frz (zz : Sub Z Z') : ∀ {w : W} {u : U} {F : St}, RW h Z w u F → Sub F Z' → RP h Z' w.frz u
  | .im p, _, _, r, _ => by
    unfold RW at r; unfold W.frz
    exact RP.frame (.refl h Z) zz p r
  | .lst ws, _, F, r, s => by
    unfold RW at r; unfold W.frz RP
    obtain ⟨a, us, X, rfl, e, fa, nx, sx, q⟩ := r
    exact ⟨a, us, rfl, s a fa, e, RWs.frzs zz q fun c x => s c (sx c x)⟩
  | .tw ws, _, F, r, s => by
    unfold RW at r; unfold W.frz RP
    obtain ⟨us, rfl, q⟩ := r
    exact ⟨us, rfl, RWs.frzs zz q s⟩
  | .ins c ns ws, _, F, r, s => by
    unfold RW at r; unfold W.frz RP
    obtain ⟨a, us, X, rfl, e, fa, nx, sx, n, q⟩ := r
    exact ⟨a, us, rfl, s a fa, e, n, RWs.frzs zz q fun c x => s c (sx c x)⟩
theorem RWs.frzs (zz : Sub Z Z') : ∀ {ws : List W} {us : List U} {F : St}, RWs h Z ws us F → Sub F Z' → RPs h Z' (frzs ws) us
  | [], _, _, r, _ => by unfold Lz.frzs; rw [r.nil_inv]; exact .nil
  | w :: ws, _, F, r, s => by
    unfold Lz.frzs
    obtain ⟨u, q, F1, F2, rfl, d, s1, s2, a, b⟩ := r.cons_inv
    exact .cons (RW.frz zz a fun c x => s c (s1 c x)) (RWs.frzs zz b fun c x => s c (s2 c x))
end
@[simp] theorem frzs_map_im (ps : List P) : frzs (ps.map .im) = ps := by
  induction ps with
  | nil => rfl
  | cons p ps ih => simp [frzs, W.frz, ih]
theorem frzs_map {α : Type} (f : α → W) (xs : List α) : frzs (xs.map f) = xs.map fun x => (f x).frz := by
  induction xs with
  | nil => rfl
  | cons p ps ih => simp [frzs, ih]
@[simp] theorem frzs_nil : frzs [] = [] := rfl
@[simp] theorem frzs_cons (w : W) (ws : List W) : frzs (w :: ws) = w.frz :: frzs ws := rfl
@[simp] theorem frz_im (p : P) : (W.im p).frz = p := rfl
@[simp] theorem frz_lst (ws : List W) : (W.lst ws).frz = .fz (frzs ws) := rfl
@[simp] theorem frz_tw (ws : List W) : (W.tw ws).frz = .tup (frzs ws) := rfl
theorem frzs_append (a b : List W) : frzs (a ++ b) = frzs a ++ frzs b := by
  induction a with
  | nil => rfl
  | cons x a ih => simp [ih]
/-- all are only read -/
def imL : List W → Option (List P)
  | [] => some []
  | .im p :: ws => (imL ws).map (p :: ·)
  | _ => none
@[simp] theorem imL_nil : imL [] = some [] := rfl
@[simp] theorem imL_cons (p : P) (ws : List W) : imL (.im p :: ws) = (imL ws).map (p :: ·) := rfl
@[simp] theorem imL_map (ps : List P) : imL (ps.map .im) = some ps := by
  induction ps with
  | nil => rfl
  | cons p ps ih => simp [ih]
@[simp] theorem imL_map' {α : Type} (f : α → P) (xs : List α) : imL (xs.map fun x => .im (f x)) = some (xs.map f) := by
  induction xs with
  | nil => rfl
  | cons p ps ih => simp [ih]
theorem imL_app {a b : List W} {x y : List P} (h1 : imL a = some x) (h2 : imL b = some y) : imL (a ++ b) = some (x ++ y) := by
  induction a generalizing x with
  | nil => simp at h1; subst h1; exact h2
  | cons w a ih =>
    cases w with
    | im p =>
      simp only [imL_cons, Option.map_eq_some_iff] at h1
      obtain ⟨z, hz, rfl⟩ := h1
      simp [ih hz]
    | _ => cases h1
theorem imL_eq : ∀ {ws : List W} {ps : List P}, imL ws = some ps → ws = ps.map .im
  | [], ps, e => by cases e; rfl
  | .im p :: ws, ps, e => by
    simp only [imL_cons, Option.map_eq_some_iff] at e
    obtain ⟨z, hz, rfl⟩ := e
    simp [imL_eq hz]
  | .lst _ :: _, _, e => by cases e
  | .tw _ :: _, _, e => by cases e
  | .ins _ _ _ :: _, _, e => by cases e
theorem RWs.im {ws : List W} {ps : List P} {us : List U} (r : RWs h Z ws us F) (e : imL ws = some ps) : RPs h Z ps us := by
  have := imL_eq e
  subst this
  have q := RWs.frzs (Z' := fun a => Z a ∨ F a) (fun _ => .inl) r (fun _ => .inr)
  rw [frzs_map_im] at q
  clear q
  induction ps generalizing us F with
  | nil => rw [r.nil_inv]; exact .nil
  | cons p ps ih =>
    obtain ⟨u, q, F1, F2, rfl, d, s1, s2, a, b⟩ := r.cons_inv
    unfold RW at a
    exact .cons a (ih b (imL_map _))
/-- a tuple's value -/
def mkT (ws : List W) : W := match imL ws with | some ps => .im (.tup ps) | none => .tw ws
@[simp] theorem mkT_im (ps : List P) : mkT (ps.map .im) = .im (.tup ps) := by simp [mkT]
theorem mkT_of {ws : List W} {ps : List P} (e : imL ws = some ps) : mkT ws = .im (.tup ps) := by simp [mkT, e]
theorem RW.mkT {ws : List W} {us : List U} (r : RWs h Z ws us F) : RW h Z (mkT ws) (.tup us) F := by
  unfold Lz.mkT
  split
  · rename_i ps e
    unfold RW RP
    exact ⟨us, rfl, r.im e⟩
  · unfold RW
    exact ⟨us, rfl, r⟩
end
end Lz
namespace Lz
open PySem PySem.Spec PyProof.Rows L2

/-! # states without a heap, and what is the same in both -/
abbrev Vs := List (Option W)
structure VEx where
  c : Nat
  ns : List Str
  ps : List P
inductive VR (α : Type) where
  | ok (a : α) (s : Vs)
  | ex (x : VEx) (s : Vs)
  | bad
def VR.bind {α β : Type} (r : VR α) (k : α → Vs → VR β) : VR β := match r with
  | .ok a s => k a s
  | .ex x s => .ex x s
  | .bad => .bad
@[simp] theorem vbind_ok {α β : Type} (a : α) (s : Vs) (k : α → Vs → VR β) : (VR.ok a s).bind k = k a s := rfl
@[simp] theorem vbind_ex {α β : Type} (x : VEx) (s : Vs) (k : α → Vs → VR β) : (VR.ex x s : VR α).bind k = .ex x s := rfl
@[simp] theorem vbind_bad {α β : Type} (k : α → Vs → VR β) : (VR.bad : VR α).bind k = .bad := rfl
def VR.calm {α : Type} (r : VR α) : VR α := match r with
  | .ok a s => .ok a s
  | .ex _ _ => .bad
  | .bad => .bad
@[simp] theorem vcalm_ok {α : Type} (a : α) (s : Vs) : (VR.ok a s).calm = .ok a s := rfl
@[simp] theorem vcalm_bad {α : Type} : (VR.bad : VR α).calm = .bad := rfl
def REx (h : Hb) (Z : St) (x : VEx) (y : Ex) : Prop := y.c = x.c ∧ y.fs.map (·.1) = x.ns ∧ RPs h Z x.ps (y.fs.map (·.2))

def RSt (h : Hb) (Z : St) (s : Vs) (σ : Sg) (A : Nat → St) : Prop := s.length = σ.length ∧ ∀ i w, s[i]? = some (some w) → ∃ u, σ[i]? = some (some u) ∧ RW h Z w u (A i)
structure Ok (h : Hb) (Z : St) (A : Nat → St) (F : St) : Prop where
  la : ∀ i a, A i a → a < h.length
  lf : ∀ a, F a → a < h.length
  lz : ∀ a, Z a → a < h.length
  aa : ∀ i j a, A i a → A j a → i = j
  af : ∀ i a, A i a → ¬ F a
  az : ∀ i a, A i a → ¬ Z a
  fz : ∀ a, F a → ¬ Z a
def Fro (h : Hb) (A : Nat → St) (F : St) (a : Nat) : Prop := (∃ j, A j a) ∨ F a ∨ h.length ≤ a
structure Stp (M : List Nat) (h : Hb) (Z : St) (A : Nat → St) (F : St) (s : Vs) (h' : Hb) (Z' : St) (A' : Nat → St) (F' : St) (s' : Vs) : Prop where
  len : h.length ≤ h'.length
  same : ∀ a, a < h.length → (∀ i, ¬ A i a) → ¬ F a → h'[a]? = h[a]?
  zin : ∀ a, Z a → Z' a
  zout : ∀ a, Z' a → Z a ∨ Fro h A F a
  aout : ∀ i a, A' i a → Fro h A F a
  fout : ∀ a, F' a → Fro h A F a
  sl : s'.length = s.length
  quiet : ∀ i, i ∉ M → s'[i]? = some none ∨ (s'[i]? = s[i]? ∧ Keep h h' (A i) ∧ Sub (A i) (A' i))
section
variable {h h1 h2 : Hb} {Z Z1 Z2 F F1 F2 B : St} {A A1 A2 : Nat → St} {s s1 s2 : Vs} {M M1 M2 : List Nat} {σ : Sg}
theorem Stp.refl : Stp M h Z A F s h Z A F s :=
  ⟨Nat.le_refl _, fun _ _ _ _ => rfl, fun _ z => z, fun _ z => .inl z, fun i _ x => .inl ⟨i, x⟩, fun _ x => .inr (.inl x), rfl, fun _ _ => .inr ⟨rfl, .refl _ _, .refl _⟩⟩
theorem Ok.keepZ (o : Ok h Z A F) (t : Stp M h Z A F s h1 Z1 A1 F1 s1) : Keep h h1 Z := fun a z => t.same a (o.lz a z) (fun i x => o.az i a x z) fun f => o.fz a f z
theorem Fro.up {a : Nat} (x : Fro h1 A1 F1 a) (len : h.length ≤ h1.length) (ax : ∀ i a, A1 i a → Fro h A F a) (fx : ∀ a, F1 a → Fro h A F a) : Fro h A F a := by
  rcases x with ⟨j, x⟩ | x | x
  · exact ax j a x
  · exact fx a x
  · exact .inr (.inr (Nat.le_trans len x))
theorem Fro.mono {a : Nat} (x : Fro h A F a) (s : Sub F F1) : Fro h A F1 a := x.imp id (Or.imp (s a) id)
theorem Stp.trans (t : Stp M1 h Z A F s h1 Z1 A1 F1 s1) (t2 : Stp M2 h1 Z1 A1 F1 s1 h2 Z2 A2 F2 s2) : Stp (M1 ++ M2) h Z A F s h2 Z2 A2 F2 s2 := by
  refine ⟨Nat.le_trans t.len t2.len, fun a la nm nf => ?_, fun a z => t2.zin a (t.zin a z), fun a z => ?_, fun i a x => Fro.up (t2.aout i a x) t.len t.aout t.fout, fun a x => Fro.up (t2.fout a x) t.len t.aout t.fout, t2.sl.trans t.sl, fun i n => ?_⟩
  · rw [← t.same a la nm nf]
    have no : ¬ Fro h A F a := fun x => x.elim (fun ⟨j, x⟩ => nm j x) fun x => x.elim nf fun x => by omega
    exact t2.same a (Nat.lt_of_lt_of_le la t.len) (fun i x => no (t.aout i a x)) fun x => no (t.fout a x)
  · rcases t2.zout a z with z | z
    · exact t.zout a z
    · exact .inr (Fro.up z t.len t.aout t.fout)
  · have n1 : i ∉ M1 := fun x => n (List.mem_append_left _ x)
    have n2 : i ∉ M2 := fun x => n (List.mem_append_right _ x)
    rcases t2.quiet i n2 with e | ⟨e, k, sb⟩
    · exact .inl e
    · rcases t.quiet i n1 with e1 | ⟨e1, k1, sb1⟩
      · exact .inl (e.trans e1)
      · exact .inr ⟨e.trans e1, fun a x => (k a (sb1 a x)).trans (k1 a x), fun a x => sb a (sb1 a x)⟩
theorem Stp.wid (t : Stp M h Z A F s h1 Z1 A1 F1 s1) (hm : ∀ i, i ∈ M → i ∈ M1) : Stp M1 h Z A F s h1 Z1 A1 F1 s1 := { t with quiet := fun i n => t.quiet i fun x => n (hm i x) }
theorem Stp.fsub (t : Stp M h Z A F s h1 Z1 A1 F1 s1) (hf : Sub F2 F1) : Stp M h Z A F s h1 Z1 A1 F2 s1 := { t with fout := fun a x => t.fout a (hf a x) }
theorem Ok.fsub (o : Ok h Z A F) (hf : Sub F1 F) : Ok h Z A F1 := ⟨o.la, fun a x => o.lf a (hf a x), o.lz, o.aa, fun i a x y => o.af i a x (hf a y), o.az, fun a x => o.fz a (hf a x)⟩
/-- beside what is held -/
theorem Stp.hold (t : Stp M h Z A F s h1 Z1 A1 F1 s1) (B : St) : Stp M h Z A (Un F B) s h1 Z1 A1 (Un F1 B) s1 :=
  ⟨t.len, fun a la n nf => t.same a la n fun x => nf (.inl x), t.zin, fun a z => (t.zout a z).imp id fun x => x.mono fun _ => .inl, fun i a x => (t.aout i a x).mono fun _ => .inl,
    fun a x => x.elim (fun x => (t.fout a x).mono fun _ => .inl) fun x => .inr (.inl (.inr x)), t.sl, t.quiet⟩
theorem Ok.hold (o : Ok h Z A (Un F B)) (d : Dis F B) (o1 : Ok h1 Z1 A1 F1) (t : Stp M h Z A F s h1 Z1 A1 F1 s1) : Ok h1 Z1 A1 (Un F1 B) ∧ Dis F1 B ∧ Keep h h1 B := by
  have no : ∀ a, B a → ¬ Fro h A F a := fun a b x => x.elim (fun ⟨j, x⟩ => o.af j a x (.inr b)) fun x => x.elim (fun x => d a x b) fun x => by have := o.lf a (.inr b); omega
  refine ⟨⟨o1.la, fun a x => x.elim (o1.lf a) fun b => Nat.lt_of_lt_of_le (o.lf a (.inr b)) t.len, o1.lz, o1.aa, fun i a x y => y.elim (o1.af i a x) fun b => no a b (t.aout i a x), o1.az, fun a x z => ?_⟩, fun a x b => no a b (t.fout a x), fun a b => ?_⟩
  · rcases x with x | b
    · exact o1.fz a x z
    · rcases t.zout a z with z | z
      · exact o.fz a (.inr b) z
      · exact no a b z
  · exact t.same a (o.lf a (.inr b)) (fun i x => o.af i a x (.inr b)) fun x => d a x b
end

structure Sts (L : List Nat) (h : Hb) (Z : St) (A : Nat → St) (F : St) (s : Vs) (h' : Hb) (Z' : St) (A' : Nat → St) (F' : St) (s' : Vs) : Prop where
  len : h.length ≤ h'.length
  same : ∀ a, a < h.length → (∀ i, ¬ A i a) → ¬ F a → h'[a]? = h[a]?
  zin : ∀ a, Z a → Z' a
  zout : ∀ a, Z' a → Z a ∨ Fro h A F a
  aout : ∀ i a, A' i a → Fro h A F a
  fout : ∀ a, F' a → Fro h A F a
  sl : s'.length = s.length
  quiet : ∀ i, i ∈ L → s'[i]? = some none ∨ (s'[i]? = s[i]? ∧ Keep h h' (A i) ∧ Sub (A i) (A' i))
abbrev Rl (α β : Type) := Hb → St → Vs → β → α → St → Prop
/-- the run without a heap tells the run with one -/
def Po {α β : Type} (M : List Nat) (σ : Sg) (rel : Rl α β) (h : Hb) (Z : St) (A : Nat → St) (F : St) (s : Vs) (R : Res α) (V : VR β) : Prop := match V with
  | .bad => True
  | .ok w s' => ∃ u h' Z' A' F', R = .ok u h' ∧ rel h' Z' s' w u F' ∧ RSt h' Z' s' σ A' ∧ Ok h' Z' A' F' ∧ Stp M h Z A F s h' Z' A' F' s'
  | .ex x s' => ∃ y h' Z' A', R = .ex y h' ∧ REx h' Z' x y ∧ RSt h' Z' s' σ A' ∧ Ok h' Z' A' No ∧ Stp M h Z A F s h' Z' A' No s'
section
variable {α β γ δ : Type} {h : Hb} {Z F B : St} {A : Nat → St} {s : Vs} {M M1 M2 : List Nat} {σ : Sg}
theorem Po.bind {r1 : Rl α β} {r2 : Rl γ δ} {R : Res α} {V : VR β} {kR : α → Hb → Res γ} {kV : β → Vs → VR δ} (o : Ok h Z A (Un F B)) (d : Dis F B) (p : Po M1 σ r1 h Z A F s R V)
    (k : ∀ u w h1 Z1 A1 F1 s1, V = .ok w s1 → r1 h1 Z1 s1 w u F1 → RSt h1 Z1 s1 σ A1 → Ok h1 Z1 A1 (Un F1 B) → Dis F1 B → Keep h h1 B → Keep h h1 Z → Sub Z Z1 → Stp M1 h Z A F s h1 Z1 A1 F1 s1 → Po M2 σ r2 h1 Z1 A1 (Un F1 B) s1 (kR u h1) (kV w s1)) :
    Po (M1 ++ M2) σ r2 h Z A (Un F B) s (R.bind kR) (V.bind kV) := by
  cases V with
  | bad => trivial
  | ex x s' =>
    obtain ⟨y, h1, Z1, A1, rfl, e, rs, o1, t⟩ := p
    refine ⟨y, h1, Z1, A1, rfl, e, rs, o1, ?_⟩
    exact ((t.hold B).wid fun i x => List.mem_append_left _ x).fsub fun _ x => x.elim
  | ok w s1 =>
    obtain ⟨u, h1, Z1, A1, F1, rfl, r, rs, o1, t⟩ := p
    obtain ⟨o2, d2, kb⟩ := o.hold d o1 t
    have kz := (o.fsub (F1 := F) fun _ => .inl).keepZ t
    have q := k u w h1 Z1 A1 F1 s1 rfl r rs o2 d2 kb kz t.zin t
    have th := t.hold B
    simp only [vbind_ok, bind_ok]
    cases kv : kV w s1 with
    | bad => trivial
    | ex x s2 =>
      rw [kv] at q
      obtain ⟨y, h2, Z2, A2, e1, e, rs2, o3, t2⟩ := q
      exact ⟨y, h2, Z2, A2, e1, e, rs2, o3, th.trans t2⟩
    | ok w2 s2 =>
      rw [kv] at q
      obtain ⟨u2, h2, Z2, A2, F2, e1, r2, rs2, o3, t2⟩ := q
      exact ⟨u2, h2, Z2, A2, F2, e1, r2, rs2, o3, th.trans t2⟩
theorem un_no (F : St) : Un F No = F := by
  funext a; exact propext ⟨fun x => x.elim id False.elim, .inl⟩
theorem no_un (F : St) : Un No F = F := by
  funext a; exact propext ⟨fun x => x.elim False.elim id, .inr⟩
theorem dis_no (F : St) : Dis F No := fun _ _ x => x
/-- nothing is held -/
theorem Po.bind0 {r1 : Rl α β} {r2 : Rl γ δ} {R : Res α} {V : VR β} {kR : α → Hb → Res γ} {kV : β → Vs → VR δ} (o : Ok h Z A F) (p : Po M1 σ r1 h Z A F s R V)
    (k : ∀ u w h1 Z1 A1 F1 s1, V = .ok w s1 → r1 h1 Z1 s1 w u F1 → RSt h1 Z1 s1 σ A1 → Ok h1 Z1 A1 F1 → Stp M1 h Z A F s h1 Z1 A1 F1 s1 → Po M2 σ r2 h1 Z1 A1 F1 s1 (kR u h1) (kV w s1)) :
    Po (M1 ++ M2) σ r2 h Z A F s (R.bind kR) (V.bind kV) := by
  have := Po.bind (B := No) (r2 := r2) (kR := kR) (kV := kV) (M2 := M2) (by rw [un_no]; exact o) (dis_no F) p (fun u w h1 Z1 A1 F1 s1 e r rs o1 _ _ _ _ t => by rw [un_no] at o1 ⊢; exact k u w h1 Z1 A1 F1 s1 e r rs o1 t)
  rwa [un_no] at this
theorem Po.wid {r1 : Rl α β} {R : Res α} {V : VR β} (p : Po M σ r1 h Z A F s R V) (hm : ∀ i, i ∈ M → i ∈ M1) : Po M1 σ r1 h Z A F s R V := by
  cases V with
  | bad => trivial
  | ex x s' =>
    obtain ⟨y, h1, Z1, A1, rfl, e, rs, o1, t⟩ := p
    exact ⟨y, h1, Z1, A1, rfl, e, rs, o1, t.wid hm⟩
  | ok w s1 =>
    obtain ⟨u, h1, Z1, A1, F1, rfl, r, rs, o1, t⟩ := p
    exact ⟨u, h1, Z1, A1, F1, rfl, r, rs, o1, t.wid hm⟩
theorem Po.calm {r1 : Rl α β} {R : Res α} {V : VR β} (p : Po M σ r1 h Z A F s R V) : Po M σ r1 h Z A F s R.calm V.calm := by
  cases V with
  | bad => trivial
  | ex x s' => trivial
  | ok w s1 =>
    obtain ⟨u, h1, Z1, A1, F1, rfl, r, rs, o1, t⟩ := p
    exact ⟨u, h1, Z1, A1, F1, rfl, r, rs, o1, t⟩
/-- a plain answer -/
theorem Po.ok {r1 : Rl α β} {u : α} {w : β} {F1 : St} (r : r1 h Z s w u F1) (sb : Sub F1 F) (rs : RSt h Z s σ A) (o : Ok h Z A F) : Po M σ r1 h Z A F s (.ok u h) (.ok w s) :=
  ⟨u, h, Z, A, F1, rfl, r, rs, o.fsub sb, Stp.refl.fsub sb⟩
end
/-! ## handles -/
inductive Hd where
  | v (w : W)
  | at (i : Nat) (p : List Nat)
def getP : W → List Nat → Option W
  | w, [] => some w
  | .lst ws, k :: ks => match ws[k]? with | some w => getP w ks | none => none
  | .ins _ _ ws, k :: ks => match ws[k]? with | some w => getP w ks | none => none
  | _, _ => none
def rd (s : Vs) : Hd → Option W
  | .v w => some w
  | .at i p => match s[i]? with | some (some w) => getP w p | _ => none
def Reach (h : Hb) : List Nat → U → U → Prop
  | [], u, x => x = u
  | k :: ks, u, x => ∃ a, u = .ref a ∧ ((∃ us v, h[a]? = some (.lst us) ∧ us[k]? = some v ∧ Reach h ks v x) ∨ ∃ c fs v, h[a]? = some (.ins c fs) ∧ (fs.map (·.2))[k]? = some v ∧ Reach h ks v x)
section
variable {h h' : Hb} {Z Z' F G : St}
/-- a part, and how another one is put in its place -/
theorem getP_wand : ∀ {p : List Nat} {w0 w : W} {u0 : U} {F : St}, RW h Z w0 u0 F → getP w0 p = some w → ∃ u F1, Reach h p u0 u ∧ Sub F1 F ∧ RW h Z w u F1
  | [], w0, w, u0, F, r, e => by cases e; exact ⟨u0, F, rfl, .refl F, r⟩
  | k :: ks, .lst ws, w, u0, F, r, e => by
    unfold RW at r
    obtain ⟨a, us, X, rfl, e1, fa, nx, sx, q⟩ := r
    simp only [getP] at e
    split at e
    · rename_i w1 e2
      obtain ⟨u1, g1, g2⟩ := q.get e2
      obtain ⟨u, F1, h1, h2, h3⟩ := getP_wand g2 e
      exact ⟨u, F1, ⟨a, rfl, .inl ⟨us, u1, e1, g1, h1⟩⟩, fun c x => sx c (h2 c x), h3⟩
    · cases e
  | k :: ks, .ins c ns ws, w, u0, F, r, e => by
    unfold RW at r
    obtain ⟨a, us, X, rfl, e1, fa, nx, sx, n, q⟩ := r
    simp only [getP] at e
    split at e
    · rename_i w1 e2
      obtain ⟨u1, g1, g2⟩ := q.get e2
      obtain ⟨u, F1, h1, h2, h3⟩ := getP_wand g2 e
      exact ⟨u, F1, ⟨a, rfl, .inr ⟨c, us, u1, e1, g1, h1⟩⟩, fun c x => sx c (h2 c x), h3⟩
    · cases e
  | k :: ks, .im _, w, u0, F, r, e => by cases e
  | k :: ks, .tw _, w, u0, F, r, e => by cases e
theorem Reach.fn : ∀ {p : List Nat} {u0 u v : U}, Reach h p u0 u → Reach h p u0 v → u = v
  | [], _, _, _, a, b => by unfold Reach at a b; rw [a, b]
  | k :: ks, u0, u, v, x, y => by
    unfold Reach at x y
    obtain ⟨a, rfl, x⟩ := x
    obtain ⟨b, e, y⟩ := y
    cases e
    rcases x with ⟨us, z, e1, e2, x⟩ | ⟨c, us, z, e1, e2, x⟩
    · rcases y with ⟨us', z', e1', e2', y⟩ | ⟨c', us', z', e1', e2', y⟩
      · rw [e1] at e1'; cases e1'; rw [e2] at e2'; cases e2'; exact Reach.fn x y
      · rw [e1] at e1'; cases e1'
    · rcases y with ⟨us', z', e1', e2', y⟩ | ⟨c', us', z', e1', e2', y⟩
      · rw [e1] at e1'; cases e1'
      · rw [e1] at e1'; cases e1'; rw [e2] at e2'; cases e2'; exact Reach.fn x y
/-- the way stands where the whole is kept -/
theorem Reach.keep : ∀ {p : List Nat} {w0 w : W} {u0 u : U} {F : St}, RW h Z w0 u0 F → getP w0 p = some w → Reach h p u0 u → Keep h h' F → Reach h' p u0 u
  | [], _, _, _, _, _, _, _, x, _ => x
  | k :: ks, .lst ws, w, u0, u, F, r, e, x, kp => by
    unfold RW at r
    obtain ⟨a, us, X, rfl, e1, fa, nx, sx, q⟩ := r
    simp only [getP] at e
    split at e
    · rename_i w1 e2
      obtain ⟨u1, g1, g2⟩ := q.get e2
      unfold Reach at x
      obtain ⟨b, eb, x⟩ := x
      cases eb
      rcases x with ⟨us', z, e1', e2', x⟩ | ⟨c, us', z, e1', e2', x⟩
      · rw [e1] at e1'; cases e1'; rw [g1] at e2'; cases e2'
        exact ⟨a, rfl, .inl ⟨us, u1, by rw [kp a fa]; exact e1, g1, Reach.keep g2 e x (kp.sub sx)⟩⟩
      · rw [e1] at e1'; cases e1'
    · cases e
  | k :: ks, .ins c ns ws, w, u0, u, F, r, e, x, kp => by
    unfold RW at r
    obtain ⟨a, us, X, rfl, e1, fa, nx, sx, n, q⟩ := r
    simp only [getP] at e
    split at e
    · rename_i w1 e2
      obtain ⟨u1, g1, g2⟩ := q.get e2
      unfold Reach at x
      obtain ⟨b, eb, x⟩ := x
      cases eb
      rcases x with ⟨us', z, e1', e2', x⟩ | ⟨c, us', z, e1', e2', x⟩
      · rw [e1] at e1'; cases e1'
      · rw [e1] at e1'; cases e1'; rw [g1] at e2'; cases e2'
        exact ⟨a, rfl, .inr ⟨_, us, u1, by rw [kp a fa]; exact e1, g1, Reach.keep g2 e x (kp.sub sx)⟩⟩
    · cases e
  | k :: ks, .im _, w, u0, _, F, r, e, _, _ => by cases e
  | k :: ks, .tw _, w, u0, _, F, r, e, _, _ => by cases e
end
/-- a handle's value -/
def RH (σ : Sg) (I J : List Nat) : Rl U Hd := fun h Z s d u F => match d with
  | .v w => RW h Z w u F
  | .at i p => (∃ u0, σ[i]? = some (some u0) ∧ (p = [] → u = u0) ∧ ∀ w, rd s (.at i p) = some w → Reach h p u0 u) ∧ (p ≠ [] → i ∈ I) ∧ i ∈ J
section
variable {h h1 : Hb} {Z Z1 F F1 B : St} {A A1 : Nat → St} {s s1 : Vs} {M I J : List Nat} {σ : Sg}
theorem RH.read {d : Hd} {u : U} {w : W} (r : RH σ I J h Z s d u F) (rs : RSt h Z s σ A) (e : rd s d = some w) : ∃ G, RW h Z w u G ∧ ∀ a, G a → F a ∨ ∃ i, A i a := by
  cases d with
  | v x => cases e; exact ⟨F, r, fun _ => .inl⟩
  | «at» i p =>
    obtain ⟨⟨u0, e0, _, q⟩, _⟩ := r
    have rc := q w e
    simp only [rd] at e
    split at e
    · rename_i w0 e1
      obtain ⟨u1, e2, rw0⟩ := rs.2 i w0 e1
      rw [e0] at e2; cases e2
      obtain ⟨u2, F1, h1, h2, h3⟩ := getP_wand rw0 e
      have := Reach.fn rc h1
      subst this
      exact ⟨F1, h3, fun a x => .inr ⟨i, h2 a x⟩⟩
    · cases e
/-- a handle outlives a step -/
theorem RH.later {d : Hd} {u : U} (r : RH σ I J h Z s d u B) (rs : RSt h Z s σ A) (t : Stp M h Z A F s h1 Z1 A1 F1 s1) (hi : ∀ i, i ∈ I → i ∉ M) (kb : Keep h h1 B) (kz : Keep h h1 Z) (zz : Sub Z Z1) : RH σ I J h1 Z1 s1 d u B := by
  cases d with
  | v w => exact RW.frame kz zz w kb (.refl _) r
  | «at» i p =>
    obtain ⟨⟨u0, e0, q0, q⟩, q1, q2⟩ := r
    refine ⟨⟨u0, e0, q0, fun w e => ?_⟩, q1, q2⟩
    cases p with
    | nil => exact q0 rfl
    | cons k ks =>
      have im : i ∉ M := hi i (q1 (by simp))
      rcases t.quiet i im with e1 | ⟨e1, kp, _⟩
      · simp only [rd, e1] at e; cases e
      · have e' : rd s (.at i (k :: ks)) = some w := by simp only [rd] at e ⊢; rw [e1] at e; exact e
        have rc := q w e'
        simp only [rd] at e'
        split at e'
        · rename_i w0 e2
          obtain ⟨u1, e3, rw0⟩ := rs.2 i w0 e2
          rw [e0] at e3; cases e3
          exact Reach.keep rw0 e' rc kp
        · cases e'
end
end Lz
namespace Lz
open PySem PySem.Spec PyProof.Rows L2

/-! # operations that read -/
def Rd (h : Hb) (Z : St) (w : W) (u : U) : Prop := ∃ G, RW h Z w u G
def Rds (h : Hb) (Z : St) : List W → List U → Prop
  | [], us => us = []
  | w :: ws, us => ∃ u r, us = u :: r ∧ Rd h Z w u ∧ Rds h Z ws r
/-- an answer on new places -/
def Gro (h : Hb) (Z : St) (w : W) (r : Res U) : Prop := ∃ u h' F, r = .ok u h' ∧ h.length ≤ h'.length ∧ (∀ a, a < h.length → h'[a]? = h[a]?) ∧ RW h' Z w u F ∧ ∀ a, F a → h.length ≤ a ∧ a < h'.length
def OpV1 (g : G1) (q : W → Option W) : Prop := ∀ h Z w u x, (∀ a, Z a → a < h.length) → Rd h Z w u → q w = some x → Gro h Z x (g u h)
def OpV2 (g : G2) (q : W → W → Option W) : Prop := ∀ h Z w1 w2 u1 u2 x, (∀ a, Z a → a < h.length) → Rd h Z w1 u1 → Rd h Z w2 u2 → q w1 w2 = some x → Gro h Z x (g u1 u2 h)
def OpVs (g : GC) (q : List W → Option W) : Prop := ∀ h Z ws us x, (∀ a, Z a → a < h.length) → Rds h Z ws us → q ws = some x → Gro h Z x (g us h)
section
variable {h h' : Hb} {Z Z' F G : St}
theorem RW.im_inv {p : P} {u : U} (r : RW h Z (.im p) u F) : RP h Z p u := by unfold RW at r; exact r
theorem RW.mk_im {p : P} {u : U} (r : RP h Z p u) : RW h Z (.im p) u F := by unfold RW; exact r
theorem Rd.im {p : P} {u : U} (r : Rd h Z (.im p) u) : RP h Z p u := by obtain ⟨G, r⟩ := r; exact r.im_inv
theorem Rd.int {i : Int} {u : U} (r : Rd h Z (.im (.int i)) u) : u = .int i := by have := r.im; unfold RP at this; exact this
theorem Rd.bl {i : Bool} {u : U} (r : Rd h Z (.im (.bl i)) u) : u = .bl i := by have := r.im; unfold RP at this; exact this
theorem Rd.str {i : Str} {u : U} (r : Rd h Z (.im (.str i)) u) : u = .str i := by have := r.im; unfold RP at this; exact this
theorem Rd.non {u : U} (r : Rd h Z (.im .non) u) : u = .non := by have := r.im; unfold RP at this; exact this
theorem RP.tup_inv {ps : List P} {u : U} (r : RP h Z (.tup ps) u) : ∃ us, u = .tup us ∧ RPs h Z ps us := by unfold RP at r; exact r
theorem RP.fz_inv {ps : List P} {u : U} (r : RP h Z (.fz ps) u) : ∃ a us, u = .ref a ∧ Z a ∧ h[a]? = some (.lst us) ∧ RPs h Z ps us := by unfold RP at r; exact r
theorem RP.fr_inv {ps : List P} {u : U} (r : RP h Z (.fr ps) u) : ∃ a us, u = .ref a ∧ Z a ∧ h[a]? = some (.fro us) ∧ RPs h Z ps us := by unfold RP at r; exact r
theorem RP.fin_inv {c : Nat} {ns : List Str} {ps : List P} {u : U} (r : RP h Z (.fin c ns ps) u) : ∃ a fs, u = .ref a ∧ Z a ∧ h[a]? = some (.ins c fs) ∧ fs.map (·.1) = ns ∧ RPs h Z ps (fs.map (·.2)) := by unfold RP at r; exact r
theorem RW.lst_inv {ws : List W} {u : U} (r : RW h Z (.lst ws) u F) : ∃ a us G, u = .ref a ∧ h[a]? = some (.lst us) ∧ F a ∧ ¬ G a ∧ Sub G F ∧ RWs h Z ws us G := by unfold RW at r; exact r
theorem RW.tw_inv {ws : List W} {u : U} (r : RW h Z (.tw ws) u F) : ∃ us, u = .tup us ∧ RWs h Z ws us F := by unfold RW at r; exact r
/-- items that are read only stand on nothing -/
theorem RPs.ws0 {ps : List P} {us : List U} (r : RPs h Z ps us) (F : St) : RWs h Z (ps.map .im) us F := r.ws.mono fun _ x => x.elim
theorem gro_here {w : W} {u : U} (r : RW h Z w u No) : Gro h Z w (.ok u h) := ⟨u, h, No, rfl, Nat.le_refl _, fun _ _ => rfl, r, fun _ x => x.elim⟩
theorem gro_im {p : P} {u : U} (r : RP h Z p u) : Gro h Z (.im p) (.ok u h) := gro_here (.mk_im r)
theorem app_old {l : Hb} {o : O} {a : Nat} (la : a < l.length) : (l ++ [o])[a]? = l[a]? := List.getElem?_append_left la
/-- a new list of items that are read only -/
theorem gro_lst (zl : ∀ a, Z a → a < h.length) {ws : List W} {us : List U} (r : RWs h Z ws us G) {ps : List P} (e : imL ws = some ps) : Gro h Z (.lst ws) (.ok (.ref h.length) (h ++ [.lst us])) := by
  refine ⟨_, _, fun a => a = h.length, rfl, by simp, fun a la => app_old la, ?_, fun a x => by subst x; simp⟩
  unfold RW
  refine ⟨h.length, us, No, rfl, by simp, rfl, fun x => x, fun _ x => x.elim, ?_⟩
  rw [imL_eq e]
  exact (RPs.frame (fun a z => app_old (zl a z)) (.refl Z) ps (r.im e)).ws
theorem rp_int (i : Int) : RP h Z (.int i) (.int i) := by unfold RP; rfl
theorem rp_bl (i : Bool) : RP h Z (.bl i) (.bl i) := by unfold RP; rfl
theorem rp_str (i : Str) : RP h Z (.str i) (.str i) := by unfold RP; rfl
theorem rp_non : RP h Z .non .non := by unfold RP; rfl
theorem rp_tup {ps : List P} {us : List U} (r : RPs h Z ps us) : RP h Z (.tup ps) (.tup us) := by unfold RP; exact ⟨us, rfl, r⟩
theorem RPs.append : ∀ {ps qs : List P} {us vs : List U}, RPs h Z ps us → RPs h Z qs vs → RPs h Z (ps ++ qs) (us ++ vs)
  | [], _, _, _, r, q => by rw [r.nil_inv]; exact q
  | p :: ps, _, _, _, r, q => by
    obtain ⟨u, x, rfl, a, b⟩ := r.cons_inv
    exact .cons a (RPs.append b q)
theorem RPs.drop : ∀ {ps : List P} {us : List U} (n : Nat), RPs h Z ps us → RPs h Z (ps.drop n) (us.drop n)
  | [], _, n, r => by rw [r.nil_inv]; simpa using RPs.nil
  | p :: ps, _, 0, r => r
  | p :: ps, _, n + 1, r => by obtain ⟨u, x, rfl, a, b⟩ := r.cons_inv; exact RPs.drop n b
theorem RPs.take : ∀ {ps : List P} {us : List U} (n : Nat), RPs h Z ps us → RPs h Z (ps.take n) (us.take n)
  | [], _, n, r => by rw [r.nil_inv]; simpa using RPs.nil
  | p :: ps, _, 0, r => by simpa using RPs.nil
  | p :: ps, _, n + 1, r => by obtain ⟨u, x, rfl, a, b⟩ := r.cons_inv; exact .cons a (RPs.take n b)
theorem RPs.cut {ps : List P} {us : List U} (r : RPs h Z ps us) (lo hi : Option Int) : RPs h Z (cutU ps lo hi) (cutU us lo hi) := by
  unfold cutU; rw [r.length]; exact (r.drop _).take _
theorem RWs.cut {ps : List W} {us : List U} (r : RWs h Z ps us F) (lo hi : Option Int) : RWs h Z (cutU ps lo hi) (cutU us lo hi) F := by
  unfold cutU; rw [r.length]; exact (r.drop _).take _
theorem RPs.reverse : ∀ {ps : List P} {us : List U}, RPs h Z ps us → RPs h Z ps.reverse us.reverse
  | [], _, r => by rw [r.nil_inv]; exact .nil
  | p :: ps, _, r => by
    obtain ⟨u, x, rfl, a, b⟩ := r.cons_inv
    rw [List.reverse_cons, List.reverse_cons]
    exact (RPs.reverse b).append (.cons a .nil)
theorem RPs.get : ∀ {ps : List P} {us : List U} {i : Nat} {p : P}, RPs h Z ps us → ps[i]? = some p → ∃ u, us[i]? = some u ∧ RP h Z p u
  | [], _, _, _, _, e => by simp at e
  | p :: ps, _, 0, x, r, e => by obtain ⟨u, q, rfl, a, b⟩ := r.cons_inv; simp at e; subst e; exact ⟨u, rfl, a⟩
  | p :: ps, _, i + 1, x, r, e => by
    obtain ⟨u, q, rfl, a, b⟩ := r.cons_inv
    obtain ⟨v, h1, h2⟩ := RPs.get (i := i) b (by simpa using e)
    exact ⟨v, by simpa using h1, h2⟩
end
/-! ## numbers -/
noncomputable def cIf {α : Type} (c : Prop) (a b : α) : α := @ite α c (Classical.propDecidable c) a b
theorem cIf_pos {α : Type} {c : Prop} (h : c) (a b : α) : cIf c a b = a := if_pos h
theorem cIf_some {α : Type} {c : Prop} {a b : α} (e : cIf c (some a) none = some b) : c ∧ a = b := by
  unfold cIf at e
  split at e
  · rename_i h; exact ⟨h, Option.some.inj e⟩
  · cases e
noncomputable def qI2 (c : Int → Int → Prop) (f : Int → Int → Int) : W → W → Option W := fun x y => match x, y with
  | .im (.int i), .im (.int j) => cIf (c i j) (some (.im (.int (f i j)))) none
  | _, _ => none
theorem ov_I2 {c : Int → Int → Prop} [∀ i j, Decidable (c i j)] {f : Int → Int → Int} : OpV2 (oI2 c f) (qI2 c f) := by
  intro h Z w1 w2 u1 u2 x zl r1 r2 e
  unfold qI2 at e
  split at e
  · rename_i i j
    rw [r1.int, r2.int]
    obtain ⟨hc, rfl⟩ := cIf_some e
    simp only [oI2, if_pos hc]
    exact gro_im (rp_int _)
  · cases e
def qSub : W → W → Option W := fun x y => match x, y with
  | .im (.int i), .im (.int j) => some (.im (.int (i - j)))
  | _, _ => none
noncomputable def qDiv : W → W → Option W := qI2 cDiv (fun i j => i.fdiv j)
noncomputable def qMod : W → W → Option W := qI2 cMod (fun i j => i.fmod j)
noncomputable def qPow : W → W → Option W := qI2 cPow (fun i j => i ^ j.toNat)
theorem ov_sub : OpV2 vSub qSub := by
  intro h Z w1 w2 u1 u2 x zl r1 r2 e
  unfold qSub at e
  split at e
  · rw [r1.int, r2.int]; cases e; simp only [vSub, oI2, if_true]; exact gro_im (rp_int _)
  · cases e
theorem ov_div : OpV2 vDiv qDiv := ov_I2
theorem ov_mod : OpV2 vMod qMod := ov_I2
theorem ov_pow : OpV2 vPow qPow := ov_I2
/-- the items of a list (not a locked one) -/
def litP : W → Option (List W)
  | .im (.fz ps) => some (ps.map .im)
  | .lst ws => some ws
  | _ => none
/-- of any list -/
def lstP : W → Option (List W)
  | .im (.fz ps) => some (ps.map .im)
  | .im (.fr ps) => some (ps.map .im)
  | .lst ws => some ws
  | _ => none
def seqP : W → Option (List W)
  | .im (.tup ps) => some (ps.map .im)
  | .im (.fz ps) => some (ps.map .im)
  | .im (.fr ps) => some (ps.map .im)
  | .lst ws => some ws
  | .tw ws => some ws
  | _ => none
section
variable {h h' : Hb} {Z Z' F G : St}
theorem litP_rel {w : W} {u : U} {ws : List W} (r : Rd h Z w u) (e : litP w = some ws) : ∃ a us G, u = .ref a ∧ h[a]? = some (.lst us) ∧ RWs h Z ws us G := by
  unfold litP at e
  split at e
  · cases e; obtain ⟨a, us, rfl, _, e1, q⟩ := r.im.fz_inv; exact ⟨a, us, No, rfl, e1, q.ws⟩
  · cases e; obtain ⟨F, r⟩ := r; obtain ⟨a, us, G, rfl, e1, _, _, _, q⟩ := r.lst_inv; exact ⟨a, us, G, rfl, e1, q⟩
  · cases e
theorem lstP_rel {w : W} {u : U} {ws : List W} (r : Rd h Z w u) (e : lstP w = some ws) : ∃ us G, lstU h u = some us ∧ RWs h Z ws us G := by
  unfold lstP at e
  split at e
  · cases e; obtain ⟨a, us, rfl, _, e1, q⟩ := r.im.fz_inv; exact ⟨us, No, by simp [lstU, e1], q.ws⟩
  · cases e; obtain ⟨a, us, rfl, _, e1, q⟩ := r.im.fr_inv; exact ⟨us, No, by simp [lstU, e1], q.ws⟩
  · cases e; obtain ⟨F, r⟩ := r; obtain ⟨a, us, G, rfl, e1, _, _, _, q⟩ := r.lst_inv; exact ⟨us, G, by simp [lstU, e1], q⟩
  · cases e
theorem seqP_rel {w : W} {u : U} {ws : List W} (r : Rd h Z w u) (e : seqP w = some ws) : ∃ us G, seqU h u = some us ∧ RWs h Z ws us G ∧ ∀ x, u ≠ .str x := by
  unfold seqP at e
  split at e
  · cases e; obtain ⟨us, rfl, q⟩ := r.im.tup_inv; exact ⟨us, No, rfl, q.ws, by simp⟩
  · cases e; obtain ⟨a, us, rfl, _, e1, q⟩ := r.im.fz_inv; exact ⟨us, No, by simp [seqU, e1], q.ws, by simp⟩
  · cases e; obtain ⟨a, us, rfl, _, e1, q⟩ := r.im.fr_inv; exact ⟨us, No, by simp [seqU, e1], q.ws, by simp⟩
  · cases e; obtain ⟨F, r⟩ := r; obtain ⟨a, us, G, rfl, e1, _, _, _, q⟩ := r.lst_inv; exact ⟨us, G, by simp [seqU, e1], q, by simp⟩
  · cases e; obtain ⟨F, r⟩ := r; obtain ⟨us, rfl, q⟩ := r.tw_inv; exact ⟨us, F, rfl, q, by simp⟩
  · cases e
end
def qAdd : W → W → Option W := fun x y => match x, y with
  | .im (.int i), .im (.int j) => some (.im (.int (i + j)))
  | .im (.str a), .im (.str b) => if a.length + b.length ≤ 10000000 then some (.im (.str (a ++ b))) else none
  | .im (.tup a), .im (.tup b) => if a.length + b.length ≤ 10000000 then some (.im (.tup (a ++ b))) else none
  | x, y => match litP x, litP y with
    | some a, some b => if a.length + b.length ≤ 10000000 ∧ (imL a).isSome ∧ (imL b).isSome then some (.lst (a ++ b)) else none
    | _, _ => none
theorem ov_add : OpV2 vAdd qAdd := by
  intro h Z w1 w2 u1 u2 x zl r1 r2 e
  unfold qAdd at e
  split at e
  · rw [r1.int, r2.int]; cases e; exact gro_im (rp_int _)
  · rw [r1.str, r2.str]
    split at e
    · rename_i hc; cases e; simp only [vAdd, if_pos (small_line hc)]; exact gro_im (rp_str _)
    · cases e
  · obtain ⟨us, rfl, q⟩ := r1.im.tup_inv
    obtain ⟨vs, rfl, q2⟩ := r2.im.tup_inv
    split at e
    · rename_i hc; cases e
      rw [q.length, q2.length] at hc
      simp only [vAdd, if_pos (small_line hc)]; exact gro_im (rp_tup (q.append q2))
    · cases e
  · split at e
    · rename_i a b e1 e2
      obtain ⟨l1, us, G1, rfl, k1, q1⟩ := litP_rel r1 e1
      obtain ⟨l2, vs, G2, rfl, k2, q2⟩ := litP_rel r2 e2
      split at e
      · rename_i hc; cases e
        obtain ⟨hc, i1, i2⟩ := hc
        obtain ⟨p1, i1⟩ := Option.isSome_iff_exists.mp i1
        obtain ⟨p2, i2⟩ := Option.isSome_iff_exists.mp i2
        rw [q1.length, q2.length] at hc
        simp only [vAdd, k1, k2, if_pos (small_line hc)]
        have e3 := imL_eq i1
        have e4 := imL_eq i2
        refine gro_lst (G := No) zl ?_ (imL_app i1 i2)
        have q := (q1.im i1).append (q2.im i2)
        have := q.ws
        rw [List.map_append, ← e3, ← e4] at this
        exact this
      · cases e
    · cases e
theorem rws_rep {h : Hb} {Z : St} {ps : List P} {us : List U} (r : RPs h Z ps us) : ∀ n : Nat, RPs h Z (List.replicate n ps).flatten (List.replicate n us).flatten
  | 0 => RPs.nil
  | n + 1 => by simp only [List.replicate_succ, List.flatten_cons]; exact r.append (rws_rep r n)
noncomputable def qMul : W → W → Option W := fun x y => match x, y with
  | .im (.int i), .im (.int j) => cIf (cMul i j) (some (.im (.int (i * j)))) none
  | x, .im (.int k) => match litP x with
    | some a => cIf (-9223372036854775808 ≤ k ∧ k < 9223372036854775808 ∧ a.length * k.toNat ≤ 10000000 ∧ (imL a).isSome) (some (.lst (List.replicate k.toNat a).flatten)) none
    | _ => none
  | _, _ => none
theorem flat_map {α β : Type} (f : α → β) (n : Nat) (xs : List α) : (List.replicate n (xs.map f)).flatten = ((List.replicate n xs).flatten).map f := by
  induction n with
  | zero => rfl
  | succ n ih => rw [List.replicate_succ, List.replicate_succ, List.flatten_cons, List.flatten_cons, List.map_append, ih]
theorem ov_mul : OpV2 vMul qMul := by
  intro h Z w1 w2 u1 u2 x zl r1 r2 e
  unfold qMul at e
  split at e
  · rw [r1.int, r2.int]
    obtain ⟨hc, rfl⟩ := cIf_some e
    rw [vMul_of hc]; exact gro_im (rp_int _)
  · rename_i k _
    rw [r2.int]
    split at e
    · rename_i a e1
      obtain ⟨l1, us, G1, rfl, k1, q1⟩ := litP_rel r1 e1
      obtain ⟨⟨c1, c2, c3, i1⟩, rfl⟩ := cIf_some e
      obtain ⟨p1, i1⟩ := Option.isSome_iff_exists.mp i1
      rw [q1.length] at c3
      have hc : -9223372036854775808 ≤ k ∧ k < 9223372036854775808 ∧ us.length * k.toNat ≤ sizeLine := ⟨c1, c2, small_line c3⟩
      simp only [vMul, k1, if_pos hc]
      have q := rws_rep (q1.im i1) k.toNat
      have e3 := imL_eq i1
      rw [e3, flat_map]
      exact gro_lst zl q.ws (imL_map _)
    · cases e
  · cases e
def qNeg : W → Option W := fun x => match x with | .im (.int i) => some (.im (.int (-i))) | _ => none
theorem ov_neg : OpV1 vNeg qNeg := by
  intro h Z w u x zl r e
  unfold qNeg at e
  split at e
  · rw [r.int]; cases e; exact gro_im (rp_int _)
  · cases e
def qCmp (c : Int → Int → Bool) : W → W → Option W := fun x y => match x, y with
  | .im (.int i), .im (.int j) => some (.im (.bl (c i j)))
  | _, _ => none
theorem ov_cmp {c : Int → Int → Bool} : OpV2 (vCmp c) (qCmp c) := by
  intro h Z w1 w2 u1 u2 x zl r1 r2 e
  unfold qCmp at e
  split at e
  · rw [r1.int, r2.int]; cases e; exact gro_im (rp_bl _)
  · cases e
/-! ## data -/
def P.toD : Nat → P → Option PyData
  | _, .non => some .none
  | _, .bl b => some (.bool b)
  | _, .int i => some (.int i)
  | _, .str x => some (.str x)
  | n + 1, .tup xs => (mapO (P.toD n) xs).map .tuple
  | n + 1, .fz xs => (mapO (P.toD n) xs).map .list
  | n + 1, .fr xs => (mapO (P.toD n) xs).map .list
  | _, _ => none
theorem mapO_rel {h : Hb} {Z : St} {f : P → Option PyData} {g : U → Option PyData} (hf : ∀ p u d, RP h Z p u → f p = some d → g u = some d) : ∀ {ps : List P} {us : List U} {ds : List PyData}, RPs h Z ps us → mapO f ps = some ds → mapO g us = some ds
  | [], us, ds, r, e => by rw [r.nil_inv]; exact e
  | p :: ps, us, ds, r, e => by
    obtain ⟨u, q, rfl, a, b⟩ := r.cons_inv
    simp only [mapO] at e ⊢
    split at e
    · rename_i y ys e1 e2
      rw [hf _ _ _ a e1, mapO_rel hf b e2]; exact e
    · cases e
theorem toD_rel {h : Hb} {Z : St} : ∀ (n : Nat) (p : P) (u : U) (d : PyData), RP h Z p u → P.toD n p = some d → toD h n u = some d
  | n, .non, u, d, r, e => by unfold RP at r; subst r; unfold P.toD at e; unfold toD; exact e
  | n, .bl b, u, d, r, e => by unfold RP at r; subst r; unfold P.toD at e; unfold toD; exact e
  | n, .int b, u, d, r, e => by unfold RP at r; subst r; unfold P.toD at e; unfold toD; exact e
  | n, .str b, u, d, r, e => by unfold RP at r; subst r; unfold P.toD at e; unfold toD; exact e
  | 0, .tup b, u, d, r, e => by unfold P.toD at e; cases e
  | 0, .fz b, u, d, r, e => by unfold P.toD at e; cases e
  | 0, .fr b, u, d, r, e => by unfold P.toD at e; cases e
  | n, .fin _ _ _, u, d, r, e => by unfold P.toD at e; cases e
  | n + 1, .tup b, u, d, r, e => by
    obtain ⟨us, rfl, q⟩ := r.tup_inv
    unfold P.toD at e; unfold toD
    simp only [Option.map_eq_some_iff] at e ⊢
    obtain ⟨ds, e1, e2⟩ := e
    exact ⟨ds, mapO_rel (fun p u d => toD_rel n p u d) q e1, e2⟩
  | n + 1, .fz b, u, d, r, e => by
    obtain ⟨a, us, rfl, _, k, q⟩ := r.fz_inv
    unfold P.toD at e; unfold toD
    simp only [k, Option.map_eq_some_iff] at e ⊢
    obtain ⟨ds, e1, e2⟩ := e
    exact ⟨ds, mapO_rel (fun p u d => toD_rel n p u d) q e1, e2⟩
  | n + 1, .fr b, u, d, r, e => by
    obtain ⟨a, us, rfl, _, k, q⟩ := r.fr_inv
    unfold P.toD at e; unfold toD
    simp only [k, Option.map_eq_some_iff] at e ⊢
    obtain ⟨ds, e1, e2⟩ := e
    exact ⟨ds, mapO_rel (fun p u d => toD_rel n p u d) q e1, e2⟩
def eqDeep (x y : P) : Option Bool := match P.toD 60 x, P.toD 60 y with
  | some d, some e => if SeqAt.shaped d = true ∧ SeqAt.shaped e = true then some (PyData.eqv d e) else none
  | _, _ => none
def eqP : P → P → Option Bool
  | .int i, .int j => some (decide (i = j))
  | .bl i, .bl j => some (decide (i = j))
  | .str i, .str j => some (decide (i = j))
  | .non, .non => some true
  | .non, .int _ => some false
  | .int _, .non => some false
  | .non, .str _ => some false
  | .str _, .non => some false
  | .non, .bl _ => some false
  | .bl _, .non => some false
  | .int _, .str _ => some false
  | .str _, .int _ => some false
  | x, y => eqDeep x y
theorem eqU_deep {h : Hb} {x y : U} (hn : (∀ i, x ≠ .int i) ∧ (∀ i, x ≠ .bl i) ∧ (∀ i, x ≠ .str i) ∧ x ≠ .non ∨ (∀ i, y ≠ .int i) ∧ (∀ i, y ≠ .bl i) ∧ (∀ i, y ≠ .str i) ∧ y ≠ .non) : eqU h x y = (match toD h 60 x, toD h 60 y with
    | some d, some e => if SeqAt.shaped d = true ∧ SeqAt.shaped e = true then some (PyData.eqv d e) else none
    | _, _ => none) := by
  cases x <;> cases y <;> first | rfl | (exfalso; simp at hn)
theorem eqP_rel {h : Hb} {Z : St} {p q : P} {u v : U} (r1 : RP h Z p u) (r2 : RP h Z q v) {b : Bool} (e : eqP p q = some b) : eqU h u v = some b := by
  have deep : eqDeep p q = some b → (match toD h 60 u, toD h 60 v with
    | some d, some e => if SeqAt.shaped d = true ∧ SeqAt.shaped e = true then some (PyData.eqv d e) else none
    | _, _ => none) = some b := fun e => by
    unfold eqDeep at e
    split at e
    · rename_i d d' e1 e2
      rw [toD_rel 60 p u d r1 e1, toD_rel 60 q v d' r2 e2]
      exact e
    · cases e
  have sh : ∀ {p : P} {u : U}, RP h Z p u → (∃ i, p = .int i ∧ u = .int i) ∨ (∃ i, p = .bl i ∧ u = .bl i) ∨ (∃ i, p = .str i ∧ u = .str i) ∨ (p = .non ∧ u = .non) ∨ (((∀ i, u ≠ .int i) ∧ (∀ i, u ≠ .bl i) ∧ (∀ i, u ≠ .str i) ∧ u ≠ .non) ∧ ((∀ i, p ≠ .int i) ∧ (∀ i, p ≠ .bl i) ∧ (∀ i, p ≠ .str i) ∧ p ≠ .non)) := fun {p u} r => by
    cases p with
    | non => unfold RP at r; exact .inr (.inr (.inr (.inl ⟨rfl, r⟩)))
    | bl i => unfold RP at r; exact .inr (.inl ⟨i, rfl, r⟩)
    | int i => unfold RP at r; exact .inl ⟨i, rfl, r⟩
    | str i => unfold RP at r; exact .inr (.inr (.inl ⟨i, rfl, r⟩))
    | tup ps => obtain ⟨us, rfl, _⟩ := r.tup_inv; exact .inr (.inr (.inr (.inr (by simp))))
    | fz ps => obtain ⟨a, us, rfl, _⟩ := r.fz_inv; exact .inr (.inr (.inr (.inr (by simp))))
    | fr ps => obtain ⟨a, us, rfl, _⟩ := r.fr_inv; exact .inr (.inr (.inr (.inr (by simp))))
    | fin c ns ps => obtain ⟨a, us, rfl, _⟩ := r.fin_inv; exact .inr (.inr (.inr (.inr (by simp))))
  have dp : ∀ {p q : P}, ((∀ i, p ≠ .int i) ∧ (∀ i, p ≠ .bl i) ∧ (∀ i, p ≠ .str i) ∧ p ≠ .non) ∨ ((∀ i, q ≠ .int i) ∧ (∀ i, q ≠ .bl i) ∧ (∀ i, q ≠ .str i) ∧ q ≠ .non) → eqP p q = eqDeep p q := fun {p q} hn => by
    cases p <;> cases q <;> first | rfl | (exfalso; simp at hn)
  rcases sh r1 with ⟨i, rfl, rfl⟩ | ⟨i, rfl, rfl⟩ | ⟨i, rfl, rfl⟩ | ⟨rfl, rfl⟩ | ⟨n1, m1⟩
  all_goals first
    | (rw [eqU_deep (.inl n1)]; exact deep (by rw [← dp (.inl m1)]; exact e))
    | (rcases sh r2 with ⟨j, rfl, rfl⟩ | ⟨j, rfl, rfl⟩ | ⟨j, rfl, rfl⟩ | ⟨rfl, rfl⟩ | ⟨n2, m2⟩
       all_goals first
         | exact e
         | (rw [eqU_deep (.inr n2)]; exact deep (by rw [← dp (.inr m2)]; exact e))
         | exact deep e)
theorem Rd.frz {h : Hb} {Z : St} {w : W} {u : U} (r : Rd h Z w u) : ∃ Z', RP h Z' w.frz u ∧ Sub Z Z' := by
  obtain ⟨G, r⟩ := r
  exact ⟨Un Z G, RW.frz (fun _ => .inl) r fun _ => .inr, fun _ => .inl⟩
theorem RP.up {h : Hb} {Z Z' : St} {p : P} {u : U} (r : RP h Z p u) (s : Sub Z Z') : RP h Z' p u := RP.frame (.refl h Z) s p r
def qEq : W → W → Option W := fun x y => (eqP x.frz y.frz).map fun b => .im (.bl b)
def qNe : W → W → Option W := fun x y => (eqP x.frz y.frz).map fun b => .im (.bl (!b))
theorem eq_rel {h : Hb} {Z : St} {w1 w2 : W} {u1 u2 : U} {b : Bool} (r1 : Rd h Z w1 u1) (r2 : Rd h Z w2 u2) (e : eqP w1.frz w2.frz = some b) : eqU h u1 u2 = some b := by
  obtain ⟨Z1, q1, s1⟩ := r1.frz
  obtain ⟨Z2, q2, s2⟩ := r2.frz
  exact eqP_rel (q1.up (Z' := Un Z1 Z2) fun _ => .inl) (q2.up (Z' := Un Z1 Z2) fun _ => .inr) e
theorem ov_eq : OpV2 vEq qEq := by
  intro h Z w1 w2 u1 u2 x zl r1 r2 e
  unfold qEq at e
  simp only [Option.map_eq_some_iff] at e
  obtain ⟨b, e, rfl⟩ := e
  unfold vEq
  rw [eq_rel r1 r2 e]
  exact gro_im (rp_bl _)
theorem ov_ne : OpV2 vNe qNe := by
  intro h Z w1 w2 u1 u2 x zl r1 r2 e
  unfold qNe at e
  simp only [Option.map_eq_some_iff] at e
  obtain ⟨b, e, rfl⟩ := e
  unfold vNe
  rw [eq_rel r1 r2 e]
  exact gro_im (rp_bl _)
def isNonP : W → Bool
  | .im .non => true
  | _ => false
theorem isNon_rel {h : Hb} {Z : St} {w : W} {u : U} (r : Rd h Z w u) : isNonU u = isNonP w := by
  cases w with
  | im p =>
    have r := r.im
    cases p with
    | non => unfold RP at r; subst r; rfl
    | bl i => unfold RP at r; subst r; rfl
    | int i => unfold RP at r; subst r; rfl
    | str i => unfold RP at r; subst r; rfl
    | tup ps => obtain ⟨us, rfl, _⟩ := r.tup_inv; rfl
    | fz ps => obtain ⟨a, us, rfl, _⟩ := r.fz_inv; rfl
    | fr ps => obtain ⟨a, us, rfl, _⟩ := r.fr_inv; rfl
    | fin c ns ps => obtain ⟨a, us, rfl, _⟩ := r.fin_inv; rfl
  | lst ws => obtain ⟨F, r⟩ := r; obtain ⟨a, us, G, rfl, _⟩ := r.lst_inv; rfl
  | tw ws => obtain ⟨F, r⟩ := r; obtain ⟨us, rfl, _⟩ := r.tw_inv; rfl
  | ins c ns ws => obtain ⟨F, r⟩ := r; unfold RW at r; obtain ⟨a, us, G, rfl, _⟩ := r; rfl
def qIs : W → W → Option W := fun x y => match y with | .im .non => some (.im (.bl (isNonP x))) | .im (.bl b) => (match x with | .im (.bl a) => some (.im (.bl (decide (a = b)))) | _ => none) | _ => none
def qIsN : W → W → Option W := fun x y => match y with | .im .non => some (.im (.bl (!isNonP x))) | .im (.bl b) => (match x with | .im (.bl a) => some (.im (.bl (!decide (a = b)))) | _ => none) | _ => none
theorem ov_is : OpV2 vIs qIs := by
  intro h Z w1 w2 u1 u2 x zl r1 r2 e
  unfold qIs at e
  split at e
  · cases e; rw [r2.non]; unfold vIs; rw [isNon_rel r1]; exact gro_im (rp_bl _)
  · split at e
    · cases e; rw [r2.bl, r1.bl]; exact gro_im (rp_bl _)
    · cases e
  · cases e
theorem ov_isN : OpV2 vIsN qIsN := by
  intro h Z w1 w2 u1 u2 x zl r1 r2 e
  unfold qIsN at e
  split at e
  · cases e; rw [r2.non]; unfold vIsN; rw [isNon_rel r1]; exact gro_im (rp_bl _)
  · split at e
    · cases e; rw [r2.bl, r1.bl]; exact gro_im (rp_bl _)
    · cases e
  · cases e
/-! ## slices, turned round -/
def qSl (lo hi : Option Int) : W → Option W := fun x => match x with
  | .im (.tup ps) => some (.im (.tup (cutU ps lo hi)))
  | .im (.str z) => if z.length ≤ 10000000 then some (.im (.str (cutS z lo hi))) else none
  | x => match lstP x with
    | some ws => if (imL ws).isSome then some (.lst (cutU ws lo hi)) else none
    | none => none
theorem imL_cut {ws : List W} {ps : List P} (e : imL ws = some ps) (lo hi : Option Int) : imL (cutU ws lo hi) = some (cutU ps lo hi) := by
  rw [imL_eq e]
  unfold cutU
  rw [← List.map_drop, ← List.map_take, imL_map]
  simp
theorem lstU_cases {h : Hb} {u : U} {us : List U} (e : lstU h u = some us) : ∃ a, u = .ref a ∧ (h[a]? = some (.lst us) ∨ h[a]? = some (.fro us)) := by
  cases u with
  | ref a =>
    refine ⟨a, rfl, ?_⟩
    simp only [lstU] at e
    split at e
    · rename_i xs q; cases e; exact .inl q
    · rename_i xs q; cases e; exact .inr q
    · cases e
  | _ => cases e
theorem ov_sl (lo hi : Option Int) : OpV1 (fun x h => vSl x lo hi h) (qSl lo hi) := by
  intro h Z w u x zl r e
  unfold qSl at e
  split at e
  · obtain ⟨us, rfl, q⟩ := r.im.tup_inv
    cases e
    exact gro_im (rp_tup (q.cut lo hi))
  · rw [r.str]
    split at e
    · rename_i hz; cases e; simp only [vSl, if_pos (small_line hz)]; exact gro_im (rp_str _)
    · cases e
  · split at e
    · rename_i ws e1
      split at e
      · rename_i i1; cases e
        obtain ⟨ps, i1⟩ := Option.isSome_iff_exists.mp i1
        obtain ⟨us, G, e2, q⟩ := lstP_rel r e1
        obtain ⟨a, rfl, e3 | e3⟩ := lstU_cases e2
        · simp only [vSl, e3]; exact gro_lst zl (q.cut lo hi) (imL_cut i1 lo hi)
        · simp only [vSl, e3]; exact gro_lst zl (q.cut lo hi) (imL_cut i1 lo hi)
      · cases e
    · cases e
def qRev : W → Option W := fun x => match x with
  | .im (.tup ps) => some (.im (.tup ps.reverse))
  | x => match lstP x with
    | some ws => if (imL ws).isSome then some (.lst ws.reverse) else none
    | none => none
theorem imL_rev {ws : List W} {ps : List P} (e : imL ws = some ps) : imL ws.reverse = some ps.reverse := by
  rw [imL_eq e, ← List.map_reverse, imL_map]
theorem ov_rev : OpV1 vRev qRev := by
  intro h Z w u x zl r e
  unfold qRev at e
  split at e
  · obtain ⟨us, rfl, q⟩ := r.im.tup_inv
    cases e
    exact gro_im (rp_tup q.reverse)
  · split at e
    · rename_i ws e1
      split at e
      · rename_i i1; cases e
        obtain ⟨ps, i1⟩ := Option.isSome_iff_exists.mp i1
        obtain ⟨us, G, e2, q⟩ := lstP_rel r e1
        obtain ⟨a, rfl, e3 | e3⟩ := lstU_cases e2
        · simp only [vRev, e3]; exact gro_lst zl q.reverse (imL_rev i1)
        · simp only [vRev, e3]; exact gro_lst zl q.reverse (imL_rev i1)
      · cases e
    · cases e
/-! ## what kind of thing -/
def tyW : W → Option String
  | .im .non => some "NoneType"
  | .im (.bl _) => some "bool"
  | .im (.int _) => some "int"
  | .im (.str _) => some "str"
  | .im (.tup _) => some "tuple"
  | .im (.fz _) => some "list"
  | .im (.fr _) => some "list"
  | .lst _ => some "list"
  | .tw _ => some "tuple"
  | _ => none
theorem tyW_rel {h : Hb} {Z : St} {w : W} {u : U} {t : String} (r : Rd h Z w u) (e : tyW w = some t) : tyU h u = some t := by
  unfold tyW at e
  split at e
  · rw [r.non]; exact e
  · rw [r.bl]; exact e
  · rw [r.int]; exact e
  · rw [r.str]; exact e
  · obtain ⟨us, rfl, _⟩ := r.im.tup_inv; exact e
  · obtain ⟨a, us, rfl, _, k, _⟩ := r.im.fz_inv; simp only [tyU, k]; exact e
  · obtain ⟨a, us, rfl, _, k, _⟩ := r.im.fr_inv; simp only [tyU, k]; exact e
  · obtain ⟨F, r⟩ := r; obtain ⟨a, us, G, rfl, k, _⟩ := r.lst_inv; simp only [tyU, k]; exact e
  · obtain ⟨F, r⟩ := r; obtain ⟨us, rfl, _⟩ := r.tw_inv; exact e
  · cases e
def qIsi (T : String) : W → Option W := fun x => match tyW x with
  | some t => (kitB t T).map fun b => .im (.bl b)
  | none => none
theorem ov_isi (T : String) : OpV1 (isiU T) (qIsi T) := by
  intro h Z w u x zl r e
  unfold qIsi at e
  split at e
  · rename_i t e1
    simp only [Option.map_eq_some_iff] at e
    obtain ⟨b, e, rfl⟩ := e
    unfold isiU
    rw [tyW_rel r e1]
    simp only [e]
    exact gro_im (rp_bl _)
  · cases e
/-! ## calls of built-ins -/
theorem Rds.nil_inv {h : Hb} {Z : St} {us : List U} (r : Rds h Z [] us) : us = [] := r
theorem Rds.cons_inv {h : Hb} {Z : St} {w : W} {ws : List W} {us : List U} (r : Rds h Z (w :: ws) us) : ∃ u r, us = u :: r ∧ Rd h Z w u ∧ Rds h Z ws r := r
theorem Rds.one {h : Hb} {Z : St} {w : W} {us : List U} (r : Rds h Z [w] us) : ∃ u, us = [u] ∧ Rd h Z w u := by
  obtain ⟨u, q, rfl, a, b⟩ := r.cons_inv
  rw [b.nil_inv]; exact ⟨u, rfl, a⟩
theorem Rds.two {h : Hb} {Z : St} {w w' : W} {us : List U} (r : Rds h Z [w, w'] us) : ∃ u v, us = [u, v] ∧ Rd h Z w u ∧ Rd h Z w' v := by
  obtain ⟨u, q, rfl, a, b⟩ := r.cons_inv
  obtain ⟨v, rfl, b2⟩ := b.one
  exact ⟨u, v, rfl, a, b2⟩
def kInt : List W → Option W
  | [.im (.int i)] => some (.im (.int i))
  | [.im (.bl k)] => some (.im (.int (if k then 1 else 0)))
  | _ => none
theorem ov_int : OpVs cInt kInt := by
  intro h Z ws us x zl r e
  unfold kInt at e
  split at e
  · obtain ⟨u, rfl, a⟩ := r.one; rw [a.int]; cases e; exact gro_im (rp_int _)
  · obtain ⟨u, rfl, a⟩ := r.one; rw [a.bl]; cases e; exact gro_im (rp_int _)
  · cases e
def kLen : List W → Option W
  | [.im (.str y)] => if y.length ≤ 10000000 then some (.im (.int y.length)) else none
  | [x] => (seqP x).map fun ws => .im (.int ws.length)
  | _ => none
theorem ov_len : OpVs cLen kLen := by
  intro h Z ws us x zl r e
  unfold kLen at e
  split at e
  · obtain ⟨u, rfl, a⟩ := r.one; rw [a.str]
    split at e
    · rename_i hz; cases e; simp only [cLen, if_pos (small_line hz)]; exact gro_im (rp_int _)
    · cases e
  · obtain ⟨u, rfl, a⟩ := r.one
    simp only [Option.map_eq_some_iff] at e
    obtain ⟨ws, e, rfl⟩ := e
    obtain ⟨us, G, e1, q, ns⟩ := seqP_rel a e
    rw [q.length]
    unfold cLen
    split
    · rename_i y hy; cases hy; exact absurd rfl (ns y)
    · rename_i y _ hy; cases hy; simp only [e1]; exact gro_im (rp_int _)
    · rename_i k1 k2; exact absurd rfl (k2 u)
  · cases e
def kAbs : List W → Option W
  | [.im (.int i)] => some (.im (.int (if i < 0 then -i else i)))
  | _ => none
theorem ov_abs : OpVs cAbs kAbs := by
  intro h Z ws us x zl r e
  unfold kAbs at e
  split at e
  · obtain ⟨u, rfl, a⟩ := r.one; rw [a.int]; cases e; exact gro_im (rp_int _)
  · cases e
def boolsP : List W → Option (List Bool)
  | [] => some []
  | .im (.bl b) :: r => (boolsP r).map (b :: ·)
  | _ => none
def intsP : List W → Option (List Int)
  | [] => some []
  | .im (.int b) :: r => (intsP r).map (b :: ·)
  | _ => none
@[simp] theorem boolsP_map {α : Type} (f : α → Bool) (xs : List α) : boolsP (xs.map fun x => .im (.bl (f x))) = some (xs.map f) := by
  induction xs with
  | nil => rfl
  | cons x xs ih => simp [boolsP, ih]
@[simp] theorem intsP_map {α : Type} (f : α → Int) (xs : List α) : intsP (xs.map fun x => .im (.int (f x))) = some (xs.map f) := by
  induction xs with
  | nil => rfl
  | cons x xs ih => simp [intsP, ih]
theorem bools_rel {h : Hb} {Z : St} : ∀ {ws : List W} {us : List U} {G : St} {bs : List Bool}, RWs h Z ws us G → boolsP ws = some bs → boolsU us = some bs
  | [], us, G, bs, r, e => by rw [r.nil_inv]; exact e
  | w :: ws, us, G, bs, r, e => by
    obtain ⟨u, q, F1, F2, rfl, d, s1, s2, a, b⟩ := r.cons_inv
    unfold boolsP at e
    split at e
    · rename_i h1; cases h1
    · rename_i b' r' h1
      cases h1
      simp only [Option.map_eq_some_iff] at e
      obtain ⟨cs, e, rfl⟩ := e
      have := a.im_inv; unfold RP at this; subst this
      simp [boolsU, bools_rel b e]
    · cases e
theorem ints_rel {h : Hb} {Z : St} : ∀ {ws : List W} {us : List U} {G : St} {bs : List Int}, RWs h Z ws us G → intsP ws = some bs → intsU us = some bs
  | [], us, G, bs, r, e => by rw [r.nil_inv]; exact e
  | w :: ws, us, G, bs, r, e => by
    obtain ⟨u, q, F1, F2, rfl, d, s1, s2, a, b⟩ := r.cons_inv
    unfold intsP at e
    split at e
    · rename_i h1; cases h1
    · rename_i b' r' h1
      cases h1
      simp only [Option.map_eq_some_iff] at e
      obtain ⟨cs, e, rfl⟩ := e
      have := a.im_inv; unfold RP at this; subst this
      simp [intsU, ints_rel b e]
    · cases e
def kB (f : List Bool → Bool) : List W → Option W
  | [x] => ((lstP x).bind boolsP).map fun bs => .im (.bl (f bs))
  | _ => none
abbrev kAll := kB fun bs => bs.all id
abbrev kAny := kB fun bs => bs.any id
theorem ov_B {f : List Bool → Bool} : OpVs (cB f) (kB f) := by
  intro h Z ws us x zl r e
  unfold kB at e
  split at e
  · obtain ⟨u, rfl, a⟩ := r.one
    simp only [Option.map_eq_some_iff, Option.bind_eq_some_iff] at e
    obtain ⟨bs, ⟨ws, e1, e2⟩, rfl⟩ := e
    obtain ⟨us, G, e3, q⟩ := lstP_rel a e1
    simp only [cB, e3, Option.bind_some, bools_rel q e2]
    exact gro_im (rp_bl _)
  · cases e
theorem ov_all : OpVs cAll kAll := ov_B
theorem ov_any : OpVs cAny kAny := ov_B
def sumP : W → Option (List W)
  | .im (.tup ps) => some (ps.map .im)
  | x => lstP x
theorem sumP_rel {h : Hb} {Z : St} {w : W} {u : U} {ws : List W} (r : Rd h Z w u) (e : sumP w = some ws) : ∃ us G, sumU h u = some us ∧ RWs h Z ws us G := by
  unfold sumP at e
  split at e
  · cases e
    obtain ⟨G, r⟩ := r
    obtain ⟨us, rfl, q⟩ := RP.tup_inv r.im_inv
    exact ⟨us, No, rfl, q.ws⟩
  · obtain ⟨us, G, e3, q⟩ := lstP_rel r e
    refine ⟨us, G, ?_, q⟩
    cases u <;> first | exact e3 | (simp [lstU] at e3)
def kSum : List W → Option W
  | [x] => ((sumP x).bind intsP).map fun bs => .im (.int bs.sum)
  | _ => none
theorem ov_sum : OpVs cSum kSum := by
  intro h Z ws us x zl r e
  unfold kSum at e
  split at e
  · obtain ⟨u, rfl, a⟩ := r.one
    simp only [Option.map_eq_some_iff, Option.bind_eq_some_iff] at e
    obtain ⟨bs, ⟨ws, e1, e2⟩, rfl⟩ := e
    obtain ⟨us, G, e3, q⟩ := sumP_rel a e1
    simp only [cSum, e3, Option.bind_some, ints_rel q e2]
    exact gro_im (rp_int _)
  · cases e
def kMax : List W → Option W
  | [.im (.int i), .im (.int j)] => some (.im (.int (if j > i then j else i)))
  | [x] => (((lstP x).bind intsP).bind maxI).map fun k => .im (.int k)
  | _ => none
def kMin : List W → Option W
  | [.im (.int i), .im (.int j)] => some (.im (.int (if j < i then j else i)))
  | [x] => (((lstP x).bind intsP).bind minI).map fun k => .im (.int k)
  | _ => none
theorem ov_max : OpVs cMax kMax := by
  intro h Z ws us x zl r e
  unfold kMax at e
  split at e
  · obtain ⟨u, v, rfl, a, b⟩ := r.two; rw [a.int, b.int]; cases e; exact gro_im (rp_int _)
  · obtain ⟨u, rfl, a⟩ := r.one
    simp only [Option.map_eq_some_iff, Option.bind_eq_some_iff] at e
    obtain ⟨k, ⟨bs, ⟨ws, e1, e2⟩, e4⟩, rfl⟩ := e
    obtain ⟨us, G, e3, q⟩ := lstP_rel a e1
    simp only [cMax, e3, Option.bind_some, ints_rel q e2, e4]
    exact gro_im (rp_int _)
  · cases e
theorem ov_min : OpVs cMin kMin := by
  intro h Z ws us x zl r e
  unfold kMin at e
  split at e
  · obtain ⟨u, v, rfl, a, b⟩ := r.two; rw [a.int, b.int]; cases e; exact gro_im (rp_int _)
  · obtain ⟨u, rfl, a⟩ := r.one
    simp only [Option.map_eq_some_iff, Option.bind_eq_some_iff] at e
    obtain ⟨k, ⟨bs, ⟨ws, e1, e2⟩, e4⟩, rfl⟩ := e
    obtain ⟨us, G, e3, q⟩ := lstP_rel a e1
    simp only [cMin, e3, Option.bind_some, ints_rel q e2, e4]
    exact gro_im (rp_int _)
  · cases e
def pairsP : List W → Option (List (Int × Int))
  | [] => some []
  | .im (.tup [.int a, .int b]) :: r => (pairsP r).map ((a, b) :: ·)
  | _ => none
def prP (p : Int × Int) : P := .tup [.int p.1, .int p.2]
theorem pairs_rel {h : Hb} {Z : St} : ∀ {ws : List W} {us : List U} {G : St} {ps : List (Int × Int)}, RWs h Z ws us G → pairsP ws = some ps → us = ps.map prU
  | [], us, G, ps, r, e => by rw [r.nil_inv]; cases e; rfl
  | w :: ws, us, G, ps, r, e => by
    obtain ⟨u, q, F1, F2, rfl, d, s1, s2, a, b⟩ := r.cons_inv
    unfold pairsP at e
    split at e
    · rename_i h1; cases h1
    · rename_i x y r' h1
      cases h1
      simp only [Option.map_eq_some_iff] at e
      obtain ⟨qs, e, rfl⟩ := e
      obtain ⟨us, rfl, q2⟩ := RP.tup_inv a.im_inv
      obtain ⟨u1, r1, rfl, a1, b1⟩ := q2.cons_inv
      obtain ⟨u2, r2, rfl, a2, b2⟩ := b1.cons_inv
      rw [b2.nil_inv]
      have e1 : u1 = .int x := by unfold RP at a1; exact a1
      have e2 : u2 = .int y := by unfold RP at a2; exact a2
      rw [e1, e2, pairs_rel b e]; rfl
    · cases e
theorem pairsU_map (ps : List (Int × Int)) : pairsU (ps.map prU) = some ps := by
  induction ps with
  | nil => rfl
  | cons p ps ih => rw [List.map_cons]; unfold prU pairsU; rw [show List.map (fun p : Int × Int => U.tup [.int p.1, .int p.2]) ps = ps.map prU from rfl, ih]; rfl
def kSrt : List W → Option W
  | [x] => match lstP x with
    | some ws => match intsP ws with
      | some bs => some (.lst ((sortI bs).map fun b => .im (.int b)))
      | none => (pairsP ws).map fun ps => .lst ((sortP ps).map fun p => .im (prP p))
    | none => none
  | _ => none
theorem rps_ints3 {h : Hb} {Z : St} : ∀ (xs : List Int), RPs h Z (xs.map .int) (xs.map .int)
  | [] => .nil
  | x :: xs => .cons (rp_int x) (rps_ints3 xs)
theorem rps_prs {h : Hb} {Z : St} : ∀ (ps : List (Int × Int)), RPs h Z (ps.map prP) (ps.map prU)
  | [] => .nil
  | p :: ps => .cons (rp_tup (.cons (rp_int _) (.cons (rp_int _) .nil))) (rps_prs ps)
theorem ov_srt : OpVs cSrt kSrt := by
  intro h Z ws us x zl r e
  unfold kSrt at e
  split at e
  · obtain ⟨u, rfl, a⟩ := r.one
    split at e
    · rename_i ws e1
      obtain ⟨us, G, e3, q⟩ := lstP_rel a e1
      split at e
      · rename_i bs e2
        cases e
        simp only [cSrt, e3, ints_rel q e2]
        have q := (rps_ints3 (h := h) (Z := Z) (sortI bs)).ws
        rw [List.map_map] at q
        exact gro_lst zl q (ps := (sortI bs).map .int) (imL_map' _ _)
      · rename_i e2
        simp only [Option.map_eq_some_iff] at e
        obtain ⟨ps, e4, rfl⟩ := e
        have eu := pairs_rel q e4
        have ni : intsU us = none := by
          cases ps with
          | nil =>
            rw [eu] at q
            cases ws with
            | nil => cases e2
            | cons w ws => obtain ⟨u, r, F1, F2, z, _⟩ := q.cons_inv; cases z
          | cons p ps => rw [eu]; rfl
        simp only [cSrt, e3, ni]
        rw [eu, pairsU_map]
        have q := (rps_prs (h := h) (Z := Z) (sortP ps)).ws
        rw [List.map_map] at q
        exact gro_lst zl q (ps := (sortP ps).map prP) (imL_map' _ _)
    · cases e
  · cases e
def kLst : List W → Option W
  | [x] => match seqP x with | some ws => if (imL ws).isSome then some (.lst ws) else none | none => none
  | _ => none
theorem ov_lst : OpVs cLst kLst := by
  intro h Z ws us x zl r e
  unfold kLst at e
  split at e
  · obtain ⟨u, rfl, a⟩ := r.one
    split at e
    · rename_i ws e1
      split at e
      · rename_i i1; cases e
        obtain ⟨ps, i1⟩ := Option.isSome_iff_exists.mp i1
        obtain ⟨us, G, e2, q, _⟩ := seqP_rel a e1
        simp only [cLst, e2]
        exact gro_lst zl q i1
      · cases e
    · cases e
  · cases e
def kTup : List W → Option W
  | [x] => match seqP x with | some ws => (imL ws).map fun ps => .im (.tup ps) | none => none
  | _ => none
theorem ov_tup : OpVs cTup kTup := by
  intro h Z ws us x zl r e
  unfold kTup at e
  split at e
  · obtain ⟨u, rfl, a⟩ := r.one
    split at e
    · rename_i ws e1
      simp only [Option.map_eq_some_iff] at e
      obtain ⟨ps, i1, rfl⟩ := e
      obtain ⟨us, G, e2, q, _⟩ := seqP_rel a e1
      have q := q.im i1
      cases u with
      | tup xs => cases e2; exact gro_im (rp_tup q)
      | ref l =>
        have : lstU h (.ref l) = some us := by
          simp only [seqU] at e2
          simp only [lstU]
          exact e2
        simp only [cTup, this]
        exact gro_im (rp_tup q)
      | _ => cases e2
    · cases e
  · cases e
/-- an item -/
def ixE (x : W) (i : Int) : Option W := match x with
  | .im (.str z) => if z.length ≤ 10000000 then (atI z.cps.toList i).map fun c => .im (.str ⟨#[c]⟩) else none
  | x => (seqP x).bind fun ws => L2.atI ws i
end Lz
namespace Lz
open PySem PySem.Spec PyProof.Rows L2

/-! # expressions -/
abbrev VE := Vs → VR W
abbrev VH := Vs → VR Hd
abbrev VB := Vs → VR Bool
abbrev VA := Vs → VR (List W)
abbrev VK2 := Vs → VR (List Hd)
def RWr : Rl U W := fun h Z _ w u F => RW h Z w u F
def RBr : Rl Bool Bool := fun _ _ _ w u F => u = w ∧ F = No
def RWsr : Rl (List U) (List W) := fun h Z _ w u F => RWs h Z w u F
def RHs (σ : Sg) (I J : List Nat) (h : Hb) (Z : St) (s : Vs) : List Hd → List U → St → Prop
  | [], us, F => us = []
  | d :: ds, us, F => ∃ u r F1 F2, us = u :: r ∧ Dis F1 F2 ∧ Sub F1 F ∧ Sub F2 F ∧ RH σ I J h Z s d u F1 ∧ RHs σ I J h Z s ds r F2
structure SVE (M : List Nat) (f : Ev) (g : VE) : Prop where
  run : ∀ (s : Vs) (σ : Sg) (h : Hb) (Z : St) (A : Nat → St), RSt h Z s σ A → Ok h Z A No → Po M σ RWr h Z A No s (f σ h) (g s)
structure SVH (M I J : List Nat) (f : Ev) (g : VH) : Prop where
  run : ∀ (s : Vs) (σ : Sg) (h : Hb) (Z : St) (A : Nat → St), RSt h Z s σ A → Ok h Z A No → Po M σ (RH σ I J) h Z A No s (f σ h) (g s)
structure SVB (M : List Nat) (f : Eb) (g : VB) : Prop where
  run : ∀ (s : Vs) (σ : Sg) (h : Hb) (Z : St) (A : Nat → St), RSt h Z s σ A → Ok h Z A No → Po M σ RBr h Z A No s (f σ h) (g s)
structure SVA (M : List Nat) (f : Ea) (g : VA) : Prop where
  run : ∀ (s : Vs) (σ : Sg) (h : Hb) (Z : St) (A : Nat → St), RSt h Z s σ A → Ok h Z A No → Po M σ RWsr h Z A No s (f σ h) (g s)
structure SVK (M I J : List Nat) (f : Ea) (g : VK2) : Prop where
  run : ∀ (s : Vs) (σ : Sg) (h : Hb) (Z : St) (A : Nat → St), RSt h Z s σ A → Ok h Z A No → Po M σ (fun h Z s w u F => RHs σ I J h Z s w u F) h Z A No s (f σ h) (g s)
section
variable {h h1 : Hb} {Z Z1 F F1 B : St} {A A1 : Nat → St} {s s1 : Vs} {M M1 M2 M3 I J I1 I2 J1 J2 : List Nat} {σ : Sg} {fa fb fc : Ev} {α β γ δ : Type}
theorem ok_no (o : Ok h Z A F) : Ok h Z A No := o.fsub fun _ x => x.elim
/-- while B is held -/
theorem Po.beside {r1 : Rl α β} {r2 : Rl γ δ} {R : Res α} {V : VR β} {kR : α → Hb → Res γ} {kV : β → Vs → VR δ} (o : Ok h Z A B) (p : Po M1 σ r1 h Z A No s R V)
    (k : ∀ u w h1 Z1 A1 F1 s1, V = .ok w s1 → r1 h1 Z1 s1 w u F1 → RSt h1 Z1 s1 σ A1 → Ok h1 Z1 A1 (Un F1 B) → Dis F1 B → Keep h h1 B → Keep h h1 Z → Sub Z Z1 → Stp M1 h Z A No s h1 Z1 A1 F1 s1 → Po M2 σ r2 h1 Z1 A1 (Un F1 B) s1 (kR u h1) (kV w s1)) :
    Po (M1 ++ M2) σ r2 h Z A B s (R.bind kR) (V.bind kV) := by
  have := Po.bind (F := No) (B := B) (r2 := r2) (kR := kR) (kV := kV) (M2 := M2) (by rw [no_un]; exact o) (fun _ x => x.elim) p k
  rwa [no_un] at this
/-- the end of an operation that reads -/
theorem Po.gro {w : W} {R : Res U} (rs : RSt h Z s σ A) (o : Ok h Z A F) (g : Gro h Z w R) : Po M σ RWr h Z A F s R (.ok w s) := by
  obtain ⟨u, h', F', rfl, le, old, r, fr⟩ := g
  have kz : Keep h h' Z := fun a z => old a (o.lz a z)
  refine ⟨u, h', Z, A, F', rfl, r, ⟨rs.1, fun i w e => ?_⟩, ⟨fun i a x => Nat.lt_of_lt_of_le (o.la i a x) le, fun a x => (fr a x).2, fun a z => Nat.lt_of_lt_of_le (o.lz a z) le, o.aa, fun i a x y => ?_, o.az, fun a x z => ?_⟩,
    ⟨le, fun a la _ _ => old a la, fun _ z => z, fun _ z => .inl z, fun i a x => .inl ⟨i, x⟩, fun a x => .inr (.inr (fr a x).1), rfl, fun i _ => .inr ⟨rfl, fun a x => old a (o.la i a x), .refl _⟩⟩⟩
  · obtain ⟨v, e1, r1⟩ := rs.2 i w e
    exact ⟨v, e1, RW.frame kz (.refl Z) w (fun a x => old a (o.la i a x)) (.refl _) r1⟩
  · have := o.la i a x; have := (fr a y).1; omega
  · have := o.lz a z; have := (fr a x).1; omega
theorem zlen (o : Ok h Z A F) : ∀ a, Z a → a < h.length := o.lz
theorem RH.rd {d : Hd} {u : U} {w : W} (r : RH σ I J h Z s d u F) (rs : RSt h Z s σ A) (e : Lz.rd s d = some w) : Rd h Z w u := by
  obtain ⟨G, h1, _⟩ := r.read rs e
  exact ⟨G, h1⟩
theorem RWr.sub {w : W} {u : U} (r : RW h Z w u F) (sb : Sub F F1) : RW h Z w u F1 := r.mono sb

/-! values -/
def qVar (i : Nat) : VE := fun s => match s[i]? with
  | some (some (.im p)) => .ok (.im p) s
  | some (some w) => .ok w (s.set i none)
  | _ => .bad
/-- a slot is emptied -/
theorem RSt.drop (rs : RSt h Z s σ A) (i : Nat) : RSt h Z (s.set i none) σ (fun j a => j ≠ i ∧ A j a) := by
  refine ⟨by simp [rs.1], fun j w e => ?_⟩
  by_cases c : i = j
  · subst c
    rw [List.getElem?_set] at e
    simp at e
  · rw [List.getElem?_set_ne c] at e
    obtain ⟨u, e1, r⟩ := rs.2 j w e
    exact ⟨u, e1, r.mono fun a x => ⟨fun z => c z.symm, x⟩⟩
theorem sv_var (i : Nat) : SVE [] (eVar i) (qVar i) := by
  refine ⟨fun s σ h Z A rs o => ?_⟩
  unfold qVar
  split
  · rename_i p e
    obtain ⟨u, e1, r⟩ := rs.2 i _ e
    have : eVar i σ h = .ok u h := by unfold eVar; rw [e1]
    rw [this]
    exact Po.ok (F1 := No) (.mk_im r.im_inv) (.refl _) rs o
  · rename_i w _ e
    obtain ⟨u, e1, r⟩ := rs.2 i _ e
    have : eVar i σ h = .ok u h := by unfold eVar; rw [e1]
    rw [this]
    refine ⟨u, h, Z, _, A i, rfl, r, rs.drop i, ⟨fun j a x => o.la j a x.2, fun a x => o.la i a x, o.lz, fun j k a x y => o.aa j k a x.2 y.2, fun j a x y => x.1 (o.aa j i a x.2 y), fun j a x => o.az j a x.2, fun a x => o.az i a x⟩,
      ⟨Nat.le_refl _, fun _ _ _ _ => rfl, fun _ z => z, fun _ z => .inl z, fun j a x => .inl ⟨j, x.2⟩, fun a x => .inl ⟨i, x⟩, by simp, fun j _ => ?_⟩⟩
    by_cases c : i = j
    · subst c
      have : i < s.length := (List.getElem?_eq_some_iff.mp e).1
      exact .inl (by rw [List.getElem?_set_self this])
    · exact .inr ⟨List.getElem?_set_ne c, .refl _ _, fun a x => ⟨fun z => c z.symm, x⟩⟩
  · trivial
/-- shared from now on: it is read only -/
def qShr (i : Nat) : VE := fun s => match s[i]? with
  | some (some w) => .ok (.im w.frz) (s.set i (some (.im w.frz)))
  | _ => .bad
theorem sv_shr (i : Nat) : SVE [i] (eVar i) (qShr i) := by
  refine ⟨fun s σ h Z A rs o => ?_⟩
  unfold qShr
  split
  · rename_i w e
    obtain ⟨u, e1, r⟩ := rs.2 i _ e
    have : eVar i σ h = .ok u h := by unfold eVar; rw [e1]
    rw [this]
    have li : i < s.length := (List.getElem?_eq_some_iff.mp e).1
    have rp : RP h (Un Z (A i)) w.frz u := RW.frz (fun _ => .inl) r fun _ => .inr
    refine ⟨u, h, Un Z (A i), fun j a => j ≠ i ∧ A j a, No, rfl, .mk_im rp, ⟨by simp [rs.1], fun j w' e' => ?_⟩, ⟨fun j a x => o.la j a x.2, fun a x => x.elim, fun a x => x.elim (o.lz a) (o.la i a), fun j k a x y => o.aa j k a x.2 y.2, fun j a _ x => x, fun j a x z => z.elim (o.az j a x.2) fun y => x.1 (o.aa j i a x.2 y), fun _ x => x.elim⟩,
      ⟨Nat.le_refl _, fun _ _ _ _ => rfl, fun _ => .inl, fun a z => z.imp id fun y => .inl ⟨i, y⟩, fun j a x => .inl ⟨j, x.2⟩, fun _ x => x.elim, by simp, fun j hj => ?_⟩⟩
    · by_cases c : i = j
      · subst c
        rw [List.getElem?_set_self li] at e'
        cases e'
        exact ⟨u, e1, .mk_im rp⟩
      · rw [List.getElem?_set_ne c] at e'
        obtain ⟨u', e2, r2⟩ := rs.2 j _ e'
        exact ⟨u', e2, RW.frame (.refl h Z) (fun _ => .inl) _ (.refl h _) (fun a x => ⟨fun z => c z.symm, x⟩) r2⟩
    · have c : i ≠ j := fun z => hj (by simp [z])
      exact .inr ⟨List.getElem?_set_ne c, .refl _ _, fun a x => ⟨fun z => c z.symm, x⟩⟩
  · trivial
mutual
def P.toU : P → U
  | .non => .non
  | .bl b => .bl b
  | .int i => .int i
  | .str x => .str x
  | .tup ps => .tup (toUs ps)
  | _ => .non
def toUs : List P → List U
  | [] => []
  | p :: ps => p.toU :: toUs ps
end
mutual
def P.pure : P → Bool
  | .non => true
  | .bl b => true
  | .int i => true
  | .str x => true
  | .tup ps => pures ps
  | _ => false
def pures : List P → Bool
  | [] => true
  | p :: ps => p.pure && pures ps
end
mutual
theorem rp_pure : ∀ (p : P), p.pure = true → RP h Z p p.toU
  | .non, _ => by unfold RP P.toU; rfl
  | .bl b, _ => by unfold RP P.toU; rfl
  | .int i, _ => by unfold RP P.toU; rfl
  | .str x, _ => by unfold RP P.toU; rfl
  | .tup ps, e => by unfold RP P.toU; unfold P.pure at e; exact ⟨_, rfl, rps_pure ps e⟩
  | .fz _, e => by unfold P.pure at e; cases e
  | .fr _, e => by unfold P.pure at e; cases e
  | .fin _ _ _, e => by unfold P.pure at e; cases e
theorem rps_pure : ∀ (ps : List P), pures ps = true → RPs h Z ps (toUs ps)
  | [], _ => by unfold toUs; exact .nil
  | p :: ps, e => by
    unfold pures at e
    rw [Bool.and_eq_true] at e
    unfold toUs
    exact .cons (rp_pure p e.1) (rps_pure ps e.2)
end
def qCon (p : P) : VE := fun s => .ok (.im p) s
theorem sv_con {u : U} (p : P) (e : p.toU = u) (hp : p.pure = true) : SVE [] (eCon u) (qCon p) := by
  refine ⟨fun s σ h Z A rs o => ?_⟩
  subst e
  exact Po.ok (F1 := No) (.mk_im (rp_pure p hp)) (.refl _) rs o
/-! handles -/
def hVar (i : Nat) : VH := fun s => match s[i]? with
  | some (some (.im p)) => .ok (.v (.im p)) s
  | some (some _) => .ok (.at i []) s
  | _ => .bad
theorem sv_hvar (i : Nat) : SVH [] [] [i] (eVar i) (hVar i) := by
  refine ⟨fun s σ h Z A rs o => ?_⟩
  unfold hVar
  split
  · rename_i p e
    obtain ⟨u, e1, r⟩ := rs.2 i _ e
    have : eVar i σ h = .ok u h := by unfold eVar; rw [e1]
    rw [this]
    exact Po.ok (F1 := No) (show RW h Z _ u No from .mk_im r.im_inv) (.refl _) rs o
  · rename_i w _ e
    obtain ⟨u, e1, r⟩ := rs.2 i _ e
    have : eVar i σ h = .ok u h := by unfold eVar; rw [e1]
    rw [this]
    exact Po.ok (F1 := No) (show RH σ [] [i] h Z s (.at i []) u No from ⟨⟨u, e1, fun _ => rfl, fun _ _ => rfl⟩, fun z => absurd rfl z, by simp⟩) (.refl _) rs o
  · trivial
def hEk (w : W) (s : Vs) : VR Hd := .ok (.v w) s
def hE (g : VE) : VH := fun s => (g s).bind hEk
theorem res_bind_ok {α : Type} (R : Res α) : R.bind (fun u h => .ok u h) = R := by cases R <;> rfl
theorem sv_he {g : VE} (a : SVE M fa g) : SVH M [] [] fa (hE g) := by
  refine ⟨fun s σ h Z A rs o => ?_⟩
  have := Po.bind0 (M2 := []) (r2 := RH σ [] []) (kR := fun u h => .ok u h) (kV := hEk) o (a.run s σ h Z A rs o) fun u w h1 Z1 A1 F1 s1 _ r rs1 o1 t => Po.ok (F1 := F1) (show RH σ [] [] h1 Z1 s1 (.v w) u F1 from r) (.refl _) rs1 o1
  rw [res_bind_ok] at this
  exact this.wid (by simp)
/-- the value of a handle, to be kept -/
def qPkk (d : Hd) (s : Vs) : VR W := match d with
  | .v w => .ok w s
  | _ => .bad
def qPk (g : VH) : VE := fun s => (g s).bind qPkk
theorem sv_pk {g : VH} (a : SVH M I J fa g) : SVE M fa (qPk g) := by
  refine ⟨fun s σ h Z A rs o => ?_⟩
  have := Po.bind0 (M2 := []) (r2 := RWr) (kR := fun u h => .ok u h) (kV := qPkk) o (a.run s σ h Z A rs o) fun u d h1 Z1 A1 F1 s1 _ r rs1 o1 t => by
    cases d with
    | v w => exact Po.ok (F1 := F1) (show RWr h1 Z1 s1 w u F1 from r) (.refl _) rs1 o1
    | «at» i p => trivial
  rw [res_bind_ok] at this
  exact this.wid (by simp)
/-! operations that read -/
def fin1 (q : W → Option W) (d : Hd) (s : Vs) : VR W := match (rd s d).bind q with | some x => .ok x s | none => .bad
def qOp1 (q : W → Option W) (ga : VH) : VE := fun s => (ga s).bind (fin1 q)
theorem sv_op1 {g : G1} {q : W → Option W} {ga : VH} (og : OpV1 g q) (a : SVH M I J fa ga) : SVE M (e1 g fa) (qOp1 q ga) := by
  refine ⟨fun s σ h Z A rs o => ?_⟩
  refine (Po.bind0 (M2 := []) (r2 := RWr) (kR := g) (kV := fin1 q) o (a.run s σ h Z A rs o) fun u d h1 Z1 A1 F1 s1 _ r rs1 o1 t => ?_).wid (by simp)
  unfold fin1
  split
  · rename_i x e
    obtain ⟨w, e1, e2⟩ := Option.bind_eq_some_iff.mp e
    exact Po.gro rs1 o1 (og h1 Z1 w u x o1.lz (r.rd rs1 e1) e2)
  · trivial
/-- two handles, one behind the other -/
theorem Po.two {r : Rl γ δ} {ga gb : VH} {kR : U → U → Hb → Res γ} {kV : Hd → Hd → Vs → VR δ} (rs : RSt h Z s σ A) (o : Ok h Z A No) (a : SVH M1 I1 J1 fa ga) (b : SVH M2 I2 J2 fb gb) (hi : ∀ i, i ∈ I1 → i ∉ M2)
    (k : ∀ u1 u2 d1 d2 h1 Z1 A1 F1 F2 s1, RH σ I1 J1 h1 Z1 s1 d1 u1 F1 → RH σ I2 J2 h1 Z1 s1 d2 u2 F2 → Dis F2 F1 → RSt h1 Z1 s1 σ A1 → Ok h1 Z1 A1 (Un F2 F1) → Po M3 σ r h1 Z1 A1 (Un F2 F1) s1 (kR u1 u2 h1) (kV d1 d2 s1)) :
    Po (M1 ++ (M2 ++ M3)) σ r h Z A No s ((fa σ h).bind fun x h => (fb σ h).bind (kR x)) ((ga s).bind fun d s => (gb s).bind (kV d)) :=
  Po.bind0 o (a.run s σ h Z A rs o) fun u1 d1 h1 Z1 A1 F1 s1 _ r1 rs1 o1 t1 =>
    Po.beside o1 (b.run s1 σ h1 Z1 A1 rs1 (ok_no o1)) fun u2 d2 h2 Z2 A2 F2 s2 _ r2 rs2 o2 d kb kz zz t2 => k u1 u2 d1 d2 h2 Z2 A2 F1 F2 s2 (r1.later rs1 t2 hi kb kz zz) r2 d rs2 o2
def fin2 (q : W → W → Option W) (d1 d2 : Hd) (s : Vs) : VR W := match rd s d1, rd s d2 with
  | some w1, some w2 => match q w1 w2 with | some x => .ok x s | none => .bad
  | _, _ => .bad
def qOp2k (q : W → W → Option W) (gb : VH) (d : Hd) (s : Vs) : VR W := (gb s).bind (fin2 q d)
def qOp2 (q : W → W → Option W) (ga gb : VH) : VE := fun s => (ga s).bind (qOp2k q gb)
theorem sv_op2 {g : G2} {q : W → W → Option W} {ga gb : VH} (og : OpV2 g q) (a : SVH M1 I1 J1 fa ga) (b : SVH M2 I2 J2 fb gb) (hi : ∀ i, i ∈ I1 → i ∉ M2) : SVE (M1 ++ M2) (e2 g fa fb) (qOp2 q ga gb) := by
  refine ⟨fun s σ h Z A rs o => ?_⟩
  refine (Po.two (M3 := []) (r := RWr) (kR := fun x y h => g x y h) (kV := fin2 q) rs o a b hi fun u1 u2 d1 d2 h1 Z1 A1 F1 F2 s1 r1 r2 d rs1 o1 => ?_).wid (by simp)
  unfold fin2
  split
  · rename_i w1 w2 e1 e2
    split
    · rename_i x e
      exact Po.gro rs1 o1 (og h1 Z1 w1 w2 u1 u2 x o1.lz (r1.rd rs1 e1) (r2.rd rs1 e2) e)
    · trivial
  · trivial
/-! lists of handles, calls of built-ins -/
def kNil : VK2 := fun s => .ok [] s
def kC2 (d : Hd) (ds : List Hd) (s : Vs) : VR (List Hd) := .ok (d :: ds) s
def kC1 (gs : VK2) (d : Hd) (s : Vs) : VR (List Hd) := (gs s).bind (kC2 d)
def kCons (g : VH) (gs : VK2) : VK2 := fun s => (g s).bind (kC1 gs)
theorem sk_nil : SVK [] [] [] aNil kNil := ⟨fun s σ h Z A rs o => Po.ok (F1 := No) (show RHs σ [] [] h Z s [] [] No from rfl) (.refl _) rs o⟩
theorem RH.wid {I' J' : List Nat} {d : Hd} {u : U} (r : RH σ I J h Z s d u F) (hi : ∀ i, i ∈ I → i ∈ I') (hj : ∀ i, i ∈ J → i ∈ J') : RH σ I' J' h Z s d u F := by
  cases d with
  | v w => exact r
  | «at» i p => exact ⟨r.1, fun e => hi i (r.2.1 e), hj i r.2.2⟩
theorem RHs.wid {I' J' : List Nat} (hi : ∀ i, i ∈ I → i ∈ I') (hj : ∀ i, i ∈ J → i ∈ J') : ∀ {ds : List Hd} {us : List U} {F : St}, RHs σ I J h Z s ds us F → RHs σ I' J' h Z s ds us F
  | [], us, F, r => r
  | d :: ds, us, F, ⟨u, r, F1, F2, e, dd, s1, s2, a, b⟩ => ⟨u, r, F1, F2, e, dd, s1, s2, a.wid hi hj, RHs.wid hi hj b⟩
theorem sk_cons {g : VH} {gs : VK2} {fs : Ea} (a : SVH M1 I1 J1 fa g) (b : SVK M2 I2 J2 fs gs) (hi : ∀ i, i ∈ I1 → i ∉ M2) : SVK (M1 ++ M2) (I1 ++ I2) (J1 ++ J2) (aCons fa fs) (kCons g gs) := by
  refine ⟨fun s σ h Z A rs o => ?_⟩
  refine (Po.bind0 (M2 := M2 ++ []) (kR := fun x h => (fs σ h).bind (aC2 x)) (kV := kC1 gs) o (a.run s σ h Z A rs o) fun u1 d1 h1 Z1 A1 F1 s1 _ r1 rs1 o1 t1 => ?_).wid (by simp)
  refine Po.beside (kR := aC2 u1) (kV := kC2 d1) o1 (b.run s1 σ h1 Z1 A1 rs1 (ok_no o1)) fun us ds h2 Z2 A2 F2 s2 _ r2 rs2 o2 d kb kz zz t2 => ?_
  have r2 : RHs σ I2 J2 h2 Z2 s2 ds us F2 := r2
  refine Po.ok (F1 := Un F2 F1) ?_ (.refl _) rs2 o2
  exact ⟨u1, us, F1, F2, rfl, d.symm, fun _ => .inr, fun _ => .inl, (r1.later rs1 t2 hi kb kz zz).wid (fun i x => List.mem_append_left _ x) fun i x => List.mem_append_left _ x, r2.wid (fun i x => List.mem_append_right _ x) fun i x => List.mem_append_right _ x⟩
def rds (s : Vs) : List Hd → Option (List W)
  | [] => some []
  | d :: ds => match rd s d, rds s ds with | some w, some ws => some (w :: ws) | _, _ => none
theorem RHs.rds {σ : Sg} {I J : List Nat} : ∀ {ds : List Hd} {us : List U} {F : St} {ws : List W}, RHs σ I J h Z s ds us F → RSt h Z s σ A → Lz.rds s ds = some ws → Rds h Z ws us
  | [], us, F, ws, r, rs, e => by cases e; exact r
  | d :: ds, us, F, ws, ⟨u, r, F1, F2, eu, dd, s1, s2, a, b⟩, rs, e => by
    simp only [Lz.rds] at e
    split at e
    · rename_i w ws' e1 e2
      cases e
      exact ⟨u, r, eu, a.rd rs e1, RHs.rds b rs e2⟩
    · cases e
def finK (q : List W → Option W) (ds : List Hd) (s : Vs) : VR W := match (rds s ds).bind q with | some x => .ok x s | none => .bad
def qBi (q : List W → Option W) (gs : VK2) : VE := fun s => (gs s).bind (finK q)
theorem sv_bi {g : GC} {q : List W → Option W} {fs : Ea} {gs : VK2} (og : OpVs g q) (a : SVK M I J fs gs) : SVE M (eC g fs) (qBi q gs) := by
  refine ⟨fun s σ h Z A rs o => ?_⟩
  refine (Po.bind0 (M2 := []) (r2 := RWr) (kR := g) (kV := finK q) o (a.run s σ h Z A rs o) fun u d h1 Z1 A1 F1 s1 _ r rs1 o1 t => ?_).wid (by simp)
  unfold finK
  split
  · rename_i x e
    obtain ⟨w, e1, e2⟩ := Option.bind_eq_some_iff.mp e
    exact Po.gro rs1 o1 (og h1 Z1 w u x o1.lz (RHs.rds r rs1 e1) e2)
  · trivial
/-! items -/
def ixH (d1 : Hd) (d2 : Hd) (s : Vs) : VR Hd := match rd s d1, rd s d2 with
  | some w, some (.im (.int i)) => match d1 with
    | .v w => match ixE w i with | some x => .ok (.v x) s | none => .bad
    | .at j p => match w with
      | .lst ws => match ixN ws.length i with
        | some k => match ws[k]? with
          | some (.im x) => .ok (.v (.im x)) s
          | some _ => .ok (.at j (p ++ [k])) s
          | none => .bad
        | none => .bad
      | _ => .bad
  | _, _ => .bad
def hIxk (gb : VH) (d : Hd) (s : Vs) : VR Hd := (gb s).bind (ixH d)
def hIx (ga gb : VH) : VH := fun s => (ga s).bind (hIxk gb)
theorem reach_snoc {k : Nat} : ∀ {p : List Nat} {u0 u v : U} {a : Nat} {us : List U}, Reach h p u0 u → u = .ref a → h[a]? = some (.lst us) → us[k]? = some v → Reach h (p ++ [k]) u0 v
  | [], u0, u, v, a, us, r, e, e1, e2 => by
    unfold Reach at r; subst r; subst e
    exact ⟨a, rfl, .inl ⟨us, v, e1, e2, rfl⟩⟩
  | q :: p, u0, u, v, a, us, r, e, e1, e2 => by
    unfold Reach at r
    obtain ⟨b, rfl, r⟩ := r
    rcases r with ⟨vs, z, h1, h2, r⟩ | ⟨c, vs, z, h1, h2, r⟩
    · exact ⟨b, rfl, .inl ⟨vs, z, h1, h2, reach_snoc r e e1 e2⟩⟩
    · exact ⟨b, rfl, .inr ⟨c, vs, z, h1, h2, reach_snoc r e e1 e2⟩⟩
theorem RWs.atI {ws : List W} {us : List U} {i : Int} {w : W} (r : RWs h Z ws us F) (e : L2.atI ws i = some w) : ∃ u, L2.atI us i = some u ∧ RW h Z w u F := by
  unfold L2.atI at e ⊢
  rw [← r.length]
  cases q : ixN ws.length i with
  | none => rw [q] at e; cases e
  | some k => rw [q] at e; exact r.get e
theorem ixE_rel {w x : W} {u : U} {i : Int} (r : RW h Z w u F) (e : ixE w i = some x) : ∃ v, vIx u (.int i) h = .ok v h ∧ RW h Z x v F := by
  have sq : ∀ {w : W} {ws : List W}, RW h Z w u F → seqP w = some ws → ∃ us, seqU h u = some us ∧ RWs h Z ws us F ∧ ∀ x, u ≠ .str x := fun {w ws} r e => by
    unfold seqP at e
    split at e
    · cases e; obtain ⟨us, rfl, q⟩ := r.im_inv.tup_inv; exact ⟨us, rfl, q.ws0 F, by simp⟩
    · cases e; obtain ⟨a, us, rfl, _, e1, q⟩ := r.im_inv.fz_inv; exact ⟨us, by simp [seqU, e1], q.ws0 F, by simp⟩
    · cases e; obtain ⟨a, us, rfl, _, e1, q⟩ := r.im_inv.fr_inv; exact ⟨us, by simp [seqU, e1], q.ws0 F, by simp⟩
    · cases e; obtain ⟨a, us, G, rfl, e1, _, _, sg, q⟩ := r.lst_inv; exact ⟨us, by simp [seqU, e1], q.mono sg, by simp⟩
    · cases e; obtain ⟨us, rfl, q⟩ := r.tw_inv; exact ⟨us, rfl, q, by simp⟩
    · cases e
  have fin : ∀ {w : W} {ws : List W}, RW h Z w u F → seqP w = some ws → L2.atI ws i = some x → ∃ v, vIx u (.int i) h = .ok v h ∧ RW h Z x v F := fun {w ws} r e e2 => by
    obtain ⟨us, e1, q, ns⟩ := sq r e
    obtain ⟨v, h1, h2⟩ := q.atI e2
    refine ⟨v, ?_, h2⟩
    cases u with
    | str x => exact absurd rfl (ns x)
    | _ => simp only [vIx, e1, h1]
  unfold ixE at e
  split at e
  · rename_i z
    have := r.im_inv; unfold RP at this; subst this
    split at e
    · rename_i hz
      simp only [Option.map_eq_some_iff] at e
      obtain ⟨c, e, rfl⟩ := e
      exact ⟨_, by simp only [vIx, if_pos (small_line hz), e], .mk_im (rp_str _)⟩
    · cases e
  · obtain ⟨ws, e1, e2⟩ := Option.bind_eq_some_iff.mp e
    exact fin r e1 e2
theorem sv_hix {ga gb : VH} (a : SVH M1 I1 J1 fa ga) (b : SVH M2 I2 J2 fb gb) (hi : ∀ i, i ∈ I1 → i ∉ M2) : SVH (M1 ++ M2) J1 J1 (e2 vIx fa fb) (hIx ga gb) := by
  refine ⟨fun s σ h Z A rs o => ?_⟩
  refine (Po.two (M3 := []) (r := RH σ J1 J1) (kR := fun x y h => vIx x y h) (kV := ixH) rs o a b hi fun u1 u2 d1 d2 h1 Z1 A1 F1 F2 s1 r1 r2 d rs1 o1 => ?_).wid (by simp)
  unfold ixH
  split
  · rename_i w i e1 e2
    have hu2 := (r2.rd rs1 e2).int
    subst hu2
    split
    · rename_i w0
      cases e1
      split
      · rename_i x e3
        obtain ⟨v, h2, h3⟩ := ixE_rel (show RW h1 Z1 w u1 F1 from r1) e3
        rw [h2]
        exact Po.ok (F1 := F1) (show RW h1 Z1 x v F1 from h3) (fun _ => .inr) rs1 o1
      · trivial
    · rename_i j p
      split
      · rename_i ws
        split
        · rename_i k ek
          obtain ⟨G, rg, _⟩ := r1.read rs1 e1
          obtain ⟨a0, us, G2, rfl, k1, _, _, _, q⟩ := rg.lst_inv
          have iv : ∀ {x : W}, ws[k]? = some x → ∃ v, vIx (.ref a0) (.int i) h1 = .ok v h1 ∧ us[k]? = some v ∧ RW h1 Z1 x v G2 := fun {x} ex => by
            obtain ⟨v, g1, g2⟩ := q.get ex
            refine ⟨v, ?_, g1, g2⟩
            simp only [vIx, seqU, k1]
            have : L2.atI us i = some v := by unfold L2.atI; rw [← q.length, ek]; exact g1
            simp [this]
          split
          · rename_i x ex
            obtain ⟨v, e5, _, rv⟩ := iv ex
            rw [e5]
            exact Po.ok (F1 := No) (show RW h1 Z1 (.im x) v No from .mk_im rv.im_inv) (fun _ x => x.elim) rs1 o1
          · rename_i x _ ex
            obtain ⟨v, e5, e6, rv⟩ := iv ex
            rw [e5]
            obtain ⟨⟨u0, e0, q0, q1⟩, q2, q3⟩ := r1
            refine Po.ok (F1 := No) (show RH σ J1 J1 h1 Z1 s1 (.at j (p ++ [k])) v No from ⟨⟨u0, e0, fun z => by simp at z, fun y ey => ?_⟩, fun _ => q3, q3⟩) (fun _ x => x.elim) rs1 o1
            exact reach_snoc (q1 _ e1) rfl k1 e6
          · trivial
        · trivial
      · trivial
  · trivial
end
end Lz
namespace Lz
open PySem PySem.Spec PyProof.Rows L2
section
variable {h h1 : Hb} {Z Z1 F F1 B : St} {A A1 : Nat → St} {s s1 : Vs} {M M1 M2 M3 I J I1 I2 J1 J2 : List Nat} {σ : Sg} {fa fb fc : Ev} {α β γ δ : Type}
/-! ## displays -/
def aqNil : VA := fun s => .ok [] s
def aq2 (w : W) (ws : List W) (s : Vs) : VR (List W) := .ok (w :: ws) s
def aq1 (gs : VA) (w : W) (s : Vs) : VR (List W) := (gs s).bind (aq2 w)
def aqCons (g : VE) (gs : VA) : VA := fun s => (g s).bind (aq1 gs)
theorem sq_nil : SVA [] aNil aqNil := ⟨fun s σ h Z A rs o => Po.ok (F1 := No) (show RWs h Z [] [] No from .nil) (.refl _) rs o⟩
theorem sq_cons {g : VE} {gs : VA} {fs : Ea} (a : SVE M1 fa g) (b : SVA M2 fs gs) : SVA (M1 ++ M2) (aCons fa fs) (aqCons g gs) := by
  refine ⟨fun s σ h Z A rs o => ?_⟩
  refine (Po.bind0 (M2 := M2 ++ []) (r2 := RWsr) (kR := fun x h => (fs σ h).bind (aC2 x)) (kV := aq1 gs) o (a.run s σ h Z A rs o) fun u1 w1 h1 Z1 A1 F1 s1 _ r1 rs1 o1 t1 => ?_).wid (by simp)
  refine Po.beside (kR := aC2 u1) (kV := aq2 w1) o1 (b.run s1 σ h1 Z1 A1 rs1 (ok_no o1)) fun us ws h2 Z2 A2 F2 s2 _ r2 rs2 o2 d kb kz zz t2 => ?_
  have r1 : RW h1 Z1 w1 u1 F1 := r1
  exact Po.ok (F1 := Un F2 F1) (show RWs h2 Z2 (w1 :: ws) (u1 :: us) (Un F2 F1) from (RWs.cons d.symm (RW.frame kz zz w1 kb (.refl _) r1) r2).mono fun a x => x.elim .inr .inl) (.refl _) rs2 o2
def qTupk (ws : List W) (s : Vs) : VR W := if ws.length ≤ 10000000 then .ok (mkT ws) s else .bad
def qTup (gs : VA) : VE := fun s => (gs s).bind qTupk
theorem sv_tup {gs : VA} {fs : Ea} (a : SVA M fs gs) : SVE M (eTup fs) (qTup gs) := by
  refine ⟨fun s σ h Z A rs o => ?_⟩
  refine (Po.bind0 (M2 := []) (r2 := RWr) (kR := eTupk) (kV := qTupk) o (a.run s σ h Z A rs o) fun us ws h1 Z1 A1 F1 s1 _ r rs1 o1 t => ?_).wid (by simp)
  have r : RWs h1 Z1 ws us F1 := r
  unfold qTupk
  split
  · rename_i hz
    rw [r.length] at hz
    rw [eTupk_run hz]
    exact Po.ok (F1 := F1) (show RW h1 Z1 (mkT ws) (.tup us) F1 from .mkT r) (.refl _) rs1 o1
  · trivial
/-- a new list over what is held -/
theorem Po.newlst {ws : List W} {us : List U} (rs : RSt h Z s σ A) (o : Ok h Z A F) (r : RWs h Z ws us F) : Po M σ RWr h Z A F s (.ok (.ref h.length) (h ++ [.lst us])) (.ok (.lst ws) s) := by
  have old : ∀ a, a < h.length → (h ++ [O.lst us])[a]? = h[a]? := fun a la => app_old la
  have kz : Keep h (h ++ [.lst us]) Z := fun a z => old a (o.lz a z)
  refine ⟨_, _, Z, A, fun a => F a ∨ a = h.length, rfl, ?_, ⟨rs.1, fun i w e => ?_⟩, ⟨fun i a x => ?_, fun a x => ?_, fun a z => ?_, o.aa, fun i a x y => ?_, o.az, fun a x z => ?_⟩,
    ⟨by simp, fun a la _ _ => old a la, fun _ z => z, fun _ z => .inl z, fun i a x => .inl ⟨i, x⟩, fun a x => x.elim (fun x => .inr (.inl x)) fun x => .inr (.inr (by omega)), rfl, fun i _ => .inr ⟨rfl, fun a x => old a (o.la i a x), .refl _⟩⟩⟩
  · show RW _ _ _ _ _
    unfold RW
    refine ⟨h.length, us, F, rfl, by simp, .inr rfl, fun x => ?_, fun _ => .inl, RWs.frame kz (.refl Z) ws (fun a x => old a (o.lf a x)) (.refl _) r⟩
    have := o.lf _ x; omega
  · obtain ⟨v, e1, r1⟩ := rs.2 i w e
    exact ⟨v, e1, RW.frame kz (.refl Z) w (fun a x => old a (o.la i a x)) (.refl _) r1⟩
  · have := o.la i a x; simp; omega
  · simp; rcases x with x | x
    · have := o.lf a x; omega
    · omega
  · have := o.lz a z; simp; omega
  · rcases y with y | y
    · exact o.af i a x y
    · have := o.la i a x; omega
  · rcases x with x | x
    · exact o.fz a x z
    · have := o.lz a z; omega
def qLstk (ws : List W) (s : Vs) : VR W := if ws.length ≤ 10000000 then .ok (.lst ws) s else .bad
def qLst (gs : VA) : VE := fun s => (gs s).bind qLstk
theorem sv_lst {gs : VA} {fs : Ea} (a : SVA M fs gs) : SVE M (eLst fs) (qLst gs) := by
  refine ⟨fun s σ h Z A rs o => ?_⟩
  refine (Po.bind0 (M2 := []) (r2 := RWr) (kR := eLstk) (kV := qLstk) o (a.run s σ h Z A rs o) fun us ws h1 Z1 A1 F1 s1 _ r rs1 o1 t => ?_).wid (by simp)
  have r : RWs h1 Z1 ws us F1 := r
  unfold qLstk
  split
  · rename_i hz
    rw [r.length] at hz
    rw [eLstk_run hz]
    exact Po.newlst rs1 o1 r
  · trivial
/-! ## tests -/
def qasBk (w : W) (s : Vs) : VR Bool := match w with | .im (.bl b) => .ok b s | _ => .bad
def qasB (g : VE) : VB := fun s => (g s).bind qasBk
theorem Po.bl {b : Bool} (rs : RSt h Z s σ A) (o : Ok h Z A F) : Po M σ RBr h Z A F s (.ok b h) (.ok b s) := Po.ok (F1 := No) ⟨rfl, rfl⟩ (fun _ x => x.elim) rs o
theorem tb_asB {g : VE} (a : SVE M fa g) : SVB M (asB fa) (qasB g) := by
  refine ⟨fun s σ h Z A rs o => ?_⟩
  refine (Po.bind0 (M2 := []) (r2 := RBr) (kR := asBk) (kV := qasBk) o (a.run s σ h Z A rs o) fun u w h1 Z1 A1 F1 s1 _ r rs1 o1 t => ?_).wid (by simp)
  unfold qasBk
  split
  · rename_i b
    have := (show RW h1 Z1 _ u F1 from r).im_inv
    unfold RP at this; subst this
    exact Po.bl rs1 o1
  · trivial
def truW : W → Option Bool
  | .im .non => some false
  | .im (.bl b) => some b
  | .im (.int i) => some (i != 0)
  | .im (.str x) => if x.length ≤ 10000000 then some (x.length != 0) else none
  | w => (seqP w).map fun ws => !ws.isEmpty
theorem isEmpty_len {α β : Type} {xs : List α} {ys : List β} (e : xs.length = ys.length) : xs.isEmpty = ys.isEmpty := by
  cases xs <;> cases ys <;> simp at e ⊢
theorem truW_rel {w : W} {u : U} {b : Bool} (r : Rd h Z w u) (e : truW w = some b) : truU h u = some b := by
  unfold truW at e
  split at e
  · rw [r.non]; exact e
  · rw [r.bl]; exact e
  · rw [r.int]; exact e
  · rw [r.str]
    split at e
    · rename_i hz; simp only [truU, if_pos (small_line hz)]; exact e
    · cases e
  · simp only [Option.map_eq_some_iff] at e
    obtain ⟨ws, e, rfl⟩ := e
    obtain ⟨us, G, e1, q, ns⟩ := seqP_rel r e
    rw [isEmpty_len q.length]
    cases u with
    | tup xs => cases e1; rfl
    | ref a =>
      simp only [seqU] at e1
      split at e1
      · rename_i xs k; cases e1; simp [truU, k]
      · rename_i xs k; cases e1; simp [truU, k]
      · cases e1
    | _ => cases e1
def qTruk (d : Hd) (s : Vs) : VR Bool := match (rd s d).bind truW with | some b => .ok b s | none => .bad
def qTru (g : VH) : VB := fun s => (g s).bind qTruk
theorem tb_tru {g : VH} (a : SVH M I J fa g) : SVB M (bTru fa) (qTru g) := by
  refine ⟨fun s σ h Z A rs o => ?_⟩
  refine (Po.bind0 (M2 := []) (r2 := RBr) (kR := truK) (kV := qTruk) o (a.run s σ h Z A rs o) fun u d h1 Z1 A1 F1 s1 _ r rs1 o1 t => ?_).wid (by simp)
  unfold qTruk
  split
  · rename_i b e
    obtain ⟨w, e1, e2⟩ := Option.bind_eq_some_iff.mp e
    have := truW_rel (r.rd rs1 e1) e2
    unfold truK; rw [this]
    exact Po.bl rs1 o1
  · trivial
variable {ba bb : Eb} {xa xb : VB}
def qNotk (b : Bool) (s : Vs) : VR Bool := .ok (!b) s
def qbNot (g : VB) : VB := fun s => (g s).bind qNotk
theorem tb_not (a : SVB M ba xa) : SVB M (bNot ba) (qbNot xa) := by
  refine ⟨fun s σ h Z A rs o => ?_⟩
  refine (Po.bind0 (M2 := []) (r2 := RBr) (kR := bNotk) (kV := qNotk) o (a.run s σ h Z A rs o) fun u w h1 Z1 A1 F1 s1 _ r rs1 o1 t => ?_).wid (by simp)
  obtain ⟨rfl, rfl⟩ := r
  exact Po.bl rs1 o1
def qAndk (g : VB) (b : Bool) (s : Vs) : VR Bool := match b with | true => g s | false => .ok false s
def qbAnd (f g : VB) : VB := fun s => (f s).bind (qAndk g)
theorem tb_and (a : SVB M1 ba xa) (b : SVB M2 bb xb) : SVB (M1 ++ M2) (bAnd ba bb) (qbAnd xa xb) := by
  refine ⟨fun s σ h Z A rs o => ?_⟩
  refine Po.bind0 (r2 := RBr) (kR := bAndk bb σ) (kV := qAndk xb) o (a.run s σ h Z A rs o) fun u w h1 Z1 A1 F1 s1 _ r rs1 o1 t => ?_
  obtain ⟨rfl, rfl⟩ := r
  cases u with
  | true => exact b.run s1 σ h1 Z1 A1 rs1 o1
  | false => exact Po.bl rs1 o1
def qOrk (g : VB) (b : Bool) (s : Vs) : VR Bool := match b with | true => .ok true s | false => g s
def qbOr (f g : VB) : VB := fun s => (f s).bind (qOrk g)
theorem tb_or (a : SVB M1 ba xa) (b : SVB M2 bb xb) : SVB (M1 ++ M2) (bOr ba bb) (qbOr xa xb) := by
  refine ⟨fun s σ h Z A rs o => ?_⟩
  refine Po.bind0 (r2 := RBr) (kR := bOrk bb σ) (kV := qOrk xb) o (a.run s σ h Z A rs o) fun u w h1 Z1 A1 F1 s1 _ r rs1 o1 t => ?_
  obtain ⟨rfl, rfl⟩ := r
  cases u with
  | true => exact Po.bl rs1 o1
  | false => exact b.run s1 σ h1 Z1 A1 rs1 o1
def qYes : VB := fun s => .ok true s
theorem tb_yes : SVB [] bYes qYes := ⟨fun s σ h Z A rs o => Po.bl rs o⟩
/-! as values -/
def qeAndk (g : VE) (w : W) (s : Vs) : VR W := match truW w with | some true => g s | some false => .ok w s | none => .bad
def qeAnd (f g : VE) : VE := fun s => (f s).bind (qeAndk g)
theorem rw_bl {b : Bool} {u : U} (r : RW h Z (.im (.bl b)) u F) : u = .bl b := by have := r.im_inv; unfold RP at this; exact this
theorem vbind_ret {α : Type} (r : VR α) : r.bind (fun w s => VR.ok w s) = r := by cases r <;> rfl
/-- and nothing of what is held is wanted -/
theorem Po.alone {r : Rl U W} (hr : r = RWr) {R : Res U} {V : VR W} (o : Ok h Z A F) (p : Po M σ r h Z A No s R V) : Po M σ r h Z A F s R V := by
  subst hr
  have := Po.beside (M1 := M) (M2 := []) (r2 := RWr) (kR := fun u h => .ok u h) (kV := fun w s => .ok w s) o p fun u w h2 Z2 A2 F2 s2 _ r2 rs2 o2 d kb kz zz t2 => Po.ok (F1 := F2) r2 (fun _ => .inl) rs2 o2
  rw [res_bind_ok, vbind_ret] at this
  exact this.wid (by simp)
theorem sv_and {g1 g2 : VE} (a : SVE M1 fa g1) (b : SVE M2 fb g2) : SVE (M1 ++ M2) (eAnd fa fb) (qeAnd g1 g2) := by
  refine ⟨fun s σ h Z A rs o => ?_⟩
  refine Po.bind0 (r2 := RWr) (kR := eAndk fb σ) (kV := qeAndk g2) o (a.run s σ h Z A rs o) fun u w h1 Z1 A1 F1 s1 _ r rs1 o1 t => ?_
  unfold qeAndk
  split
  · rename_i e
    unfold eAndk; rw [truW_rel ⟨F1, r⟩ e]
    exact Po.alone rfl o1 (b.run s1 σ h1 Z1 A1 rs1 (ok_no o1))
  · rename_i e
    unfold eAndk; rw [truW_rel ⟨F1, r⟩ e]
    exact Po.ok (F1 := F1) r (.refl _) rs1 o1
  · trivial
def qeOrk (g : VE) (w : W) (s : Vs) : VR W := match truW w with | some true => .ok w s | some false => g s | none => .bad
def qeOr (f g : VE) : VE := fun s => (f s).bind (qeOrk g)
theorem sv_or {g1 g2 : VE} (a : SVE M1 fa g1) (b : SVE M2 fb g2) : SVE (M1 ++ M2) (eOr fa fb) (qeOr g1 g2) := by
  refine ⟨fun s σ h Z A rs o => ?_⟩
  refine Po.bind0 (r2 := RWr) (kR := eOrk fb σ) (kV := qeOrk g2) o (a.run s σ h Z A rs o) fun u w h1 Z1 A1 F1 s1 _ r rs1 o1 t => ?_
  unfold qeOrk
  split
  · rename_i e
    unfold eOrk; rw [truW_rel ⟨F1, r⟩ e]
    exact Po.ok (F1 := F1) r (.refl _) rs1 o1
  · rename_i e
    unfold eOrk; rw [truW_rel ⟨F1, r⟩ e]
    exact Po.alone rfl o1 (b.run s1 σ h1 Z1 A1 rs1 (ok_no o1))
  · trivial
def qeNotk (d : Hd) (s : Vs) : VR W := match (rd s d).bind truW with | some b => .ok (.im (.bl (!b))) s | none => .bad
def qeNot (f : VH) : VE := fun s => (f s).bind qeNotk
theorem sv_not {g1 : VH} (a : SVH M I J fa g1) : SVE M (eNot fa) (qeNot g1) := by
  refine ⟨fun s σ h Z A rs o => ?_⟩
  refine (Po.bind0 (M2 := []) (r2 := RWr) (kR := eNotk) (kV := qeNotk) o (a.run s σ h Z A rs o) fun u d h1 Z1 A1 F1 s1 _ r rs1 o1 t => ?_).wid (by simp)
  unfold qeNotk
  split
  · rename_i b e
    obtain ⟨w, e1, e2⟩ := Option.bind_eq_some_iff.mp e
    unfold eNotk; rw [truW_rel (r.rd rs1 e1) e2]
    exact Po.ok (F1 := No) (show RW h1 Z1 _ _ No from .mk_im (rp_bl _)) (fun _ x => x.elim) rs1 o1
  · trivial
def qIfk (f g : VE) (b : Bool) (s : Vs) : VR W := match b with | true => f s | false => g s
def qIf (c : VB) (f g : VE) : VE := fun s => (c s).bind (qIfk f g)
theorem sv_if {g1 g2 : VE} (c : SVB M ba xa) (a : SVE M1 fa g1) (b : SVE M2 fb g2) : SVE (M ++ (M1 ++ M2)) (eIf ba fa fb) (qIf xa g1 g2) := by
  refine ⟨fun s σ h Z A rs o => ?_⟩
  refine Po.bind0 (r2 := RWr) (kR := eIfk fa fb σ) (kV := qIfk g1 g2) o (c.run s σ h Z A rs o) fun u w h1 Z1 A1 F1 s1 _ r rs1 o1 t => ?_
  obtain ⟨rfl, rfl⟩ := r
  cases u with
  | true => exact (a.run s1 σ h1 Z1 A1 rs1 o1).wid fun i x => List.mem_append_left _ x
  | false => exact (b.run s1 σ h1 Z1 A1 rs1 o1).wid fun i x => List.mem_append_right _ x
/-- a chain of two comparisons -/
def qCh2 (q q' : W → W → Option W) (gc : VH) (d1 d2 : Hd) (s : Vs) : VR W := match rd s d1, rd s d2 with
  | some w1, some w2 => match q w1 w2 with
    | some (.im (.bl true)) => (gc s).bind (fin2 q' d2)
    | some (.im (.bl false)) => .ok (.im (.bl false)) s
    | _ => .bad
  | _, _ => .bad
def qCh1 (q q' : W → W → Option W) (gb gc : VH) (d : Hd) (s : Vs) : VR W := (gb s).bind (qCh2 q q' gc d)
def qChain (q q' : W → W → Option W) (ga gb gc : VH) : VE := fun s => (ga s).bind (qCh1 q q' gb gc)
/-- a comparison leaves the heap -/
def Cmp2 (g : G2) (q : W → W → Option W) : Prop := OpV2 g q ∧ ∀ x y h u h', g x y h = .ok u h' → h' = h
theorem sv_chain {g g' : G2} {q q' : W → W → Option W} {ga gb gc : VH} {M3 I3 J3 : List Nat} (og : Cmp2 g q) (og' : OpV2 g' q') (a : SVH M1 I1 J1 fa ga) (b : SVH M2 I2 J2 fb gb) (c : SVH M3 I3 J3 fc gc) (hi : ∀ i, i ∈ I1 → i ∉ M2) (hj : ∀ i, i ∈ I2 → i ∉ M3) :
    SVE (M1 ++ (M2 ++ M3)) (eChain g g' fa fb fc) (qChain q q' ga gb gc) := by
  refine ⟨fun s σ h Z A rs o => ?_⟩
  refine (Po.two (M3 := M3 ++ []) (r := RWr) (kR := fun x y h => ch2 g g' fc σ x y h) (kV := qCh2 q q' gc) rs o a b hi fun u1 u2 d1 d2 h1 Z1 A1 F1 F2 s1 r1 r2 d rs1 o1 => ?_).wid (by simp)
  unfold qCh2
  split
  · rename_i w1 w2 e1 e2
    have key : ∀ {x : W}, q w1 w2 = some x → ∃ v, g u1 u2 h1 = .ok v h1 ∧ ∃ G, RW h1 Z1 x v G := fun {x} e => by
      obtain ⟨v, h', F', e3, _, _, rw', _⟩ := og.1 h1 Z1 w1 w2 u1 u2 x o1.lz (r1.rd rs1 e1) (r2.rd rs1 e2) e
      have := og.2 _ _ _ _ _ e3
      subst this
      exact ⟨v, e3, F', rw'⟩
    split
    · rename_i e
      obtain ⟨v, e3, G, rw'⟩ := key e
      rw [rw_bl rw'] at e3
      simp only [ch2, e3, bind_ok, ch3_t]
      refine Po.beside (kR := g' u2) (kV := fin2 q' d2) o1 (c.run s1 σ h1 Z1 A1 rs1 (ok_no o1)) fun u3 d3 h2 Z2 A2 F3 s2 _ r3 rs2 o2 dd kb kz zz t2 => ?_
      have r2' := r2.later (B := F2) rs1 t2 hj (kb.sub fun _ => .inl) kz zz
      unfold fin2
      split
      · rename_i w2' w3 e5 e6
        split
        · rename_i x ex
          exact Po.gro rs2 o2 (og' h2 Z2 w2' w3 u2 u3 x o2.lz (r2'.rd rs2 e5) ((show RH σ I3 J3 h2 Z2 s2 d3 u3 F3 from r3).rd rs2 e6) ex)
        · trivial
      · trivial
    · rename_i e
      obtain ⟨v, e3, G, rw'⟩ := key e
      rw [rw_bl rw'] at e3
      simp only [ch2, e3, bind_ok, ch3_f]
      exact Po.ok (F1 := No) (show RW h1 Z1 _ _ No from .mk_im (rp_bl _)) (fun _ x => x.elim) rs1 o1
    · trivial
  · trivial
theorem cmp_cmp (c : Int → Int → Bool) : Cmp2 (vCmp c) (qCmp c) := ⟨ov_cmp, fun x y h u h' e => by unfold vCmp at e; split at e <;> cases e; rfl⟩
theorem cmp_eq : Cmp2 vEq qEq := ⟨ov_eq, fun x y h u h' e => by unfold vEq at e; split at e <;> cases e; rfl⟩
theorem cmp_ne : Cmp2 vNe qNe := ⟨ov_ne, fun x y h u h' e => by unfold vNe at e; split at e <;> cases e; rfl⟩
theorem cmp_is : Cmp2 vIs qIs := ⟨ov_is, fun x y h u h' e => by
  unfold vIs at e
  split at e
  · cases e; rfl
  · split at e
    · cases e; rfl
    · cases e
  · cases e⟩
theorem cmp_isN : Cmp2 vIsN qIsN := ⟨ov_isN, fun x y h u h' e => by
  unfold vIsN at e
  split at e
  · cases e; rfl
  · split at e
    · cases e; rfl
    · cases e
  · cases e⟩
/-! slices -/
abbrev VO := Vs → VR (Option Int)
def ROr : Rl (Option Int) (Option Int) := fun _ _ _ w u F => u = w ∧ F = No
structure SVO (M : List Nat) (f : Eo) (g : VO) : Prop where
  run : ∀ (s : Vs) (σ : Sg) (h : Hb) (Z : St) (A : Nat → St), RSt h Z s σ A → Ok h Z A No → Po M σ ROr h Z A No s (f σ h) (g s)
def qoNo : VO := fun s => .ok none s
theorem so_no' : SVO [] oNo qoNo := ⟨fun s σ h Z A rs o => Po.ok (F1 := No) ⟨rfl, rfl⟩ (.refl _) rs o⟩
def qoSok (w : W) (s : Vs) : VR (Option Int) := match w with | .im (.int i) => .ok (some i) s | _ => .bad
def qoSo (g : VE) : VO := fun s => (g s).bind qoSok
theorem so_so' {g : VE} (a : SVE M fa g) : SVO M (oSo fa) (qoSo g) := by
  refine ⟨fun s σ h Z A rs o => ?_⟩
  refine (Po.bind0 (M2 := []) (r2 := ROr) (kR := oSok) (kV := qoSok) o (a.run s σ h Z A rs o) fun u w h1 Z1 A1 F1 s1 _ r rs1 o1 t => ?_).wid (by simp)
  unfold qoSok
  split
  · rename_i i
    have := (show RW h1 Z1 _ u F1 from r).im_inv
    unfold RP at this; subst this
    exact Po.ok (F1 := No) ⟨rfl, rfl⟩ (fun _ x => x.elim) rs1 o1
  · trivial
def qSlf (d : Hd) (lo hi : Option Int) (s : Vs) : VR W := match (rd s d).bind (qSl lo hi) with | some x => .ok x s | none => .bad
def qSl2 (gu : VO) (d : Hd) (lo : Option Int) (s : Vs) : VR W := (gu s).bind (qSlf d lo)
def qSl1 (gl gu : VO) (d : Hd) (s : Vs) : VR W := (gl s).bind (qSl2 gu d)
def qSlc (ga : VH) (gl gu : VO) : VE := fun s => (ga s).bind (qSl1 gl gu)
theorem sv_sl {ga : VH} {gl gu : VO} {fl fu : Eo} (a : SVH M1 I1 J1 fa ga) (b : SVO M2 fl gl) (c : SVO M3 fu gu) (hi : ∀ i, i ∈ I1 → i ∉ M2 ++ M3) : SVE (M1 ++ (M2 ++ M3)) (eSl fa fl fu) (qSlc ga gl gu) := by
  refine ⟨fun s σ h Z A rs o => ?_⟩
  refine (Po.bind0 (M2 := M2 ++ (M3 ++ [])) (r2 := RWr) (kR := sl1 fl fu σ) (kV := qSl1 gl gu) o (a.run s σ h Z A rs o) fun u d h1 Z1 A1 F1 s1 _ r rs1 o1 t => ?_).wid (by simp)
  refine Po.beside (kR := sl2 fu σ u) (kV := qSl2 gu d) o1 (b.run s1 σ h1 Z1 A1 rs1 (ok_no o1)) fun l l' h2 Z2 A2 F2 s2 _ r2 rs2 o2 d2 kb kz zz t2 => ?_
  obtain ⟨rfl, rfl⟩ := r2
  have r' := (show RH σ I1 J1 h1 Z1 s1 d u F1 from r).later rs1 t2 (fun i x y => hi i x (List.mem_append_left _ y)) kb kz zz
  rw [no_un] at o2 ⊢
  refine Po.beside (kR := vSl u l) (kV := qSlf d l) o2 (c.run s2 σ h2 Z2 A2 rs2 (ok_no o2)) fun v v' h3 Z3 A3 F3 s3 _ r3 rs3 o3 d3 kb3 kz3 zz3 t3 => ?_
  obtain ⟨rfl, rfl⟩ := r3
  have r'' := r'.later rs2 t3 (fun i x y => hi i x (List.mem_append_right _ y)) kb3 kz3 zz3
  unfold qSlf
  split
  · rename_i x e
    obtain ⟨w, e1, e2⟩ := Option.bind_eq_some_iff.mp e
    exact Po.gro rs3 o3 (ov_sl l v h3 Z3 w u x o3.lz (r''.rd rs3 e1) e2)
  · trivial
end
end Lz
namespace Lz
open PySem PySem.Spec PyProof.Rows L2
section
variable {h h1 : Hb} {Z Z1 F F1 B : St} {A A1 : Nat → St} {s s1 : Vs} {M M1 M2 M3 I J I1 I2 J1 J2 : List Nat} {σ : Sg} {fa fb fc : Ev} {α β γ δ : Type}
/-! ## a part is put anew -/
def setP : W → List Nat → W → W
  | _, [], x => x
  | .lst ws, k :: ks, x => match ws[k]? with | some w => .lst (ws.set k (setP w ks x)) | none => .lst ws
  | .ins c ns ws, k :: ks, x => match ws[k]? with | some w => .ins c ns (ws.set k (setP w ks x)) | none => .ins c ns ws
  | w, _, _ => w
theorem set_self {α : Type} {l : List α} {k : Nat} {v : α} (e : l[k]? = some v) : l.set k v = l := by
  apply List.ext_getElem?
  intro j
  by_cases c : k = j
  · subst c
    have lt := (List.getElem?_eq_some_iff.mp e).1
    rw [List.getElem?_set_self lt, e]
  · rw [List.getElem?_set_ne c]
theorem setP_wand : ∀ {p : List Nat} {w0 w : W} {u0 : U} {F : St}, RW h Z w0 u0 F → getP w0 p = some w → ∃ u F1 Fr, Reach h p u0 u ∧ Dis F1 Fr ∧ Sub F1 F ∧ Sub Fr F ∧ RW h Z w u F1 ∧
    ∀ (h' : Hb) (Z' G : St) (x : W), Keep h h' Z → Sub Z Z' → Keep h h' Fr → Dis G Fr → RW h' Z' x u G → RW h' Z' (setP w0 p x) u0 (Un G Fr)
  | [], w0, w, u0, F, r, e => by
    cases e
    exact ⟨u0, F, No, rfl, fun _ _ x => x, .refl F, fun _ x => x.elim, r, fun h' Z' G x _ _ _ _ rx => rx.mono fun _ => .inl⟩
  | k :: ks, .lst ws, w, u0, F, r, e => by
    unfold RW at r
    obtain ⟨a, us, X, rfl, e1, fa, nx, sx, q⟩ := r
    simp only [getP] at e
    split at e
    · rename_i w1 e2
      obtain ⟨u1, G1, Gr, g1, d1, s1, s2, r1, k1⟩ := q.wand e2
      obtain ⟨u, F1, Fr, h1, d2, s3, s4, r2, k2⟩ := setP_wand r1 e
      refine ⟨u, F1, fun b => b = a ∨ Gr b ∨ Fr b, ⟨a, rfl, .inl ⟨us, u1, e1, g1, h1⟩⟩, fun c x y => ?_, fun c x => sx c (s1 c (s3 c x)), fun c x => ?_, r2, fun h' Z' G x kz zz kf dg rx => ?_⟩
      · rcases y with rfl | y | y
        · exact nx (s1 _ (s3 _ x))
        · exact d1 c (s3 c x) y
        · exact d2 c x y
      · rcases x with rfl | x | x
        · exact fa
        · exact sx c (s2 c x)
        · exact sx c (s1 c (s4 c x))
      · have r3 := k2 h' Z' G x kz zz (kf.sub fun b y => .inr (.inr y)) (fun b g y => dg b g (.inr (.inr y))) rx
        have r4 := k1 h' Z' (Un G Fr) (setP w1 ks x) u1 kz zz (kf.sub fun b y => .inr (.inl y)) (fun b y z => y.elim (fun g => dg b g (.inr (.inl z))) fun y => d1 b (s4 b y) z) r3
        rw [set_self g1] at r4
        simp only [setP, e2]
        unfold RW
        refine ⟨a, us, _, rfl, by rw [kf a (.inl rfl)]; exact e1, .inr (.inl rfl), fun y => ?_, fun b y => ?_, r4⟩
        · rcases y with (y | y) | y
          · exact dg a y (.inl rfl)
          · exact nx (s1 a (s4 a y))
          · exact nx (s2 a y)
        · rcases y with (y | y) | y
          · exact .inl y
          · exact .inr (.inr (.inr y))
          · exact .inr (.inr (.inl y))
    · cases e
  | k :: ks, .ins c ns ws, w, u0, F, r, e => by
    unfold RW at r
    obtain ⟨a, us, X, rfl, e1, fa, nx, sx, n, q⟩ := r
    simp only [getP] at e
    split at e
    · rename_i w1 e2
      obtain ⟨u1, G1, Gr, g1, d1, s1, s2, r1, k1⟩ := q.wand e2
      obtain ⟨u, F1, Fr, h1, d2, s3, s4, r2, k2⟩ := setP_wand r1 e
      refine ⟨u, F1, fun b => b = a ∨ Gr b ∨ Fr b, ⟨a, rfl, .inr ⟨c, us, u1, e1, g1, h1⟩⟩, fun c x y => ?_, fun c x => sx c (s1 c (s3 c x)), fun c x => ?_, r2, fun h' Z' G x kz zz kf dg rx => ?_⟩
      · rcases y with rfl | y | y
        · exact nx (s1 _ (s3 _ x))
        · exact d1 c (s3 c x) y
        · exact d2 c x y
      · rcases x with rfl | x | x
        · exact fa
        · exact sx c (s2 c x)
        · exact sx c (s1 c (s4 c x))
      · have r3 := k2 h' Z' G x kz zz (kf.sub fun b y => .inr (.inr y)) (fun b g y => dg b g (.inr (.inr y))) rx
        have r4 := k1 h' Z' (Un G Fr) (setP w1 ks x) u1 kz zz (kf.sub fun b y => .inr (.inl y)) (fun b y z => y.elim (fun g => dg b g (.inr (.inl z))) fun y => d1 b (s4 b y) z) r3
        rw [set_self g1] at r4
        simp only [setP, e2]
        unfold RW
        refine ⟨a, us, _, rfl, by rw [kf a (.inl rfl)]; exact e1, .inr (.inl rfl), fun y => ?_, fun b y => ?_, n, r4⟩
        · rcases y with (y | y) | y
          · exact dg a y (.inl rfl)
          · exact nx (s1 a (s4 a y))
          · exact nx (s2 a y)
        · rcases y with (y | y) | y
          · exact .inl y
          · exact .inr (.inr (.inr y))
          · exact .inr (.inr (.inl y))
    · cases e
  | k :: ks, .im _, w, u0, F, r, e => by cases e
  | k :: ks, .tw _, w, u0, F, r, e => by cases e
/-! ## methods of lists -/
def MtA (h : Hb) (Z : St) (g : GM) (q : W → List W → Option (W × W)) : Prop := ∀ (w0 : W) (ws : List W) (u0 : U) (us : List U) (F0 F1 : St) (r x : W), (∀ a, F0 a → a < h.length) → Dis F0 F1 → Dis F0 Z → RW h Z w0 u0 F0 → RWs h Z ws us F1 → q w0 ws = some (r, x) →
  ∃ u h' G Gr, g u0 us h = .ok u h' ∧ h'.length = h.length ∧ (∀ a, a < h.length → ¬ F0 a → h'[a]? = h[a]?) ∧ RW h' Z x u0 G ∧ RW h' Z r u Gr ∧ Dis G Gr ∧ Sub G (Un F0 F1) ∧ Sub Gr (Un F0 F1)
def MtV (g : GM) (q : W → List W → Option (W × W)) : Prop := ∀ h Z, MtA h Z g q
/-- the list at a is written -/
theorem put_keep {a : Nat} {o : O} {X : St} (n : ¬ X a) : Keep h (h.set a o) X := fun b x => by
  rw [List.getElem?_set_ne]; intro z; subst z; exact n x
theorem RW.lput {ws' : List W} {us us' : List U} {a : Nat} {Y : St} (e1 : h[a]? = some (.lst us)) (nz : ¬ Z a) (ny : ¬ Y a) (q : RWs h Z ws' us' Y) : RW (h.set a (.lst us')) Z (.lst ws') (.ref a) (fun b => b = a ∨ Y b) := by
  unfold RW
  have la : a < h.length := (List.getElem?_eq_some_iff.mp e1).1
  exact ⟨a, us', Y, rfl, by rw [List.getElem?_set_self la], .inl rfl, ny, fun b => .inr, RWs.frame (put_keep nz) (.refl Z) ws' (put_keep ny) (.refl _) q⟩
def qAppend (w : W) (ws : List W) : Option (W × W) := match w, ws with
  | .lst xs, [y] => if xs.length ≤ 10000000 then some (.im .non, .lst (xs ++ [y])) else none
  | _, _ => none
theorem mt_append : MtV mAppend qAppend := by
  intro h Z w0 ws u0 us F0 F1 r x l0 d01 dz r0 rws e
  unfold qAppend at e
  split at e
  · rename_i xs y
    split at e
    · rename_i hz; cases e
      obtain ⟨a, vs, X, rfl, e1, fa, nx, sx, q⟩ := r0.lst_inv
      obtain ⟨v, r, G1, G2, rfl, dd, s1, s2, ra, rb⟩ := rws.cons_inv
      rw [rb.nil_inv]
      rw [q.length] at hz
      refine ⟨.non, _, fun b => b = a ∨ Un X G1 b, No, mAppend_run e1 hz, by simp, fun b lb nb => ?_, RW.lput e1 (dz a fa) (fun z => z.elim nx fun z => d01 a fa (s1 a z)) ?_, .mk_im rp_non, fun _ _ x => x, fun b z => ?_, fun _ x => x.elim⟩
      · rw [List.getElem?_set_ne]; intro z; subst z; exact nb fa
      · exact (RWs.append (fun b x z => d01 b (sx b x) (z.elim (s1 b) False.elim)) q (RWs.cons (F2 := No) (fun _ _ x => x.elim) ra .nil)).mono fun b z => z.elim .inl fun z => z.elim .inr False.elim
      · rcases z with rfl | z | z
        · exact .inl fa
        · exact .inl (sx b z)
        · exact .inr (s1 b z)
    · cases e
  · cases e
noncomputable def qPop (w : W) (ws : List W) : Option (W × W) := match w, ws with
  | .lst xs, [] => (xs.getLast?).map fun y => (y, .lst xs.dropLast)
  | .lst xs, [.im (.int i)] => cIf (-9223372036854775808 ≤ i ∧ i < 9223372036854775808) (match ixN xs.length i with
      | some k => (xs[k]?).map fun y => (y, .lst (xs.eraseIdx k))
      | none => none) none
  | _, _ => none
theorem mt_pop : MtV mPop qPop := by
  intro h Z w0 ws u0 us F0 F1 r x l0 d01 dz r0 rws e
  unfold qPop at e
  split at e
  · rename_i xs
    simp only [Option.map_eq_some_iff] at e
    obtain ⟨y, ey, e⟩ := e
    cases e
    obtain ⟨a, vs, X, rfl, e1, fa, nx, sx, q⟩ := r0.lst_inv
    rw [rws.nil_inv]
    have el : xs[xs.length - 1]? = some r := by rw [← List.getLast?_eq_getElem?]; exact ey
    obtain ⟨v, G1, Gr, g1, dd, s1, s2, r1, rr⟩ := q.out1 el
    have ev : vs.getLast? = some v := by rw [List.getLast?_eq_getElem?, ← q.length]; exact g1
    have c1 : xs.eraseIdx (xs.length - 1) = xs.dropLast := by
      rw [List.eraseIdx_eq_take_drop_succ, List.dropLast_eq_take, List.drop_eq_nil_of_le (by omega), List.append_nil]
    have c2 : vs.eraseIdx (xs.length - 1) = vs.dropLast := by
      rw [q.length, List.eraseIdx_eq_take_drop_succ, List.dropLast_eq_take, List.drop_eq_nil_of_le (by omega), List.append_nil]
    rw [c1, c2] at rr
    refine ⟨v, h.set a (.lst vs.dropLast), fun b => b = a ∨ Gr b, G1, by unfold mPop; simp [e1, ev], by simp, fun b lb nb => ?_, RW.lput e1 (dz a fa) (fun z => nx (s2 a z)) rr, RW.frame (put_keep (dz a fa)) (.refl Z) r (put_keep fun z => nx (s1 a z)) (.refl _) r1, fun b z y => ?_, fun b z => ?_, fun b z => .inl (sx b (s1 b z))⟩
    · rw [List.getElem?_set_ne]; intro z; subst z; exact nb fa
    · rcases z with rfl | z
      · exact nx (s1 _ y)
      · exact dd b y z
    · rcases z with rfl | z
      · exact .inl fa
      · exact .inl (sx b (s2 b z))
  · rename_i xs i
    unfold cIf at e
    split at e
    · rename_i hb
      split at e
      · rename_i k ek
        simp only [Option.map_eq_some_iff] at e
        obtain ⟨y, ey, e⟩ := e
        cases e
        obtain ⟨a, vs, X, rfl, e1, fa, nx, sx, q⟩ := r0.lst_inv
        obtain ⟨u1, r', H1, H2, rfl, d3, s3, s4, ra, rb⟩ := rws.cons_inv
        rw [rb.nil_inv]
        have := ra.im_inv; unfold RP at this; subst this
        obtain ⟨v, G1, Gr, g1, dd, s1, s2, r1, rr⟩ := q.out1 ey
        have hb' : -9223372036854775808 ≤ i ∧ i < 9223372036854775808 := hb
        rw [q.length] at ek
        refine ⟨v, h.set a (.lst (vs.eraseIdx k)), fun b => b = a ∨ Gr b, G1, by simp only [mPop, e1, if_pos hb', ek, g1], by simp, fun b lb nb => ?_, RW.lput e1 (dz a fa) (fun z => nx (s2 a z)) rr, RW.frame (put_keep (dz a fa)) (.refl Z) r (put_keep fun z => nx (s1 a z)) (.refl _) r1, fun b z y => ?_, fun b z => ?_, fun b z => .inl (sx b (s1 b z))⟩
        · rw [List.getElem?_set_ne]; intro z; subst z; exact nb fa
        · rcases z with rfl | z
          · exact nx (s1 _ y)
          · exact dd b y z
        · rcases z with rfl | z
          · exact .inl fa
          · exact .inl (sx b (s2 b z))
      · cases e
    · cases e
  · cases e
noncomputable def qInsert (w : W) (ws : List W) : Option (W × W) := match w, ws with
  | .lst xs, [.im (.int i), y] => cIf (xs.length ≤ 10000000 ∧ 0 ≤ i ∧ i < 9223372036854775808) (some (.im .non, .lst (xs.take i.toNat ++ [y] ++ xs.drop i.toNat))) none
  | _, _ => none
theorem RWs.split {ws : List W} {us : List U} (r : RWs h Z ws us F) : ∀ n : Nat, ∃ G1 G2, Dis G1 G2 ∧ Sub G1 F ∧ Sub G2 F ∧ RWs h Z (ws.take n) (us.take n) G1 ∧ RWs h Z (ws.drop n) (us.drop n) G2 := by
  intro n
  induction n generalizing ws us F with
  | zero => exact ⟨No, F, fun _ x => x.elim, fun _ x => x.elim, .refl F, by simpa using RWs.nil, by simpa using r⟩
  | succ n ih =>
    cases ws with
    | nil => rw [r.nil_inv]; exact ⟨No, No, fun _ x => x.elim, fun _ x => x.elim, fun _ x => x.elim, by simpa using RWs.nil, by simpa using RWs.nil⟩
    | cons w ws =>
      obtain ⟨u, q, F1, F2, rfl, d, s1, s2, a, b⟩ := r.cons_inv
      obtain ⟨G1, G2, d2, s3, s4, r1, r2⟩ := ih b
      exact ⟨Un F1 G1, G2, fun c x y => x.elim (fun x => d c x (s4 c y)) fun x => d2 c x y, fun c x => x.elim (s1 c) fun x => s2 c (s3 c x), fun c x => s2 c (s4 c x), RWs.cons (fun c x y => d c x (s3 c y)) a r1, r2⟩
theorem mt_insert : MtV mInsert qInsert := by
  intro h Z w0 ws u0 us F0 F1 r x l0 d01 dz r0 rws e
  unfold qInsert at e
  split at e
  · rename_i xs i y
    unfold cIf at e
    split at e
    · rename_i hz; cases e
      obtain ⟨hz, i0, i1⟩ := hz
      obtain ⟨a, vs, X, rfl, e1, fa, nx, sx, q⟩ := r0.lst_inv
      obtain ⟨v0, r, G0, G2, rfl, dd, s0, s2, ra, rb⟩ := rws.cons_inv
      obtain ⟨v, r', G1, G3, rfl, dd', s1, s3, rc, rd⟩ := rb.cons_inv
      rw [rd.nil_inv]
      have := ra.im_inv; unfold RP at this; subst this
      rw [q.length] at hz
      obtain ⟨X1, X2, dx, t1, t2, q1, q2⟩ := q.split i.toNat
      have hc : vs.length < sizeLine ∧ 0 ≤ i ∧ i < 9223372036854775808 := ⟨small_line' hz, i0, i1⟩
      have gf : ∀ b, G1 b → F1 b := fun b z => s2 b (s1 b z)
      refine ⟨.non, h.set a (.lst (vs.take i.toNat ++ [v] ++ vs.drop i.toNat)), fun b => b = a ∨ (Un (Un X1 G1) X2) b, No, by simp only [mInsert, e1, if_pos hc], by simp, fun b lb nb => ?_, RW.lput e1 (dz a fa) (fun z => ?_) ?_, .mk_im rp_non, fun _ _ x => x, fun b z => ?_, fun _ x => x.elim⟩
      · rw [List.getElem?_set_ne]; intro z; subst z; exact nb fa
      · rcases z with (z | z) | z
        · exact nx (t1 a z)
        · exact d01 a fa (gf a z)
        · exact nx (t2 a z)
      · refine RWs.append (fun b x z => ?_) ((RWs.append (fun b x z => d01 b (sx b (t1 b x)) (z.elim (gf b) False.elim)) q1 (RWs.cons (F2 := No) (fun _ _ x => x.elim) rc .nil)).mono (G := Un X1 G1) fun b z => z.elim .inl fun z => z.elim .inr False.elim) q2
        rcases x with x | x
        · exact dx b x z
        · exact d01 b (sx b (t2 b z)) (gf b x)
      · rcases z with rfl | (z | z) | z
        · exact .inl fa
        · exact .inl (sx b (t1 b z))
        · exact .inr (gf b z)
        · exact .inl (sx b (t2 b z))
    · cases e
  · cases e
def qReverse (w : W) (ws : List W) : Option (W × W) := match w, ws with
  | .lst xs, [] => some (.im .non, .lst xs.reverse)
  | _, _ => none
theorem mt_reverse : MtV mReverse qReverse := by
  intro h Z w0 ws u0 us F0 F1 r x l0 d01 dz r0 rws e
  unfold qReverse at e
  split at e
  · cases e
    obtain ⟨a, vs, X, rfl, e1, fa, nx, sx, q⟩ := r0.lst_inv
    rw [rws.nil_inv]
    refine ⟨.non, h.set a (.lst vs.reverse), fun b => b = a ∨ X b, No, by simp only [mReverse, e1], by simp, fun b lb nb => ?_, RW.lput e1 (dz a fa) nx q.reverse, .mk_im rp_non, fun _ _ x => x, fun b z => ?_, fun _ x => x.elim⟩
    · rw [List.getElem?_set_ne]; intro z; subst z; exact nb fa
    · rcases z with rfl | z
      · exact .inl fa
      · exact .inl (sx b z)
  · cases e
/-- extend: the items of another list -/
def qExtend (w y : W) : Option (W × W) := match w with
  | .lst xs => match litP y with
    | some ys => if xs.length + ys.length ≤ 10000000 ∧ (imL ys).isSome then some (.im .non, .lst (xs ++ ys)) else none
    | none => none
  | _ => none
/-- a method of which the argument is only read -/
def MxV (g : GM) (q : W → W → Option (W × W)) : Prop := ∀ (h : Hb) (Z : St) (y : W) (v : U), Rd h Z y v → MtA h Z (fun x _ h => g x [v] h) (fun w _ => q w y)
theorem mx_extend : MxV mExtend qExtend := by
  intro h Z y v ry w0 ws u0 us F0 F1 r x l0 d01 dz r0 rws e
  simp only [qExtend] at e
  split at e
  · rename_i xs
    split at e
    · rename_i ys ey
      split at e
      · rename_i hz; cases e
        obtain ⟨hz, iy⟩ := hz
        obtain ⟨ps, iy⟩ := Option.isSome_iff_exists.mp iy
        obtain ⟨a, vs, X, rfl, e1, fa, nx, sx, q⟩ := r0.lst_inv
        obtain ⟨b, zs, G3, rfl, e2, q2⟩ := litP_rel ry ey
        have q2 := (q2.im iy).ws
        rw [← imL_eq iy] at q2
        rw [q.length, q2.length] at hz
        refine ⟨.non, h.set a (.lst (vs ++ zs)), fun b => b = a ∨ X b, No, by simp only [mExtend, e1, e2, if_pos (small_line hz)], by simp, fun b lb nb => ?_, RW.lput e1 (dz a fa) nx ?_, .mk_im rp_non, fun _ _ x => x, fun b z => ?_, fun _ x => x.elim⟩
        · rw [List.getElem?_set_ne]; intro z; subst z; exact nb fa
        · exact (RWs.append (fun _ _ x => x) q q2).mono fun b z => z.elim id False.elim
        · rcases z with rfl | z
          · exact .inl fa
          · exact .inl (sx b z)
      · cases e
    · cases e
  · cases e
/-- the new value goes where the handle points -/
def putH (r x : W) (d : Hd) (s : Vs) : VR W := match d with
  | .v _ => .ok r s
  | .at i p => match s[i]? with
    | some (some w0) => .ok r (s.set i (some (setP w0 p x)))
    | _ => .bad
def isL : Option W → Bool
  | some (.lst _) => true
  | _ => false
def qMf (q : W → List W → Option (W × W)) (d : Hd) (ws : List W) (s : Vs) : VR W := match (rd s d).bind fun w => q w ws with
  | some rx => putH rx.1 rx.2 d s
  | none => .bad
def qMk (q : W → List W → Option (W × W)) (gs : VA) (d : Hd) (s : Vs) : VR W := if isL (rd s d) then (gs s).bind (qMf q d) else .bad
def qM (q : W → List W → Option (W × W)) (ga : VH) (gs : VA) : VE := fun s => (ga s).bind (qMk q gs)
theorem isL_rel {d : Hd} {u : U} (r : RH σ I J h Z s d u F) (rs : RSt h Z s σ A) (e : isL (rd s d) = true) : ∃ us, lstU h u = some us := by
  cases q : rd s d with
  | none => rw [q] at e; cases e
  | some w =>
    rw [q] at e
    cases w with
    | lst ws =>
      obtain ⟨us, G, e1, _⟩ := lstP_rel (ws := ws) (r.rd rs q) rfl
      exact ⟨us, e1⟩
    | _ => cases e
/-- a method's end -/
theorem Po.mt {g : GM} {q : W → List W → Option (W × W)} (og : MtA h Z g q) {d : Hd} {u : U} {ws : List W} {us : List U} {Fd Fw : St} (rs : RSt h Z s σ A) (o : Ok h Z A F) (r1 : RH σ I J h Z s d u Fd) (r2 : RWs h Z ws us Fw) (dd : Dis Fw Fd) (sd : Sub Fd F) (sw : Sub Fw F) :
    Po J σ RWr h Z A F s (g u us h) (qMf q d ws s) := by
  unfold qMf
  split
  · rename_i rx e
    obtain ⟨w, e1, e2⟩ := Option.bind_eq_some_iff.mp e
    obtain ⟨r, x⟩ := rx
    cases d with
    | v w' =>
      cases e1
      have r1 : RW h Z w u Fd := r1
      obtain ⟨v, h', G, Gr, e3, l3, k3, rx3, rr3, d3, sg, sgr⟩ := og w ws u us Fd Fw r x (fun a y => o.lf a (sd a y)) dd.symm (fun a y z => o.fz a (sd a y) z) r1 r2 e2
      have kz : Keep h h' Z := fun a z => k3 a (o.lz a z) fun y => o.fz a (sd a y) z
      have sF : ∀ a, Gr a → F a := fun a y => (sgr a y).elim (sd a) (sw a)
      refine ⟨v, h', Z, A, Gr, e3, rr3, ⟨rs.1, fun i w e => ?_⟩, ⟨fun i a y => l3 ▸ o.la i a y, fun a y => l3 ▸ o.lf a (sF a y), fun a z => l3 ▸ o.lz a z, o.aa, fun i a y z => o.af i a y (sF a z), o.az, fun a y z => o.fz a (sF a y) z⟩,
        ⟨Nat.le_of_eq l3.symm, fun a la _ nf => k3 a la fun y => nf (sd a y), fun _ z => z, fun _ z => .inl z, fun i a y => .inl ⟨i, y⟩, fun a y => .inr (.inl (sF a y)), rfl, fun i _ => .inr ⟨rfl, fun a y => k3 a (o.la i a y) fun z => o.af i a y (sd a z), .refl _⟩⟩⟩
      obtain ⟨v', e4, r4⟩ := rs.2 i w e
      exact ⟨v', e4, RW.frame kz (.refl Z) w (fun a y => k3 a (o.la i a y) fun z => o.af i a y (sd a z)) (.refl _) r4⟩
    | «at» i p =>
      unfold putH
      simp only []
      obtain ⟨⟨u0, e0, _, q1⟩, _, hJ⟩ := r1
      have rc := q1 w e1
      simp only [rd] at e1
      split at e1
      · rename_i w0 ew0
        obtain ⟨u0', e0', rw0⟩ := rs.2 i w0 ew0
        rw [e0] at e0'; cases e0'
        obtain ⟨u', F1, Fr, rc', dfr, s1, s2, rw1, wand⟩ := setP_wand rw0 e1
        have := Reach.fn rc rc'
        subst this
        have af1 : ∀ a, F1 a → A i a := s1
        obtain ⟨v, h', G, Gr, e3, l3, k3, rx3, rr3, d3, sg, sgr⟩ := og w ws u us F1 Fw r x (fun a y => o.la i a (s1 a y)) (fun a y z => o.af i a (s1 a y) (sw a z)) (fun a y z => o.az i a (s1 a y) z) rw1 r2 e2
        have kz : Keep h h' Z := fun a z => k3 a (o.lz a z) fun y => o.az i a (s1 a y) z
        have kfr : Keep h h' Fr := fun a y => k3 a (o.la i a (s2 a y)) fun z => dfr a z y
        have gd : ∀ a, Un F1 Fw a → ¬ Fr a := fun a y z => y.elim (fun y => dfr a y z) fun y => o.af i a (s2 a z) (sw a y)
        have nw := wand h' Z G x kz (.refl Z) kfr (fun a y z => gd a (sg a y) z) rx3
        have gsrc : ∀ a, Un F1 Fw a → A i a ∨ F a := fun a y => y.elim (fun y => .inl (s1 a y)) fun y => .inr (sw a y)
        have li : i < s.length := (List.getElem?_eq_some_iff.mp ew0).1
        have asrc : ∀ a, Un G Fr a → A i a ∨ F a := fun a y => y.elim (fun y => gsrc a (sg a y)) fun y => .inl (s2 a y)
        try simp only [ew0]
        refine ⟨v, h', Z, fun j a => if j = i then Un G Fr a else A j a, Gr, e3, rr3, ⟨by simp [rs.1], fun j w' e' => ?_⟩, ⟨fun j a y => ?_, fun a y => ?_, fun a z => l3 ▸ o.lz a z, fun j k a y z => ?_, fun j a y z => ?_, fun j a y z => ?_, fun a y z => ?_⟩,
          ⟨Nat.le_of_eq l3.symm, fun a la na nf => k3 a la fun y => na i (s1 a y), fun _ z => z, fun _ z => .inl z, fun j a y => ?_, fun a y => ?_, by simp, fun j nj => ?_⟩⟩
        · by_cases c : i = j
          · subst c
            rw [List.getElem?_set_self li] at e'
            cases e'
            exact ⟨u0, e0, by simpa using nw⟩
          · rw [List.getElem?_set_ne c] at e'
            obtain ⟨v', e4, r4⟩ := rs.2 j w' e'
            refine ⟨v', e4, ?_⟩
            simp only [if_neg (Ne.symm c)]
            exact RW.frame kz (.refl Z) w' (fun a y => k3 a (o.la j a y) fun z => c (o.aa i j a (s1 a z) y)) (.refl _) r4
        · split at y
          · rcases asrc a y with y | y
            · exact l3 ▸ o.la i a y
            · exact l3 ▸ o.lf a y
          · exact l3 ▸ o.la j a y
        · rcases gsrc a (sgr a y) with y | y
          · exact l3 ▸ o.la i a y
          · exact l3 ▸ o.lf a y
        · split at y
          · rename_i c1
            split at z
            · rename_i c2; rw [c1, c2]
            · rename_i c2
              rcases asrc a y with y | y
              · rw [c1]; exact o.aa i k a y z
              · exact absurd y (o.af k a z)
          · rename_i c1
            split at z
            · rename_i c2
              rcases asrc a z with z | z
              · rw [c2]; exact o.aa j i a y z
              · exact absurd z (o.af j a y)
            · exact o.aa j k a y z
        · split at y
          · rcases y with y | y
            · exact d3 a y z
            · exact gd a (sgr a z) y
          · rename_i c1
            rcases gsrc a (sgr a z) with z | z
            · exact c1 (o.aa j i a y z)
            · exact o.af j a y z
        · split at y
          · rcases asrc a y with y | y
            · exact o.az i a y z
            · exact o.fz a y z
          · exact o.az j a y z
        · rcases gsrc a (sgr a y) with y | y
          · exact o.az i a y z
          · exact o.fz a y z
        · split at y
          · rcases asrc a y with y | y
            · exact .inl ⟨i, y⟩
            · exact .inr (.inl y)
          · exact .inl ⟨j, y⟩
        · rcases gsrc a (sgr a y) with y | y
          · exact .inl ⟨i, y⟩
          · exact .inr (.inl y)
        · have c : i ≠ j := fun z => nj (z ▸ hJ)
          exact .inr ⟨List.getElem?_set_ne c, fun a y => k3 a (o.la j a y) fun z => c (o.aa i j a (s1 a z) y), fun a y => by simpa [Ne.symm c] using y⟩
      · cases e1
  · trivial
theorem sv_m {g : GM} {q : W → List W → Option (W × W)} {fs : Ea} {ga : VH} {gs : VA} (og : MtV g q) (a : SVH M1 I1 J1 fa ga) (b : SVA M2 fs gs) (hi : ∀ i, i ∈ I1 → i ∉ M2) : SVE (M1 ++ (M2 ++ J1)) (eM g fa fs) (qM q ga gs) := by
  refine ⟨fun s σ h Z A rs o => ?_⟩
  refine Po.bind0 (r2 := RWr) (kR := eMk g fs σ) (kV := qMk q gs) o (a.run s σ h Z A rs o) fun u d h1 Z1 A1 F1 s1 _ r rs1 o1 t => ?_
  have r : RH σ I1 J1 h1 Z1 s1 d u F1 := r
  unfold qMk
  split
  · rename_i hl
    obtain ⟨us0, e0⟩ := isL_rel r rs1 hl
    unfold eMk; rw [e0]
    refine Po.beside (kR := g u) (kV := qMf q d) o1 (b.run s1 σ h1 Z1 A1 rs1 (ok_no o1)) fun us ws h2 Z2 A2 F2 s2 _ r2 rs2 o2 dd kb kz zz t2 => ?_
    exact Po.mt (og h2 Z2) rs2 o2 (r.later rs1 t2 hi kb kz zz) (show RWs h2 Z2 ws us F2 from r2) dd (fun _ => .inr) fun _ => .inl
  · trivial
def qMxf (q : W → W → Option (W × W)) (d d2 : Hd) (s : Vs) : VR W := match rd s d2 with
  | some y => qMf (fun w _ => q w y) d [] s
  | none => .bad
def qMxk (q : W → W → Option (W × W)) (gb : VH) (d : Hd) (s : Vs) : VR W := if isL (rd s d) then (gb s).bind (qMxf q d) else .bad
def qMx (q : W → W → Option (W × W)) (ga gb : VH) : VE := fun s => (ga s).bind (qMxk q gb)
theorem sv_mx {g : GM} {q : W → W → Option (W × W)} {ga gb : VH} (og : MxV g q) (a : SVH M1 I1 J1 fa ga) (b : SVH M2 I2 J2 fb gb) (hi : ∀ i, i ∈ I1 → i ∉ M2) : SVE (M1 ++ (M2 ++ J1)) (eM g fa (aCons fb aNil)) (qMx q ga gb) := by
  refine ⟨fun s σ h Z A rs o => ?_⟩
  refine Po.bind0 (r2 := RWr) (kR := eMk g (aCons fb aNil) σ) (kV := qMxk q gb) o (a.run s σ h Z A rs o) fun u d h1 Z1 A1 F1 s1 _ r rs1 o1 t => ?_
  have r : RH σ I1 J1 h1 Z1 s1 d u F1 := r
  unfold qMxk
  split
  · rename_i hl
    obtain ⟨us0, e0⟩ := isL_rel r rs1 hl
    have ee : eMk g (aCons fb aNil) σ u h1 = (fb σ h1).bind fun v h => g u [v] h := by
      unfold eMk aCons; rw [e0]
      cases fb σ h1 <;> rfl
    rw [ee]
    refine Po.beside (kR := fun v h => g u [v] h) (kV := qMxf q d) o1 (b.run s1 σ h1 Z1 A1 rs1 (ok_no o1)) fun v d2 h2 Z2 A2 F2 s2 _ r2 rs2 o2 dd kb kz zz t2 => ?_
    unfold qMxf
    split
    · rename_i y ey
      exact Po.mt (g := fun x _ h => g x [v] h) (q := fun w _ => q w y) (us := []) (Fw := No) (og h2 Z2 y v ((show RH σ I2 J2 h2 Z2 s2 d2 v F2 from r2).rd rs2 ey)) rs2 o2 (r.later rs1 t2 hi kb kz zz) .nil (fun _ x => x.elim) (fun _ => .inr) fun _ x => x.elim
    · trivial
  · trivial
end
end Lz
namespace Lz
open PySem PySem.Spec PyProof.Rows L2
section
variable {h h1 : Hb} {Z Z1 F F1 B : St} {A A1 : Nat → St} {s s1 : Vs} {M M1 M2 M3 I J I1 I2 J1 J2 : List Nat} {σ : Sg} {fa fb fc : Ev} {α β γ δ : Type}
/-! ## calls of defs: the slots of the answer are the arguments, as the call left them -/
abbrev VF := List W → VR W
def PoF (σ : Sg) (h : Hb) (Z : St) (A : Nat → St) (s : Vs) (R : Res U) (V : VR W) : Prop := match V with
  | .bad => True
  | .ok w s' => ∃ u h' Z' A' F', R = .ok u h' ∧ RW h' Z' w u F' ∧ RSt h' Z' s' σ A' ∧ Ok h' Z' A' F' ∧ Sts [] h Z A No s h' Z' A' F' s'
  | .ex x s' => ∃ y h' Z' A', R = .ex y h' ∧ REx h' Z' x y ∧ RSt h' Z' s' σ A' ∧ Ok h' Z' A' No ∧ Sts [] h Z A No s h' Z' A' No s'
structure SVF (np : Nat) (r : GC) (q : VF) : Prop where
  run : ∀ (ws : List W) (us : List U) (h : Hb) (Z : St) (A : Nat → St), ws.length = np → RSt h Z (ws.map some) (us.map some) A → Ok h Z A No → PoF (us.map some) h Z A (ws.map some) (r us h) (q ws)
def takeH : Vs → List Hd → Option (List W × List (Option Nat) × Vs)
  | s, [] => some ([], [], s)
  | s, .v w :: ds => match takeH s ds with | some (ws, os, s') => some (w :: ws, none :: os, s') | none => none
  | s, .at i [] :: ds => match s[i]? with
    | some (some w) => match takeH (s.set i none) ds with | some (ws, os, s') => some (w :: ws, some i :: os, s') | none => none
    | _ => none
  | _, .at _ (_ :: _) :: _ => none
def putBack : Vs → List (Option Nat) → Vs → Vs
  | s, some i :: os, f :: fs => putBack (s.set i f) os fs
  | s, none :: os, _ :: fs => putBack s os fs
  | s, _, _ => s
def Uni (B : Nat → St) : St := fun a => ∃ j, B j a
/-- one slot's value is taken: it is held -/
theorem RSt.takeOk {i : Nat} {w : W} (rs : RSt h Z s σ A) (o : Ok h Z A F) (e : s[i]? = some (some w)) : RSt h Z (s.set i none) σ (fun j a => j ≠ i ∧ A j a) ∧ Ok h Z (fun j a => j ≠ i ∧ A j a) (Un F (A i)) :=
  ⟨rs.drop i, fun j a x => o.la j a x.2, fun a x => x.elim (o.lf a) (o.la i a), o.lz, fun j k a x y => o.aa j k a x.2 y.2, fun j a x y => y.elim (o.af j a x.2) fun y => x.1 (o.aa j i a x.2 y), fun j a x => o.az j a x.2, fun a x => x.elim (o.fz a) (o.az i a)⟩
def Back (σ : Sg) (J : List Nat) (os : List (Option Nat)) (us : List U) : Prop := os.length = us.length ∧ ∀ (j i : Nat), os[j]? = some (some i) → i ∈ J ∧ ∃ u, us[j]? = some u ∧ σ[i]? = some (some u)
theorem rh_none {σ : Sg} {i : Nat} {d : Hd} {u : U} (r : RH σ I J h Z s d u F) : RH σ I J h Z (s.set i none) d u F := by
  cases d with
  | v w => exact r
  | «at» j p =>
    obtain ⟨⟨u0, e0, q0, q1⟩, q2, q3⟩ := r
    refine ⟨⟨u0, e0, q0, fun w e => q1 w ?_⟩, q2, q3⟩
    simp only [rd] at e ⊢
    by_cases c : i = j
    · subst c
      rw [List.getElem?_set] at e
      simp at e
    · rwa [List.getElem?_set_ne c] at e
theorem rhs_none {σ : Sg} {i : Nat} : ∀ {ds : List Hd} {us : List U} {F : St}, RHs σ I J h Z s ds us F → RHs σ I J h Z (s.set i none) ds us F
  | [], us, F, r => r
  | d :: ds, us, F, ⟨u, r, F1, F2, e, dd, s1, s2, a, b⟩ => ⟨u, r, F1, F2, e, dd, s1, s2, rh_none a, rhs_none b⟩
/-- args beside the slots -/
structure TakeOk (h : Hb) (Z : St) (σ : Sg) (J : List Nat) (s : Vs) (A : Nat → St) (F : St) (us : List U) (ws : List W) (os : List (Option Nat)) (s' : Vs) (A' B : Nat → St) : Prop where
  rs : RSt h Z s' σ A'
  ra : RSt h Z (ws.map some) (us.map some) B
  ob : Ok h Z B No
  oa : Ok h Z A' (Uni B)
  aa : ∀ i a, A' i a → A i a
  ba : ∀ j a, B j a → F a ∨ ∃ i, A i a
  len : s'.length = s.length
  q : ∀ i, i ∉ J → s'[i]? = s[i]? ∧ Sub (A i) (A' i)
  bk : Back σ J os us
def consB (G : St) (B : Nat → St) : Nat → St := fun j => match j with | 0 => G | j + 1 => B j
theorem TakeOk.cons {us : List U} {ws : List W} {os : List (Option Nat)} {s' : Vs} {A' B : Nat → St} {G : St} {u : U} {w : W} {oi : Option Nat} (t : TakeOk h Z σ J s A F us ws os s' A' B) (r : RW h Z w u G) (lg : ∀ a, G a → a < h.length) (gz : ∀ a, G a → ¬ Z a)
    (gb : ∀ j a, B j a → ¬ G a) (ga : ∀ i a, A' i a → ¬ G a) (src : ∀ a, G a → F a ∨ ∃ i, A i a) (bk : ∀ i, oi = some i → i ∈ J ∧ σ[i]? = some (some u)) : TakeOk h Z σ J s A F (u :: us) (w :: ws) (oi :: os) s' A' (consB G B) := by
  refine ⟨t.rs, ⟨by simpa using t.ra.1, fun j x e => ?_⟩, ⟨fun j a x => ?_, fun _ x => x.elim, t.ob.lz, fun j k a x y => ?_, fun _ _ _ x => x, fun j a x => ?_, fun _ x => x.elim⟩, ⟨t.oa.la, fun a x => ?_, t.oa.lz, t.oa.aa, fun i a x y => ?_, t.oa.az, fun a x => ?_⟩, t.aa, fun j a x => ?_, t.len, t.q, ⟨by simp [t.bk.1], fun j i e => ?_⟩⟩
  · cases j with
    | zero => simp at e; subst e; exact ⟨u, rfl, r⟩
    | succ j => exact t.ra.2 j x (by simpa using e)
  · cases j with
    | zero => exact lg a x
    | succ j => exact t.ob.la j a x
  · cases j with
    | zero => cases k with
      | zero => rfl
      | succ k => exact absurd x (gb k a y)
    | succ j => cases k with
      | zero => exact absurd y (gb j a x)
      | succ k => exact congrArg _ (t.ob.aa j k a x y)
  · cases j with
    | zero => exact gz a x
    | succ j => exact t.ob.az j a x
  · obtain ⟨j, x⟩ := x
    cases j with
    | zero => exact lg a x
    | succ j => exact t.oa.lf a ⟨j, x⟩
  · obtain ⟨j, y⟩ := y
    cases j with
    | zero => exact ga i a x y
    | succ j => exact t.oa.af i a x ⟨j, y⟩
  · obtain ⟨j, x⟩ := x
    cases j with
    | zero => exact gz a x
    | succ j => exact t.oa.fz a ⟨j, x⟩
  · cases j with
    | zero => exact src a x
    | succ j => exact t.ba j a x
  · cases j with
    | zero =>
      simp at e
      obtain ⟨b1, b2⟩ := bk i e
      exact ⟨b1, u, rfl, b2⟩
    | succ j =>
      obtain ⟨b1, v, b2, b3⟩ := t.bk.2 j i (by simpa using e)
      exact ⟨b1, v, by simpa using b2, b3⟩
theorem take_ok : ∀ {ds : List Hd} {s : Vs} {A : Nat → St} {F : St} {us : List U} {ws : List W} {os : List (Option Nat)} {s' : Vs}, RSt h Z s σ A → RHs σ I J h Z s ds us F → Ok h Z A F → takeH s ds = some (ws, os, s') → ∃ A' B, TakeOk h Z σ J s A F us ws os s' A' B
  | [], s, A, F, us, ws, os, s', rs, r, o, e => by
    cases e
    have : us = [] := r
    subst this
    exact ⟨A, fun _ => No, rs, ⟨rfl, fun i w e => by simp at e⟩, ⟨fun _ _ x => x.elim, fun _ x => x.elim, o.lz, fun _ _ _ x => x.elim, fun _ _ _ x => x, fun _ _ x => x.elim, fun _ x => x.elim⟩,
      ⟨o.la, fun a ⟨_, x⟩ => x.elim, o.lz, o.aa, fun i a _ ⟨_, x⟩ => x, o.az, fun a ⟨_, x⟩ => x.elim⟩, fun _ _ x => x, fun _ _ x => x.elim, rfl, fun _ _ => ⟨rfl, .refl _⟩, rfl, fun j i e => by simp at e⟩
  | .v w :: ds, s, A, F, us, ws, os, s', rs, ⟨u, us', F1, F2, eu, dd, s1, s2, a, b⟩, o, e => by
    subst eu
    simp only [takeH] at e
    split at e
    · rename_i ws' os' s'' e1
      cases e
      obtain ⟨A', B, t⟩ := take_ok rs b (o.fsub s2) e1
      refine ⟨A', consB F1 B, TakeOk.cons { t with ba := fun j a x => (t.ba j a x).imp (s2 a) id } a (fun a x => o.lf a (s1 a x)) (fun a x => o.fz a (s1 a x)) (fun j a x y => ?_) (fun i a x y => o.af i a (t.aa i a x) (s1 a y)) (fun a x => .inl (s1 a x)) fun i z => by cases z⟩
      rcases t.ba j a x with z | ⟨i, z⟩
      · exact dd a y z
      · exact o.af i a z (s1 a y)
    · cases e
  | .at i [] :: ds, s, A, F, us, ws, os, s', rs, ⟨u, us', F1, F2, eu, dd, s1, s2, a, b⟩, o, e => by
    subst eu
    simp only [takeH] at e
    split at e
    · rename_i w ew
      split at e
      · rename_i ws' os' s'' e1
        cases e
        obtain ⟨u', e2, rw'⟩ := rs.2 i w ew
        obtain ⟨⟨u0, e0, q0, _⟩, _, hJ⟩ := a
        rw [e0] at e2; cases e2
        have := q0 rfl
        subst this
        obtain ⟨rs2, o2⟩ := rs.takeOk o ew
        have o3 : Ok h Z (fun j a => j ≠ i ∧ A j a) F2 := o2.fsub fun a x => .inl (s2 a x)
        obtain ⟨A', B, t⟩ := take_ok rs2 (rhs_none b) o3 e1
        refine ⟨A', consB (A i) B, TakeOk.cons (s := s) (A := A) (F := F) ⟨t.rs, t.ra, t.ob, t.oa, fun k a x => (t.aa k a x).2, fun j a x => (t.ba j a x).imp (s2 a) fun ⟨k, z⟩ => ⟨k, z.2⟩, by simpa using t.len, fun k nk => ?_, t.bk⟩ rw' (o.la i) (o.az i) (fun j a x y => ?_) (fun k a x y => (t.aa k a x).1 (o.aa k i a (t.aa k a x).2 y)) (fun a x => .inr ⟨i, x⟩) fun k z => by cases z; exact ⟨hJ, e0⟩⟩
        · have ck : i ≠ k := fun z => nk (z ▸ hJ)
          obtain ⟨b1, b2⟩ := t.q k nk
          exact ⟨b1.trans (List.getElem?_set_ne ck), fun a x => b2 a ⟨fun z => ck z.symm, x⟩⟩
        · rcases t.ba j a x with z | ⟨k, z⟩
          · exact o.af i a y (s2 a z)
          · exact z.1 (o.aa k i a z.2 y)
      · cases e
    · cases e
  | .at i (k :: ks) :: ds, s, A, F, us, ws, os, s', rs, r, o, e => by cases e
structure PutOk (h : Hb) (Z : St) (σ : Sg) (J : List Nat) (s : Vs) (A B : Nat → St) (F : St) (s' : Vs) (A' : Nat → St) : Prop where
  rs : RSt h Z s' σ A'
  o : Ok h Z A' F
  src : ∀ i a, A' i a → A i a ∨ ∃ j, B j a
  len : s'.length = s.length
  q : ∀ i, i ∉ J → s'[i]? = s[i]? ∧ Sub (A i) (A' i)
theorem put_ok : ∀ {os : List (Option Nat)} {us : List U} {fs s : Vs} {A B : Nat → St}, RSt h Z s σ A → RSt h Z fs (us.map some) B → Ok h Z A (Un F (Uni B)) → Ok h Z B F → Back σ J os us → ∃ A', PutOk h Z σ J s A B F (putBack s os fs) A'
  | [], us, fs, s, A, B, rs, rb, oa, ob, bk => by
    have e : putBack s [] fs = s := by cases fs <;> rfl
    rw [e]
    exact ⟨A, rs, oa.fsub fun _ => .inl, fun _ _ => .inl, rfl, fun _ _ => ⟨rfl, .refl _⟩⟩
  | oi :: os, us, [], s, A, B, rs, rb, oa, ob, bk => by
    have e : putBack s (oi :: os) [] = s := by cases oi <;> rfl
    rw [e]
    exact ⟨A, rs, oa.fsub fun _ => .inl, fun _ _ => .inl, rfl, fun _ _ => ⟨rfl, .refl _⟩⟩
  | oi :: os, [], f :: fs, s, A, B, rs, rb, oa, ob, bk => by have := bk.1; simp at this
  | oi :: os, u :: us, f :: fs, s, A, B, rs, rb, oa, ob, bk => by
    have rb' : RSt h Z fs (us.map some) (fun j => B (j + 1)) := ⟨by simpa using rb.1, fun j w e => rb.2 (j + 1) w (by simpa using e)⟩
    have ob' : Ok h Z (fun j => B (j + 1)) F := ⟨fun j => ob.la _, ob.lf, ob.lz, fun j k a x y => by have := ob.aa _ _ a x y; omega, fun j => ob.af _, fun j => ob.az _, ob.fz⟩
    have bk' : Back σ J os us := ⟨by simpa using bk.1, fun j i e => by
      obtain ⟨b1, v, b2, b3⟩ := bk.2 (j + 1) i (by simpa using e)
      exact ⟨b1, v, by simpa using b2, b3⟩⟩
    cases oi with
    | none =>
      obtain ⟨A', p⟩ := put_ok rs rb' (oa.fsub fun a x => x.imp id fun ⟨j, y⟩ => ⟨j + 1, y⟩) ob' bk'
      exact ⟨A', { p with src := fun i a x => (p.src i a x).imp id fun ⟨j, y⟩ => ⟨j + 1, y⟩ }⟩
    | some i =>
      obtain ⟨hJ, v, b2, b3⟩ := bk.2 0 i (by simp)
      simp at b2; subst b2
      let A1 : Nat → St := fun j a => if j = i then B 0 a else A j a
      have rs1 : RSt h Z (s.set i f) σ A1 := by
        refine ⟨by simp [rs.1], fun j w e => ?_⟩
        by_cases c : i = j
        · subst c
          by_cases li : i < s.length
          · rw [List.getElem?_set_self li] at e
            simp only [Option.some.injEq] at e
            subst e
            obtain ⟨u', e1, r⟩ := rb.2 0 w (by simp)
            simp at e1; subst e1
            exact ⟨u, b3, by simpa [A1] using r⟩
          · rw [List.getElem?_eq_none (by simp; omega)] at e; cases e
        · rw [List.getElem?_set_ne c] at e
          obtain ⟨u', e1, r⟩ := rs.2 j w e
          exact ⟨u', e1, by simpa [A1, Ne.symm c] using r⟩
      have o1 : Ok h Z A1 (Un F (Uni fun j => B (j + 1))) := by
        refine ⟨fun j a x => ?_, fun a x => x.elim (ob.lf a) fun ⟨j, y⟩ => ob.la _ a y, ob.lz, fun j k a x y => ?_, fun j a x y => ?_, fun j a x => ?_, fun a x => x.elim (ob.fz a) fun ⟨j, y⟩ => ob.az _ a y⟩
        · simp only [A1] at x; split at x
          · exact ob.la 0 a x
          · exact oa.la j a x
        · simp only [A1] at x y; split at x
          · rename_i c1; split at y
            · rename_i c2; rw [c1, c2]
            · exact absurd (.inr ⟨0, x⟩) (oa.af k a y)
          · rename_i c1; split at y
            · exact absurd (.inr ⟨0, y⟩) (oa.af j a x)
            · exact oa.aa j k a x y
        · simp only [A1] at x; split at x
          · rcases y with y | ⟨k, y⟩
            · exact ob.af 0 a x y
            · have := ob.aa 0 (k + 1) a x y; omega
          · exact oa.af j a x (y.imp id fun ⟨k, z⟩ => ⟨k + 1, z⟩)
        · simp only [A1] at x; split at x
          · exact ob.az 0 a x
          · exact oa.az j a x
      obtain ⟨A', p⟩ := put_ok rs1 rb' o1 ob' bk'
      refine ⟨A', ⟨p.rs, p.o, fun k a x => ?_, p.len.trans (by simp), fun k nk => ?_⟩⟩
      · rcases p.src k a x with y | ⟨j, y⟩
        · simp only [A1] at y; split at y
          · exact .inr ⟨0, y⟩
          · exact .inl y
        · exact .inr ⟨j + 1, y⟩
      · have c : i ≠ k := fun z => nk (z ▸ hJ)
        obtain ⟨q1, q2⟩ := p.q k nk
        exact ⟨q1.trans (List.getElem?_set_ne c), fun a x => q2 a (by simpa [A1, Ne.symm c] using x)⟩
def callEnd (s : Vs) (os : List (Option Nat)) (r : VR W) : VR W := match r with
  | .ok w fs => .ok w (putBack s os fs)
  | .ex x fs => .ex x (putBack s os fs)
  | .bad => .bad
def qCallk (q : VF) (ds : List Hd) (s : Vs) : VR W := match takeH s ds with
  | some (ws, os, s') => callEnd s' os (q ws)
  | none => .bad
def qCall (q : VF) (gs : VK2) : VE := fun s => (gs s).bind (qCallk q)
theorem takeH_len : ∀ {ds : List Hd} {s : Vs} {ws : List W} {os : List (Option Nat)} {s' : Vs}, takeH s ds = some (ws, os, s') → ws.length = ds.length
  | [], s, ws, os, s', e => by cases e; rfl
  | .v w :: ds, s, ws, os, s', e => by
    simp only [takeH] at e; split at e
    · rename_i e1; cases e; simp [takeH_len e1]
    · cases e
  | .at i [] :: ds, s, ws, os, s', e => by
    simp only [takeH] at e; split at e
    · split at e
      · rename_i e1; cases e; simp [takeH_len e1]
      · cases e
    · cases e
  | .at i (_ :: _) :: ds, s, ws, os, s', e => by cases e
theorem sv_call {np : Nat} {r : GC} {q : VF} {fs : Ea} {gs : VK2} (c : SVF np r q) (a : SVK M I J fs gs) (hl : ∀ ws, ws.length ≠ np → q ws = .bad) : SVE (M ++ J) (eC r fs) (qCall q gs) := by
  refine ⟨fun s σ h Z A rs o => ?_⟩
  refine Po.bind0 (r2 := RWr) (kR := r) (kV := qCallk q) o (a.run s σ h Z A rs o) fun us ds h1 Z1 A1 F1 s1 _ r1 rs1 o1 t => ?_
  have r1 : RHs σ I J h1 Z1 s1 ds us F1 := r1
  unfold qCallk
  split
  · rename_i ws os s' et
    obtain ⟨A', B, t1⟩ := take_ok rs1 r1 o1 et
    by_cases hw : ws.length = np
    · have p := c.run ws us h1 Z1 B hw t1.ra t1.ob
      have frame : ∀ (h2 : Hb) (Z2 : St) (B2 : Nat → St) (F2 : St) (fs2 : Vs), RSt h2 Z2 fs2 (us.map some) B2 → Ok h2 Z2 B2 F2 → Sts [] h1 Z1 B No (ws.map some) h2 Z2 B2 F2 fs2 →
          ∃ A2, RSt h2 Z2 (putBack s' os fs2) σ A2 ∧ Ok h2 Z2 A2 F2 ∧ Stp J h1 Z1 A1 F1 s1 h2 Z2 A2 F2 (putBack s' os fs2) := fun h2 Z2 B2 F2 fs2 rf of st => by
        have nofro : ∀ i a, A' i a → ¬ Fro h1 B No a := fun i a x z => z.elim (fun y => t1.oa.af i a x y) fun z => z.elim id fun z => by have := t1.oa.la i a x; omega
        have keepA : ∀ i, Keep h1 h2 (A' i) := fun i a x => st.same a (t1.oa.la i a x) (fun j y => t1.oa.af i a x ⟨j, y⟩) fun y => y
        have kz : Keep h1 h2 Z1 := fun a z => st.same a (t1.oa.lz a z) (fun j y => t1.ob.az j a y z) fun y => y
        have rs2 : RSt h2 Z2 s' σ A' := ⟨t1.rs.1, fun i w e => by
          obtain ⟨u, e1, r⟩ := t1.rs.2 i w e
          exact ⟨u, e1, RW.frame kz st.zin w (keepA i) (.refl _) r⟩⟩
        have oa2 : Ok h2 Z2 A' (Un F2 (Uni B2)) := by
          refine ⟨fun i a x => Nat.lt_of_lt_of_le (t1.oa.la i a x) st.len, fun a x => x.elim (of.lf a) fun ⟨j, y⟩ => of.la j a y, of.lz, t1.oa.aa, fun i a x y => ?_, fun i a x z => ?_, fun a x => x.elim (of.fz a) fun ⟨j, y⟩ => of.az j a y⟩
          · rcases y with y | ⟨j, y⟩
            · exact nofro i a x (st.fout a y)
            · exact nofro i a x (st.aout j a y)
          · rcases st.zout a z with z | z
            · exact t1.oa.az i a x z
            · exact nofro i a x z
        obtain ⟨A2, p2⟩ := put_ok rs2 rf oa2 of t1.bk
        have up : ∀ a, Fro h1 B No a → Fro h1 A1 F1 a := fun a z => by
          rcases z with ⟨j, z⟩ | z | z
          · rcases t1.ba j a z with y | ⟨i, y⟩
            · exact .inr (.inl y)
            · exact .inl ⟨i, y⟩
          · exact z.elim
          · exact .inr (.inr z)
        refine ⟨A2, p2.rs, p2.o, ⟨st.len, fun a la na nf => st.same a la (fun j y => ?_) fun y => y, st.zin, fun a z => (st.zout a z).imp id (up a), fun i a x => ?_, fun a x => up a (st.fout a x), by rw [p2.len, t1.len], fun i ni => ?_⟩⟩
        · rcases t1.ba j a y with y | ⟨i, y⟩
          · exact nf y
          · exact na i y
        · rcases p2.src i a x with y | ⟨j, y⟩
          · exact .inl ⟨i, t1.aa i a y⟩
          · exact up a (st.aout j a y)
        · obtain ⟨q1, q2⟩ := t1.q i ni
          obtain ⟨q3, q4⟩ := p2.q i ni
          exact .inr ⟨q3.trans q1, fun a x => keepA i a (q2 a x), fun a x => q4 a (q2 a x)⟩
      cases eq : q ws with
      | bad => trivial
      | ex x fs2 =>
        rw [eq] at p
        obtain ⟨y, h2, Z2, B2, e1, rx, rf, of, st⟩ := p
        obtain ⟨A2, a1, a2, a3⟩ := frame h2 Z2 B2 No fs2 rf of st
        exact ⟨y, h2, Z2, A2, e1, rx, a1, a2, a3⟩
      | ok w fs2 =>
        rw [eq] at p
        obtain ⟨u, h2, Z2, B2, F2, e1, rx, rf, of, st⟩ := p
        obtain ⟨A2, a1, a2, a3⟩ := frame h2 Z2 B2 F2 fs2 rf of st
        exact ⟨u, h2, Z2, A2, F2, e1, rx, a1, a2, a3⟩
    · rw [hl ws hw]; trivial
  · trivial
end
end Lz
namespace Lz
open PySem PySem.Spec PyProof.Rows L2
/-! # statements -/
inductive VSR where
  | nx (s : Vs) | rt (w : W) (s : Vs) | bk (s : Vs) | ct (s : Vs) | ex (x : VEx) (s : Vs) | bad
abbrev VS := Vs → VSR
def VR.thn {α : Type} (r : VR α) (k : α → Vs → VSR) : VSR := match r with
  | .ok a s => k a s
  | .ex x s => .ex x s
  | .bad => .bad
def VSR.thn (r : VSR) (k : Vs → VSR) : VSR := match r with
  | .nx s => k s
  | .rt w s => .rt w s
  | .bk s => .bk s
  | .ct s => .ct s
  | .ex x s => .ex x s
  | .bad => .bad
section
variable {α : Type}
@[simp] theorem vthn_ok (a : α) (s : Vs) (k : α → Vs → VSR) : (VR.ok a s).thn k = k a s := rfl
@[simp] theorem vthn_ex (x : VEx) (s : Vs) (k : α → Vs → VSR) : (VR.ex x s : VR α).thn k = .ex x s := rfl
@[simp] theorem vthn_bad (k : α → Vs → VSR) : (VR.bad : VR α).thn k = .bad := rfl
@[simp] theorem sv_thn_nx (s : Vs) (k : Vs → VSR) : (VSR.nx s).thn k = k s := rfl
@[simp] theorem sv_thn_rt (w : W) (s : Vs) (k : Vs → VSR) : (VSR.rt w s).thn k = .rt w s := rfl
@[simp] theorem sv_thn_bk (s : Vs) (k : Vs → VSR) : (VSR.bk s).thn k = .bk s := rfl
@[simp] theorem sv_thn_ct (s : Vs) (k : Vs → VSR) : (VSR.ct s).thn k = .ct s := rfl
@[simp] theorem sv_thn_ex (x : VEx) (s : Vs) (k : Vs → VSR) : (VSR.ex x s).thn k = .ex x s := rfl
@[simp] theorem sv_thn_bad (k : Vs → VSR) : (VSR.bad).thn k = .bad := rfl
end
/-- K: slots that are not set; L: slots of which all is left as it is -/
def KK (K L : List Nat) (σ σ' : Sg) : Prop := ∀ i, i ∈ K ∨ i ∈ L → σ'[i]? = σ[i]?
def PoS (K L : List Nat) (σ : Sg) (h : Hb) (Z : St) (A : Nat → St) (F : St) (s : Vs) (R : SR) (V : VSR) : Prop := match V with
  | .bad => True
  | .nx s' => ∃ σ' h' Z' A', R = .nx σ' h' ∧ RSt h' Z' s' σ' A' ∧ Ok h' Z' A' No ∧ Sts L h Z A F s h' Z' A' No s' ∧ KK K L σ σ'
  | .bk s' => ∃ σ' h' Z' A', R = .bk σ' h' ∧ RSt h' Z' s' σ' A' ∧ Ok h' Z' A' No ∧ Sts L h Z A F s h' Z' A' No s' ∧ KK K L σ σ'
  | .ct s' => ∃ σ' h' Z' A', R = .ct σ' h' ∧ RSt h' Z' s' σ' A' ∧ Ok h' Z' A' No ∧ Sts L h Z A F s h' Z' A' No s' ∧ KK K L σ σ'
  | .ex x s' => ∃ y σ' h' Z' A', R = .ex y σ' h' ∧ REx h' Z' x y ∧ RSt h' Z' s' σ' A' ∧ Ok h' Z' A' No ∧ Sts L h Z A F s h' Z' A' No s' ∧ KK K L σ σ'
  | .rt w s' => ∃ u σ' h' Z' A' F', R = .rt u h' ∧ RW h' Z' w u F' ∧ RSt h' Z' s' σ' A' ∧ Ok h' Z' A' F' ∧ Sts L h Z A F s h' Z' A' F' s' ∧ KK K L σ σ'
structure SVS (K L : List Nat) (f : Sv) (g : VS) : Prop where
  run : ∀ (s : Vs) (σ : Sg) (h : Hb) (Z : St) (A : Nat → St), RSt h Z s σ A → Ok h Z A No → PoS K L σ h Z A No s (f σ h) (g s)
section
variable {h h1 h2 : Hb} {Z Z1 Z2 F F1 F2 B : St} {A A1 A2 : Nat → St} {s s1 s2 : Vs} {K L M M1 M2 M3 I J I1 I2 J1 J2 : List Nat} {σ σ1 σ2 : Sg} {fa fb fc : Ev} {α β γ δ : Type}
theorem Stp.sts (t : Stp M h Z A F s h1 Z1 A1 F1 s1) (hl : ∀ i, i ∈ L → i ∉ M) : Sts L h Z A F s h1 Z1 A1 F1 s1 := ⟨t.len, t.same, t.zin, t.zout, t.aout, t.fout, t.sl, fun i x => t.quiet i (hl i x)⟩
theorem Sts.refl : Sts L h Z A F s h Z A F s :=
  ⟨Nat.le_refl _, fun _ _ _ _ => rfl, fun _ z => z, fun _ z => .inl z, fun i _ x => .inl ⟨i, x⟩, fun _ x => .inr (.inl x), rfl, fun _ _ => .inr ⟨rfl, .refl _ _, .refl _⟩⟩
theorem Sts.trans (t : Sts L h Z A F s h1 Z1 A1 F1 s1) (t2 : Sts L h1 Z1 A1 F1 s1 h2 Z2 A2 F2 s2) : Sts L h Z A F s h2 Z2 A2 F2 s2 := by
  refine ⟨Nat.le_trans t.len t2.len, fun a la nm nf => ?_, fun a z => t2.zin a (t.zin a z), fun a z => ?_, fun i a x => Fro.up (t2.aout i a x) t.len t.aout t.fout, fun a x => Fro.up (t2.fout a x) t.len t.aout t.fout, t2.sl.trans t.sl, fun i n => ?_⟩
  · rw [← t.same a la nm nf]
    have no : ¬ Fro h A F a := fun x => x.elim (fun ⟨j, x⟩ => nm j x) fun x => x.elim nf fun x => by omega
    exact t2.same a (Nat.lt_of_lt_of_le la t.len) (fun i x => no (t.aout i a x)) fun x => no (t.fout a x)
  · rcases t2.zout a z with z | z
    · exact t.zout a z
    · exact .inr (Fro.up z t.len t.aout t.fout)
  · rcases t2.quiet i n with e | ⟨e, k, sb⟩
    · exact .inl e
    · rcases t.quiet i n with e1 | ⟨e1, k1, sb1⟩
      · exact .inl (e.trans e1)
      · exact .inr ⟨e.trans e1, fun a x => (k a (sb1 a x)).trans (k1 a x), fun a x => sb a (sb1 a x)⟩
theorem Sts.fsub (t : Sts L h Z A F s h1 Z1 A1 F1 s1) (hf : Sub F2 F1) : Sts L h Z A F s h1 Z1 A1 F2 s1 := { t with fout := fun a x => t.fout a (hf a x) }
theorem Sts.hold (t : Sts L h Z A F s h1 Z1 A1 F1 s1) (B : St) : Sts L h Z A (Un F B) s h1 Z1 A1 (Un F1 B) s1 :=
  ⟨t.len, fun a la n nf => t.same a la n fun x => nf (.inl x), t.zin, fun a z => (t.zout a z).imp id fun x => x.mono fun _ => .inl, fun i a x => (t.aout i a x).mono fun _ => .inl,
    fun a x => x.elim (fun x => (t.fout a x).mono fun _ => .inl) fun x => .inr (.inl (.inr x)), t.sl, t.quiet⟩
theorem Ok.holdS (o : Ok h Z A B) (o1 : Ok h1 Z1 A1 F1) (t : Sts L h Z A No s h1 Z1 A1 F1 s1) : Ok h1 Z1 A1 (Un F1 B) ∧ Dis F1 B ∧ Keep h h1 B := by
  have no : ∀ a, B a → ¬ Fro h A No a := fun a b x => x.elim (fun ⟨j, x⟩ => o.af j a x b) fun x => x.elim id fun x => by have := o.lf a b; omega
  refine ⟨⟨o1.la, fun a x => x.elim (o1.lf a) fun b => Nat.lt_of_lt_of_le (o.lf a b) t.len, o1.lz, o1.aa, fun i a x y => y.elim (o1.af i a x) fun b => no a b (t.aout i a x), o1.az, fun a x z => ?_⟩, fun a x b => no a b (t.fout a x), fun a b => ?_⟩
  · rcases x with x | b
    · exact o1.fz a x z
    · rcases t.zout a z with z | z
      · exact o.fz a b z
      · exact no a b z
  · exact t.same a (o.lf a b) (fun i x => o.af i a x b) fun x => x
theorem Ok.keepZS (o : Ok h Z A F) (t : Sts L h Z A F s h1 Z1 A1 F1 s1) : Keep h h1 Z := fun a z => t.same a (o.lz a z) (fun i x => o.az i a x z) fun f => o.fz a f z
theorem KK.refl : KK K L σ σ := fun _ _ => rfl
theorem KK.trans (a : KK K L σ σ1) (b : KK K L σ1 σ2) : KK K L σ σ2 := fun i x => (b i x).trans (a i x)
/-- what went before is put ahead -/
theorem PoS.pre {R : SR} {V : VSR} (t : Sts L h Z A F s h1 Z1 A1 F1 s1) (k : KK K L σ σ1) (p : PoS K L σ1 h1 Z1 A1 F1 s1 R V) : PoS K L σ h Z A F s R V := by
  cases V with
  | bad => trivial
  | nx s' => obtain ⟨σ', h', Z', A', e, a, b, c, d⟩ := p; exact ⟨σ', h', Z', A', e, a, b, t.trans c, k.trans d⟩
  | bk s' => obtain ⟨σ', h', Z', A', e, a, b, c, d⟩ := p; exact ⟨σ', h', Z', A', e, a, b, t.trans c, k.trans d⟩
  | ct s' => obtain ⟨σ', h', Z', A', e, a, b, c, d⟩ := p; exact ⟨σ', h', Z', A', e, a, b, t.trans c, k.trans d⟩
  | ex x s' => obtain ⟨y, σ', h', Z', A', e, x, a, b, c, d⟩ := p; exact ⟨y, σ', h', Z', A', e, x, a, b, t.trans c, k.trans d⟩
  | rt w s' => obtain ⟨u, σ', h', Z', A', F', e, x, a, b, c, d⟩ := p; exact ⟨u, σ', h', Z', A', F', e, x, a, b, t.trans c, k.trans d⟩
/-- what is held is forgotten -/
theorem PoS.forget {R : SR} {V : VSR} (o : Ok h Z A F) (p : PoS K L σ h Z A No s R V) : PoS K L σ h Z A F s R V := by
  have e : Un No F = F := no_un F
  cases V with
  | bad => trivial
  | nx s' => obtain ⟨σ', h', Z', A', e1, a, b, c, d⟩ := p; exact ⟨σ', h', Z', A', e1, a, b, (e ▸ c.hold F).fsub (F2 := No) fun _ x => x.elim, d⟩
  | bk s' => obtain ⟨σ', h', Z', A', e1, a, b, c, d⟩ := p; exact ⟨σ', h', Z', A', e1, a, b, (e ▸ c.hold F).fsub (F2 := No) fun _ x => x.elim, d⟩
  | ct s' => obtain ⟨σ', h', Z', A', e1, a, b, c, d⟩ := p; exact ⟨σ', h', Z', A', e1, a, b, (e ▸ c.hold F).fsub (F2 := No) fun _ x => x.elim, d⟩
  | ex x s' => obtain ⟨y, σ', h', Z', A', e1, x, a, b, c, d⟩ := p; exact ⟨y, σ', h', Z', A', e1, x, a, b, (e ▸ c.hold F).fsub (F2 := No) fun _ x => x.elim, d⟩
  | rt w s' => obtain ⟨u, σ', h', Z', A', F', e1, x, a, b, c, d⟩ := p; exact ⟨u, σ', h', Z', A', F', e1, x, a, b, (e ▸ c.hold F).fsub fun _ => .inl, d⟩
theorem PoS.nx (rs : RSt h Z s σ A) (o : Ok h Z A No) : PoS K L σ h Z A No s (.nx σ h) (.nx s) := ⟨σ, h, Z, A, rfl, rs, o, .refl, .refl⟩
/-- an expression ahead -/
theorem PoS.ahead {r1 : Rl α β} {R : Res α} {V : VR β} {kR : α → Hb → SR} {kV : β → Vs → VSR} (o : Ok h Z A No) (p : Po M σ r1 h Z A No s R V) (hl : ∀ i, i ∈ L → i ∉ M)
    (k : ∀ u w h1 Z1 A1 F1 s1, r1 h1 Z1 s1 w u F1 → RSt h1 Z1 s1 σ A1 → Ok h1 Z1 A1 F1 → PoS K L σ h1 Z1 A1 F1 s1 (kR u h1) (kV w s1)) : PoS K L σ h Z A No s (R.thn σ kR) (V.thn kV) := by
  cases V with
  | bad => trivial
  | ex x s' =>
    obtain ⟨y, h1, Z1, A1, rfl, e, rs, o1, t⟩ := p
    exact ⟨y, σ, h1, Z1, A1, rfl, e, rs, o1, t.sts hl, .refl⟩
  | ok w s1 =>
    obtain ⟨u, h1, Z1, A1, F1, rfl, r, rs, o1, t⟩ := p
    exact PoS.pre (t.sts hl) .refl (k u w h1 Z1 A1 F1 s1 r rs o1)
def vNil : VS := fun s => .nx s
theorem ss_nil' : SVS K L sNil vNil := ⟨fun s σ h Z A rs o => .nx rs o⟩
def vSeq (f g : VS) : VS := fun s => (f s).thn g
variable {f g : Sv} {vf vg : VS}
theorem ss_seq' (a : SVS K L f vf) (b : SVS K L g vg) : SVS K L (sSeq f g) (vSeq vf vg) := by
  refine ⟨fun s σ h Z A rs o => ?_⟩
  have p := a.run s σ h Z A rs o
  unfold sSeq vSeq
  cases e : vf s with
  | bad => trivial
  | nx s' => rw [e] at p; obtain ⟨σ', h', Z', A', e1, a, b', c, d⟩ := p; rw [e1]; exact PoS.pre c d (b.run s' σ' h' Z' A' a b')
  | bk s' => rw [e] at p; obtain ⟨σ', h', Z', A', e1, a, b, c, d⟩ := p; rw [e1]; exact ⟨σ', h', Z', A', rfl, a, b, c, d⟩
  | ct s' => rw [e] at p; obtain ⟨σ', h', Z', A', e1, a, b, c, d⟩ := p; rw [e1]; exact ⟨σ', h', Z', A', rfl, a, b, c, d⟩
  | ex x s' => rw [e] at p; obtain ⟨y, σ', h', Z', A', e1, x, a, b, c, d⟩ := p; rw [e1]; exact ⟨y, σ', h', Z', A', rfl, x, a, b, c, d⟩
  | rt w s' => rw [e] at p; obtain ⟨u, σ', h', Z', A', F', e1, x, a, b, c, d⟩ := p; rw [e1]; exact ⟨u, σ', h', Z', A', F', rfl, x, a, b, c, d⟩
def vBrk : VS := fun s => .bk s
def vCnt : VS := fun s => .ct s
theorem ss_brk' : SVS K L sBrk vBrk := ⟨fun s σ h Z A rs o => ⟨σ, h, Z, A, rfl, rs, o, .refl, .refl⟩⟩
def vBad : VS := fun _ => .bad
theorem ss_bad' : SVS K L sBad vBad := ⟨fun s σ h Z A rs o => trivial⟩
theorem ss_cnt' : SVS K L sCnt vCnt := ⟨fun s σ h Z A rs o => ⟨σ, h, Z, A, rfl, rs, o, .refl, .refl⟩⟩
def vExpk (_ : W) (s : Vs) : VSR := .nx s
def vExp (g : VE) : VS := fun s => (g s).thn vExpk
theorem ss_exp' {x : VE} (a : SVE M fa x) (hl : ∀ i, i ∈ L → i ∉ M) : SVS K L (sExp fa) (vExp x) :=
  ⟨fun s σ h Z A rs o => PoS.ahead o (a.run s σ h Z A rs o) hl fun u w h1 Z1 A1 F1 s1 r rs1 o1 => PoS.forget o1 (.nx rs1 (ok_no o1))⟩
def vRet (g : VE) : VS := fun s => (g s).thn .rt
theorem ss_ret' {x : VE} (a : SVE M fa x) (hl : ∀ i, i ∈ L → i ∉ M) : SVS K L (sRet fa) (vRet x) :=
  ⟨fun s σ h Z A rs o => PoS.ahead o (a.run s σ h Z A rs o) hl fun u w h1 Z1 A1 F1 s1 r rs1 o1 => ⟨u, σ, h1, Z1, A1, F1, rfl, r, rs1, o1, .refl, .refl⟩⟩
def vRetN : VS := fun s => .rt (.im .non) s
theorem ss_retN' : SVS K L sRetN vRetN := ⟨fun s σ h Z A rs o => ⟨.non, σ, h, Z, A, No, rfl, .mk_im rp_non, rs, o, .refl, .refl⟩⟩
def vBr (f g : VS) (b : Bool) (s : Vs) : VSR := match b with | true => f s | false => g s
def vIf (c : VB) (f g : VS) : VS := fun s => (c s).thn (vBr f g)
theorem ss_if' {c : Eb} {x : VB} (a : SVB M c x) (hl : ∀ i, i ∈ L → i ∉ M) (b : SVS K L f vf) (b' : SVS K L g vg) : SVS K L (sIf c f g) (vIf x vf vg) :=
  ⟨fun s σ h Z A rs o => PoS.ahead o (a.run s σ h Z A rs o) hl fun u w h1 Z1 A1 F1 s1 r rs1 o1 => by
    obtain ⟨rfl, rfl⟩ := r
    cases u with
    | true => exact b.run s1 σ h1 Z1 A1 rs1 o1
    | false => exact b'.run s1 σ h1 Z1 A1 rs1 o1⟩
/-! names are set -/
def setA (A : Nat → St) (i : Nat) (F : St) : Nat → St := fun j a => if j = i then F a else A j a
theorem setA_same (A : Nat → St) (i : Nat) (F : St) : setA A i F i = F := by funext a; simp [setA]
theorem setA_ne (A : Nat → St) {i j : Nat} (F : St) (c : i ≠ j) : setA A i F j = A j := by funext a; simp [setA, Ne.symm c]
theorem RSt.put {w : W} {u : U} (rs : RSt h Z s σ A) (o : Ok h Z A (Un F B)) (d : Dis F B) (r : RW h Z w u F) (i : Nat) : RSt h Z (s.set i (some w)) (σ.set i (some u)) (setA A i F) ∧ Ok h Z (setA A i F) B := by
  refine ⟨⟨by simp [rs.1], fun j w' e => ?_⟩, ⟨fun j a x => ?_, fun a x => o.lf a (.inr x), o.lz, fun j k a x y => ?_, fun j a x y => ?_, fun j a x => ?_, fun a x => o.fz a (.inr x)⟩⟩
  · by_cases c : i = j
    · subst c
      have li : i < s.length := by have := (List.getElem?_eq_some_iff.mp e).1; simpa using this
      rw [List.getElem?_set_self li] at e
      cases e
      exact ⟨u, by rw [List.getElem?_set_self (by rw [← rs.1]; exact li)], by rw [setA_same]; exact r⟩
    · rw [List.getElem?_set_ne c] at e
      obtain ⟨u', e1, r1⟩ := rs.2 j w' e
      exact ⟨u', by rw [List.getElem?_set_ne c]; exact e1, by rw [setA_ne A F c]; exact r1⟩
  · simp only [setA] at x; split at x
    · exact o.lf a (.inl x)
    · exact o.la j a x
  · simp only [setA] at x y; split at x
    · rename_i c1; split at y
      · rename_i c2; rw [c1, c2]
      · exact absurd (.inl x) (o.af k a y)
    · split at y
      · exact absurd (.inl y) (o.af j a x)
      · exact o.aa j k a x y
  · simp only [setA] at x; split at x
    · exact d a x y
    · exact o.af j a x (.inr y)
  · simp only [setA] at x; split at x
    · exact o.fz a (.inl x)
    · exact o.az j a x
theorem setA_src {i j : Nat} {a : Nat} (x : setA A i F j a) : A j a ∨ F a := by
  simp only [setA] at x; split at x
  · exact .inr x
  · exact .inl x
/-- targets of names -/
abbrev VTn := W → Vs → Option Vs
structure STn (Ws : List Nat) (g : Tn) (t : VTn) : Prop where
  run : ∀ (w : W) (u : U) (F B : St) (s s' : Vs) (σ : Sg) (h : Hb) (Z : St) (A : Nat → St), RW h Z w u F → Dis F B → RSt h Z s σ A → Ok h Z A (Un F B) → t w s = some s' →
    ∃ σ' A', g u σ = some σ' ∧ RSt h Z s' σ' A' ∧ Ok h Z A' B ∧ (∀ i a, A' i a → A i a ∨ F a) ∧ s'.length = s.length ∧ ∀ i, i ∉ Ws → σ'[i]? = σ[i]? ∧ s'[i]? = s[i]? ∧ A' i = A i
abbrev VTns := List W → Vs → Option Vs
structure STns (Ws : List Nat) (g : List U → Sg → Option Sg) (t : VTns) : Prop where
  run : ∀ (w : List W) (u : List U) (F B : St) (s s' : Vs) (σ : Sg) (h : Hb) (Z : St) (A : Nat → St), RWs h Z w u F → Dis F B → RSt h Z s σ A → Ok h Z A (Un F B) → t w s = some s' →
    ∃ σ' A', g u σ = some σ' ∧ RSt h Z s' σ' A' ∧ Ok h Z A' B ∧ (∀ i a, A' i a → A i a ∨ F a) ∧ s'.length = s.length ∧ ∀ i, i ∉ Ws → σ'[i]? = σ[i]? ∧ s'[i]? = s[i]? ∧ A' i = A i
def tNm (i : Nat) : VTn := fun w s => some (s.set i (some w))
theorem st_nm (i : Nat) : STn [i] (nNm i) (tNm i) := by
  refine ⟨fun w u F B s s' σ h Z A r d rs o e => ?_⟩
  cases e
  obtain ⟨r1, o1⟩ := rs.put o d r i
  refine ⟨_, _, rfl, r1, o1, fun j a x => setA_src x, by simp, fun j nj => ?_⟩
  have c : i ≠ j := fun z => nj (by simp [z])
  exact ⟨List.getElem?_set_ne c, List.getElem?_set_ne c, by funext a; simp [setA, Ne.symm c]⟩
def tsNil : VTns := fun ws s => match ws with | [] => some s | _ => none
def tsCons (t : VTn) (ts : VTns) : VTns := fun ws s => match ws with | w :: r => (t w s).bind (ts r) | [] => none
theorem sts_nil' : STns [] nsNil tsNil := by
  refine ⟨fun w u F B s s' σ h Z A r d rs o e => ?_⟩
  unfold tsNil at e
  split at e
  · cases e
    rw [r.nil_inv]
    exact ⟨σ, A, rfl, rs, o.fsub fun _ => .inr, fun _ _ => .inl, rfl, fun _ _ => ⟨rfl, rfl, rfl⟩⟩
  · cases e
theorem sts_cons' {W1 W2 : List Nat} {g1 : Tn} {gs : List U → Sg → Option Sg} {t : VTn} {ts : VTns} (a : STn W1 g1 t) (b : STns W2 gs ts) : STns (W1 ++ W2) (nsCons g1 gs) (tsCons t ts) := by
  refine ⟨fun w u F B s s' σ h Z A r d rs o e => ?_⟩
  unfold tsCons at e
  split at e
  · rename_i w0 r0
    obtain ⟨s1, e1, e2⟩ := Option.bind_eq_some_iff.mp e
    obtain ⟨v, q, F1, F2, rfl, dd, x1, x2, ra, rb⟩ := r.cons_inv
    obtain ⟨σ1, A1, g1e, rs1, o1, src1, l1, k1⟩ := a.run w0 v F1 (Un F2 B) s s1 σ h Z A ra (fun c x y => y.elim (dd c x) (d c (x1 c x))) rs (o.fsub fun c x => x.elim (fun x => .inl (x1 c x)) fun x => x.elim (fun x => .inl (x2 c x)) .inr) e1
    obtain ⟨σ2, A2, g2e, rs2, o2, src2, l2, k2⟩ := b.run r0 q F2 B s1 s' σ1 h Z A1 rb (fun c x => d c (x2 c x)) rs1 o1 e2
    refine ⟨σ2, A2, by simp [nsCons, g1e, g2e], rs2, o2, fun i c x => ?_, l2.trans l1, fun i ni => ?_⟩
    · rcases src2 i c x with x | x
      · rcases src1 i c x with x | x
        · exact .inl x
        · exact .inr (x1 c x)
      · exact .inr (x2 c x)
    · obtain ⟨a1, a2, a3⟩ := k1 i fun z => ni (List.mem_append_left _ z)
      obtain ⟨b1, b2, b3⟩ := k2 i fun z => ni (List.mem_append_right _ z)
      exact ⟨b1.trans a1, b2.trans a2, b3.trans a3⟩
  · cases e
def tTp (n : Nat) (ts : VTns) : VTn := fun w s => match w with
  | .im (.tup ps) => if ps.length = n then ts (ps.map .im) s else none
  | .tw ws => if ws.length = n then ts ws s else none
  | _ => none
theorem st_tp {Ws : List Nat} {n : Nat} {gs : List U → Sg → Option Sg} {ts : VTns} (a : STns Ws gs ts) : STn Ws (nTp n gs) (tTp n ts) := by
  refine ⟨fun w u F B s s' σ h Z A r d rs o e => ?_⟩
  unfold tTp at e
  split at e
  · obtain ⟨us, rfl, q⟩ := r.im_inv.tup_inv
    split at e
    · rename_i hn
      rw [q.length] at hn
      have := a.run _ us F B s s' σ h Z A (q.ws0 F) d rs o e
      simpa [nTp, hn] using this
    · cases e
  · obtain ⟨us, rfl, q⟩ := r.tw_inv
    split at e
    · rename_i hn
      rw [q.length] at hn
      have := a.run _ us F B s s' σ h Z A q d rs o e
      simpa [nTp, hn] using this
    · cases e
  · cases e
def vAsgk (t : VTn) (w : W) (s : Vs) : VSR := match t w s with | some s' => .nx s' | none => .bad
def vAsg (x : VE) (t : VTn) : VS := fun s => (x s).thn (vAsgk t)
theorem PoS.tgt {Ws : List Nat} {tn : Tn} {t : VTn} {w : W} {u : U} (a : STn Ws tn t) (r : RW h Z w u F) (rs : RSt h Z s σ A) (o : Ok h Z A F) (hk : ∀ i, i ∈ K ∨ i ∈ L → i ∉ Ws) : PoS K L σ h Z A F s (gN tn u σ h) (vAsgk t w s) := by
  unfold vAsgk
  split
  · rename_i s' e
    obtain ⟨σ', A', e1, rs1, o1, src, l1, k1⟩ := a.run w u F No s s' σ h Z A r (dis_no F) rs (by rw [un_no]; exact o) e
    refine ⟨σ', h, Z, A', by simp [gN, e1], rs1, o1, ⟨Nat.le_refl _, fun _ _ _ _ => rfl, fun _ z => z, fun _ z => .inl z, fun i a x => ?_, fun _ x => x.elim, l1, fun i hi => ?_⟩, fun i hi => (k1 i (hk i hi)).1⟩
    · exact (src i a x).elim (fun x => .inl ⟨i, x⟩) fun x => .inr (.inl x)
    · obtain ⟨_, b, c⟩ := k1 i (hk i (.inr hi))
      exact .inr ⟨b, .refl _ _, by rw [c]; exact .refl _⟩
  · trivial
theorem ss_asg' {Ws : List Nat} {tn : Tn} {t : VTn} {x : VE} (a : SVE M fa x) (b : STn Ws tn t) (hl : ∀ i, i ∈ L → i ∉ M) (hk : ∀ i, i ∈ K ∨ i ∈ L → i ∉ Ws) : SVS K L (sAsg fa (gN tn)) (vAsg x t) :=
  ⟨fun s σ h Z A rs o => PoS.ahead o (a.run s σ h Z A rs o) hl fun u w h1 Z1 A1 F1 s1 r rs1 o1 => PoS.tgt b r rs1 o1 hk⟩
def vSet (i : Nat) (x : VE) : VS := vAsg x (tNm i)
theorem ss_set' {x : VE} {i : Nat} (a : SVE M fa x) (hl : ∀ j, j ∈ L → j ∉ M) (hk : ∀ j, j ∈ K ∨ j ∈ L → j ∉ [i]) : SVS K L (sSet i fa) (vSet i x) := by
  have e : sSet i fa = sAsg fa (gN (nNm i)) := by
    funext s h
    unfold sSet sAsg
    cases fa s h <;> rfl
  rw [e]
  exact ss_asg' a (st_nm i) hl hk
/-- two names at once -/
def vPark (i j : Nat) (ws : List W) (s : Vs) : VSR := match ws with | [x, y] => .nx ((s.set i (some x)).set j (some y)) | _ => .bad
def vPar (i j : Nat) (x : VA) : VS := fun s => (x s).thn (vPark i j)
theorem ss_par' {i j : Nat} {fs : Ea} {x : VA} (a : SVA M fs x) (hl : ∀ j, j ∈ L → j ∉ M) (hk : ∀ k, k ∈ K ∨ k ∈ L → k ∉ [i, j]) : SVS K L (sPar i j fs) (vPar i j x) := by
  refine ⟨fun s σ h Z A rs o => PoS.ahead o (a.run s σ h Z A rs o) hl fun us ws h1 Z1 A1 F1 s1 r rs1 o1 => ?_⟩
  have r : RWs h1 Z1 ws us F1 := r
  unfold vPark
  split
  · rename_i x y
    obtain ⟨u, q, G1, G2, rfl, d, x1, x2, ra, rb⟩ := r.cons_inv
    obtain ⟨v, q2, G3, G4, rfl, d2, x3, x4, rc, rd⟩ := rb.cons_inv
    rw [rd.nil_inv]
    obtain ⟨rs2, o2⟩ := rs1.put (F := G1) (B := G3) (o1.fsub fun c x => x.elim (x1 c) fun x => x2 c (x3 c x)) (fun c x y => d c x (x3 c y)) ra i
    obtain ⟨rs3, o3⟩ := rs2.put (F := G3) (B := No) (by rw [un_no]; exact o2) (dis_no _) rc j
    refine ⟨_, h1, Z1, _, rfl, rs3, o3, ⟨Nat.le_refl _, fun _ _ _ _ => rfl, fun _ z => z, fun _ z => .inl z, fun k a x => ?_, fun _ x => x.elim, by simp, fun k hk' => ?_⟩, fun k hk' => ?_⟩
    · rcases setA_src x with x | x
      · rcases setA_src x with x | x
        · exact .inl ⟨k, x⟩
        · exact .inr (.inl (x1 a x))
      · exact .inr (.inl (x2 a (x3 a x)))
    · have c := hk k (.inr hk')
      have ci : i ≠ k := fun z => c (by simp [z])
      have cj : j ≠ k := fun z => c (by simp [z])
      refine .inr ⟨by rw [List.getElem?_set_ne cj, List.getElem?_set_ne ci], .refl _ _, fun a x => by rw [setA_ne _ _ cj, setA_ne _ _ ci]; exact x⟩
    · have c := hk k hk'
      have ci : i ≠ k := fun z => c (by simp [z])
      have cj : j ≠ k := fun z => c (by simp [z])
      rw [List.getElem?_set_ne cj, List.getElem?_set_ne ci]
  · trivial
/-- x op= y -/
theorem aug_eq (i : Nat) (g : G2) (f : Ev) : sAug i g f = sSet i (e2 g (eVar i) f) := by
  funext s h
  unfold sAug sSet sAug0 e2 eVar
  cases s[i]? with
  | none => rfl
  | some o =>
    cases o with
    | none => rfl
    | some x =>
      simp only [bind_ok]
      unfold e2k
      cases f s h with
      | bad => rfl
      | ex y h' => rfl
      | ok y h' => rfl
def vAug (i : Nat) (q : W → W → Option W) (y : VH) : VS := vSet i (qOp2 q (hVar i) y)
theorem ss_aug' {i : Nat} {g : G2} {q : W → W → Option W} {y : VH} (og : OpV2 g q) (b : SVH M I J fb y) (hl : ∀ j, j ∈ L → j ∉ M) (hk : ∀ j, j ∈ K ∨ j ∈ L → j ∉ [i]) : SVS K L (sAug i g fb) (vAug i q y) := by
  rw [aug_eq]
  exact ss_set' (sv_op2 og (sv_hvar i) b (fun _ x => by cases x)) (by simpa using hl) hk
/-- xs[i] = v -/
def vPutf (w : W) (d di : Hd) (s : Vs) : VSR := match rd s di with
  | some (.im (.int i)) => match rd s d with
    | some (.lst ws) => match ixN ws.length i with
      | some k => match d with
        | .at j p => match s[j]? with
          | some (some w0) => .nx (s.set j (some (setP w0 p (.lst (ws.set k w)))))
          | _ => .bad
        | _ => .bad
      | none => .bad
    | _ => .bad
  | _ => .bad
def vPut2 (gi : VH) (w : W) (d : Hd) (s : Vs) : VSR := (gi s).thn (vPutf w d)
def vPut1 (go gi : VH) (w : W) (s : Vs) : VSR := (go s).thn (vPut2 gi w)
def vPut (x : VE) (go gi : VH) : VS := fun s => (x s).thn (vPut1 go gi)
/-- an expression ahead, while B is held -/
theorem PoS.beside {r1 : Rl α β} {R : Res α} {V : VR β} {kR : α → Hb → SR} {kV : β → Vs → VSR} (o : Ok h Z A B) (p : Po M σ r1 h Z A No s R V) (hl : ∀ i, i ∈ L → i ∉ M)
    (k : ∀ u w h1 Z1 A1 F1 s1, r1 h1 Z1 s1 w u F1 → RSt h1 Z1 s1 σ A1 → Ok h1 Z1 A1 (Un F1 B) → Dis F1 B → Keep h h1 B → Keep h h1 Z → Sub Z Z1 → Stp M h Z A No s h1 Z1 A1 F1 s1 → PoS K L σ h1 Z1 A1 (Un F1 B) s1 (kR u h1) (kV w s1)) : PoS K L σ h Z A B s (R.thn σ kR) (V.thn kV) := by
  cases V with
  | bad => trivial
  | ex x s' =>
    obtain ⟨y, h1, Z1, A1, rfl, e, rs, o1, t⟩ := p
    exact ⟨y, σ, h1, Z1, A1, rfl, e, rs, o1, ((no_un B ▸ t.hold B).fsub (F2 := No) fun _ x => x.elim).sts hl, .refl⟩
  | ok w s1 =>
    obtain ⟨u, h1, Z1, A1, F1, rfl, r, rs, o1, t⟩ := p
    obtain ⟨o2, d2, kb⟩ := Ok.hold (by rw [no_un]; exact o) (fun _ x => x.elim) o1 t
    exact PoS.pre ((no_un B ▸ t.hold B).sts hl) .refl (k u w h1 Z1 A1 F1 s1 r rs o2 d2 kb ((ok_no o).keepZ t) t.zin t)
theorem ss_put' {x : VE} {go gi : VH} {M0 : List Nat} (a : SVE M0 fa x) (b : SVH M1 I1 J1 fb go) (c : SVH M2 I2 J2 fc gi) (hi : ∀ i, i ∈ I1 → i ∉ M2) (h0 : ∀ i, i ∈ L → i ∉ M0) (h1 : ∀ i, i ∈ L → i ∉ M1) (h2 : ∀ i, i ∈ L → i ∉ M2) (hj : ∀ i, i ∈ L → i ∉ J1) :
    SVS K L (sAsg fa (gIx pIx fb fc)) (vPut x go gi) := by
  refine ⟨fun s σ h Z A rs o => PoS.ahead o (a.run s σ h Z A rs o) h0 fun u w h1' Z1 A1 F1 s1 r rs1 o1 => ?_⟩
  have r : RW h1' Z1 w u F1 := r
  refine PoS.beside o1 (b.run s1 σ h1' Z1 A1 rs1 (ok_no o1)) h1 fun uo d h2' Z2 A2 F2 s2 ro rs2 o2 d2 kb kz zz t2 => ?_
  have r' := RW.frame kz zz w kb (.refl _) r
  have ro : RH σ I1 J1 h2' Z2 s2 d uo F2 := ro
  refine PoS.beside o2 (c.run s2 σ h2' Z2 A2 rs2 (ok_no o2)) h2 fun ui di h3 Z3 A3 F3 s3 ri rs3 o3 d3 kb3 kz3 zz3 t3 => ?_
  have r'' := RW.frame kz3 zz3 w (kb3.sub fun _ => .inr) (.refl _) r'
  have ro' := ro.later rs2 t3 hi (kb3.sub fun _ => .inl) kz3 zz3
  have ri : RH σ I2 J2 h3 Z3 s3 di ui F3 := ri
  unfold vPutf
  split
  · rename_i i ei
    have := (ri.rd rs3 ei).int
    subst this
    split
    · rename_i ws ew
      split
      · rename_i k ek
        split
        · rename_i j p ed
          try subst ed
          split
          · rename_i w0 e0
            have ew' := ew
            obtain ⟨⟨u0, eu0, _, q1⟩, _, hJ⟩ := ro'
            have rc := q1 _ ew
            simp only [rd, e0] at ew
            obtain ⟨u0', eu0', rw0⟩ := rs3.2 j w0 e0
            rw [eu0] at eu0'; cases eu0'
            obtain ⟨u', G1, Gr, rc', dfr, x1, x2, rw1, wand⟩ := setP_wand rw0 ew
            have := Reach.fn rc rc'
            subst this
            obtain ⟨l, us, X, rfl, e1, fa', nx, sx, q⟩ := rw1.lst_inv
            have ekl : ixN us.length i = some k := by rw [← q.length]; exact ek
            have wk : ∃ y, ws[k]? = some y := ⟨_, List.getElem?_eq_getElem (ixN_len ek)⟩
            obtain ⟨y, wk⟩ := wk
            obtain ⟨v, X1, Xr, g1, dx, y1, y2, _, wnd⟩ := q.wand wk
            have fw : ∀ a, F1 a → ¬ A3 j a := fun a z y => o3.af j a y (.inr (.inr z))
            have q' := wnd h3 Z3 F1 w u (.refl _ _) (.refl _) (.refl _ _) (fun a z y => fw a z (x1 a (sx a (y2 a y)))) r''
            have nl : ¬ Un F1 Xr l := fun z => z.elim (fun z => fw l z (x1 l fa')) fun z => nx (y2 l z)
            have nlz : ¬ Z3 l := o3.az j l (x1 l fa')
            have rl := RW.lput e1 nlz nl q'
            have kz3' : Keep h3 (h3.set l (.lst (us.set k u))) Z3 := put_keep nlz
            have ll : l < h3.length := (List.getElem?_eq_some_iff.mp e1).1
            have nG : ∀ a, (a = l ∨ Un F1 Xr a) → A3 j a ∨ F1 a := fun a z => by
              rcases z with rfl | z | z
              · exact .inl (x1 _ fa')
              · exact .inr z
              · exact .inl (x1 a (sx a (y2 a z)))
            have nw := wand (h3.set l (.lst (us.set k u))) Z3 _ _ kz3' (.refl _) (put_keep fun z => dfr l fa' z) (fun a z y => by
              rcases z with rfl | z | z
              · exact dfr _ fa' y
              · exact fw a z (x2 a y)
              · exact dfr a (sx a (y2 a z)) y) rl
            have lj : j < s3.length := (List.getElem?_eq_some_iff.mp e0).1
            have asrc : ∀ a, Un (fun a => a = l ∨ Un F1 Xr a) Gr a → A3 j a ∨ F1 a := fun a z => z.elim (nG a) fun z => .inl (x2 a z)
            have hne : ∀ a, a ≠ l → (h3.set l (.lst (us.set k u)))[a]? = h3[a]? := fun a z => List.getElem?_set_ne (Ne.symm z)
            have A3l : ∀ k' , A3 k' l → k' = j := fun k' z => o3.aa k' j l z (x1 l fa')
            refine ⟨σ, h3.set l (.lst (us.set k u)), Z3, setA A3 j (Un (fun a => a = l ∨ Un F1 Xr a) Gr), ?_, ⟨by simp [rs3.1], fun i' w' e' => ?_⟩, ⟨fun i' a z => ?_, fun _ z => z.elim, fun a z => by simp; exact o3.lz a z, fun i1 i2 a z1 z2 => ?_, fun _ _ _ z => z, fun i' a z zz => ?_, fun _ z => z.elim⟩,
              ⟨by simp, fun a la na nf => hne a fun z => na j (by rw [z]; exact x1 l fa'), fun _ z => z, fun _ z => .inl z, fun i' a z => ?_, fun _ z => z.elim, by simp, fun i' hi' => ?_⟩, .refl⟩
            · simp only [gI2, pIx, e1, ekl]
            · by_cases c : j = i'
              · subst c
                rw [List.getElem?_set_self lj] at e'
                cases e'
                exact ⟨u0, eu0, by rw [setA_same]; exact nw⟩
              · rw [List.getElem?_set_ne c] at e'
                obtain ⟨v', e4, r4⟩ := rs3.2 i' w' e'
                refine ⟨v', e4, ?_⟩
                have := RW.frame kz3' (.refl Z3) w' (F := A3 i') (put_keep fun z => c (A3l i' z).symm) (.refl _) r4
                rw [setA_ne _ _ c]; exact this
            · rw [List.length_set]
              rcases setA_src z with z | z
              · exact o3.la i' a z
              · rcases asrc a z with z | z
                · exact o3.la j a z
                · exact o3.lf a (.inr (.inr z))
            · simp only [setA] at z1 z2
              split at z1
              · rename_i c1; split at z2
                · rename_i c2; rw [c1, c2]
                · rcases asrc a z1 with z1 | z1
                  · rw [c1]; exact o3.aa j i2 a z1 z2
                  · exact absurd (.inr (.inr z1)) (o3.af i2 a z2)
              · split at z2
                · rename_i c2
                  rcases asrc a z2 with z2 | z2
                  · rw [c2]; exact o3.aa i1 j a z1 z2
                  · exact absurd (.inr (.inr z2)) (o3.af i1 a z1)
                · exact o3.aa i1 i2 a z1 z2
            · rcases setA_src z with z | z
              · exact o3.az i' a z zz
              · rcases asrc a z with z | z
                · exact o3.az j a z zz
                · exact o3.fz a (.inr (.inr z)) zz
            · rcases setA_src z with z | z
              · exact .inl ⟨i', z⟩
              · rcases asrc a z with z | z
                · exact .inl ⟨j, z⟩
                · exact .inr (.inl (.inr (.inr z)))
            · have c : j ≠ i' := fun z => hj i' hi' (z ▸ hJ)
              refine .inr ⟨List.getElem?_set_ne c, put_keep fun z => c (A3l i' z).symm, fun a z => by rw [setA_ne _ _ c]; exact z⟩
          · trivial
        · trivial
      · trivial
    · trivial
  · trivial
end
end Lz
namespace Lz
open PySem PySem.Spec PyProof.Rows L2

/-! # raise, try -/
section
variable {h h1 : Hb} {Z Z1 F F1 B : St} {A A1 : Nat → St} {s s1 : Vs} {M K L : List Nat} {σ : Sg} {fs : Ea} {gs : VA}
/-- an exception's attributes: names, values, the last stored first -/
def xNs (as : List (Str × Nat)) : List Str := (as.map (·.1)).reverse
def xPs (as : List (Str × Nat)) (ps : List P) : List P := (as.map fun p => ps.getD p.2 .non).reverse
theorem rps_getD {ps : List P} {us : List U} (r : RPs h Z ps us) (k : Nat) : RP h Z (ps.getD k .non) (us.getD k .non) := by
  rw [List.getD_eq_getElem?_getD, List.getD_eq_getElem?_getD]
  cases e : ps[k]? with
  | some p => obtain ⟨u, e1, e2⟩ := r.get e; rw [e1]; exact e2
  | none =>
    have : us[k]? = none := by
      rw [List.getElem?_eq_none_iff] at e ⊢
      rw [← r.length]; exact e
    rw [this]; exact rp_non
theorem rex_of {ps : List P} {us : List U} (r : RPs h Z ps us) (c : Nat) (as : List (Str × Nat)) : REx h Z ⟨c, xNs as, xPs as ps⟩ ⟨c, ExS.asV .non as us⟩ := by
  refine ⟨rfl, by simp [ExS.asV, xNs, List.map_reverse], ?_⟩
  show RPs h Z (xPs as ps) ((ExS.asV .non as us).map (·.2))
  have e : (ExS.asV .non as us).map (·.2) = (as.map fun p => us.getD p.2 .non).reverse := by simp [ExS.asV, List.map_reverse]
  rw [e]
  refine RPs.reverse ?_
  induction as with
  | nil => exact .nil
  | cons p as ih => exact .cons (rps_getD r p.2) (ih (by simp [ExS.asV, List.map_reverse]))
def vRzk (c n : Nat) (as : List (Str × Nat)) (ws : List W) (s : Vs) : VSR := match imL ws with
  | some ps => if ps.length = n ∧ n ≤ 1000 then .ex ⟨c, xNs as, xPs as ps⟩ s else .bad
  | none => .bad
def vRaiseX (c n : Nat) (as : List (Str × Nat)) (x : VA) : VS := fun s => (x s).thn (vRzk c n as)
theorem ss_raiseX' {c n : Nat} {as : List (Str × Nat)} (a : SVA M fs gs) (hl : ∀ i, i ∈ L → i ∉ M) : SVS K L (sRaiseX c n as fs) (vRaiseX c n as gs) := by
  refine ⟨fun s σ h Z A rs o => PoS.ahead o (a.run s σ h Z A rs o) hl fun us ws h1 Z1 A1 F1 s1 r rs1 o1 => ?_⟩
  have r : RWs h1 Z1 ws us F1 := r
  unfold vRzk
  split
  · rename_i ps e
    split
    · rename_i hc
      have rp := r.im e
      refine ⟨⟨c, ExS.asV .non as us⟩, σ, h1, Z1, A1, ?_, rex_of rp c as, rs1, ok_no o1, (Sts.refl (L := L)).fsub (F2 := No) (fun _ x => x.elim), .refl⟩
      unfold sRzX
      rw [← rp.length, if_pos hc]
    · trivial
  · trivial
def vRz0k (c : Nat) (ws : List W) (s : Vs) : VSR := if ws.length ≤ 10000000 then .ex ⟨c, [], []⟩ s else .bad
def vRaise0 (c : Nat) (x : VA) : VS := fun s => (x s).thn (vRz0k c)
theorem ss_raise0' {c : Nat} (a : SVA M fs gs) (hl : ∀ i, i ∈ L → i ∉ M) : SVS K L (sRaise0 c fs) (vRaise0 c gs) := by
  refine ⟨fun s σ h Z A rs o => PoS.ahead o (a.run s σ h Z A rs o) hl fun us ws h1 Z1 A1 F1 s1 r rs1 o1 => ?_⟩
  have r : RWs h1 Z1 ws us F1 := r
  unfold vRz0k
  split
  · rename_i hc
    refine ⟨⟨c, []⟩, σ, h1, Z1, A1, ?_, ⟨rfl, rfl, .nil⟩, rs1, ok_no o1, (Sts.refl (L := L)).fsub (F2 := No) (fun _ x => x.elim), .refl⟩
    unfold sRz0
    rw [r.length] at hc
    rw [if_pos (small_line hc)]
  · trivial
/-! suites -/
abbrev XP := VEx → Option P
structure SVX (f : Xe) (g : XP) : Prop where
  run : ∀ (h : Hb) (Z : St) (x : VEx) (y : Ex) (σ : Sg) (p : P), REx h Z x y → g x = some p → ∃ u, f y σ h = .ok u h ∧ RP h Z p u
structure SVXs (f : Xa) (g : VEx → Option (List P)) : Prop where
  run : ∀ (h : Hb) (Z : St) (x : VEx) (y : Ex) (σ : Sg) (p : List P), REx h Z x y → g x = some p → ∃ u, f y σ h = .ok u h ∧ RPs h Z p u
def pCon (p : P) : XP := fun _ => some p
theorem xx_con {u : U} (p : P) (e : p.toU = u) (hp : p.pure = true) : SVX (xCon u) (pCon p) := ⟨fun h Z x y σ q r e1 => by cases e1; exact ⟨u, rfl, e ▸ rp_pure p hp⟩⟩
def pNil : VEx → Option (List P) := fun _ => some []
def pCons (f : XP) (g : VEx → Option (List P)) : VEx → Option (List P) := fun x => match f x, g x with
  | some p, some ps => some (p :: ps)
  | _, _ => none
theorem xxs_nil : SVXs xNil pNil := ⟨fun h Z x y σ q r e => by cases e; exact ⟨[], rfl, .nil⟩⟩
theorem xxs_cons {f : Xe} {g : XP} {fs : Xa} {gs : VEx → Option (List P)} (a : SVX f g) (b : SVXs fs gs) : SVXs (xCons f fs) (pCons g gs) := ⟨fun h Z x y σ q r e => by
  unfold pCons at e
  split at e
  · rename_i p ps e1 e2
    cases e
    obtain ⟨u, h1, h2⟩ := a.run h Z x y σ p r e1
    obtain ⟨us, h3, h4⟩ := b.run h Z x y σ ps r e2
    exact ⟨u :: us, by simp [xCons, aCons, h1, aC1, h3, aC2], .cons h2 h4⟩
  · cases e⟩
def pTup (g : VEx → Option (List P)) : XP := fun x => match g x with
  | some ps => if ps.length ≤ 10000000 then some (.tup ps) else none
  | none => none
theorem xx_tup {fs : Xa} {gs : VEx → Option (List P)} (a : SVXs fs gs) : SVX (xTup fs) (pTup gs) := ⟨fun h Z x y σ q r e => by
  unfold pTup at e
  split at e
  · rename_i ps e1
    split at e
    · rename_i hl
      cases e
      obtain ⟨us, h3, h4⟩ := a.run h Z x y σ ps r e1
      refine ⟨.tup us, ?_, rp_tup h4⟩
      rw [h4.length] at hl
      simp [xTup, eTup, h3, eTupk, small_line hl]
    · cases e
  · cases e⟩
def lkP (f : Str) : List Str → List P → Option P
  | n :: ns, p :: ps => if f = n then some p else lkP f ns ps
  | _, _ => none
theorem lkP_rel {f : Str} {p : P} : ∀ {ns : List Str} {ps : List P} {us : List (Str × U)}, us.map (·.1) = ns → RPs h Z ps (us.map (·.2)) → lkP f ns ps = some p → ∃ u, us.lookup f = some u ∧ RP h Z p u
  | [], ps, us, e1, r, e => by unfold lkP at e; cases e
  | n :: ns, ps, [], e1, r, e => by cases e1
  | n :: ns, [], v :: us, e1, r, e => by unfold lkP at e; cases e
  | n :: ns, q :: ps, v :: us, e1, r, e => by
    simp only [List.map_cons, List.cons.injEq] at e1
    obtain ⟨e1, e2⟩ := e1
    obtain ⟨u, r', e3, ra, rb⟩ := r.cons_inv
    simp only [List.map_cons, List.cons.injEq] at e3
    obtain ⟨e3, e4⟩ := e3
    unfold lkP at e
    split at e
    · rename_i c
      cases e
      exact ⟨v.2, by rw [List.lookup_cons]; simp [c, e1], by rw [e3]; exact ra⟩
    · rename_i c
      obtain ⟨u2, h1, h2⟩ := lkP_rel (us := us) e2 (by rw [e4]; exact rb) e
      refine ⟨u2, ?_, h2⟩
      rw [List.lookup_cons]
      have : (f == v.1) = false := by rw [e1]; simpa using c
      rw [this]; exact h1
def pAt (n : Nat) (ats : List Str) (f : Str) : XP := fun x => if x.c < n ∧ f ∈ ats then lkP f x.ns x.ps else none
theorem xx_at {n : Nat} {ats : List Str} {f : Str} : SVX (xAt n ats f) (pAt n ats f) := ⟨fun h Z x y σ q r e => by
  unfold pAt at e
  split at e
  · rename_i hc
    obtain ⟨r1, r2, r3⟩ := r
    obtain ⟨u, h1, h2⟩ := lkP_rel r2 r3 e
    refine ⟨u, ?_, h2⟩
    unfold xAt xAtk
    rw [r1, if_pos hc, h1]
  · cases e⟩
structure SVU (K L : List Nat) (f : Xs) (g : VEx → VS) : Prop where
  run : ∀ (x : VEx) (y : Ex) (s : Vs) (σ : Sg) (h : Hb) (Z : St) (A : Nat → St), RSt h Z s σ A → Ok h Z A No → REx h Z x y → PoS K L σ h Z A No s (f y σ h) (g x s)
def vuRet (g : XP) : VEx → VS := fun x s => match g x with | some p => .rt (.im p) s | none => .bad
theorem xu_ret {f : Xe} {g : XP} (a : SVX f g) : SVU K L (xsRet f) (vuRet g) := ⟨fun x y s σ h Z A rs o r => by
  unfold vuRet
  split
  · rename_i p e
    obtain ⟨u, h1, h2⟩ := a.run h Z x y σ p r e
    refine ⟨u, σ, h, Z, A, No, ?_, .mk_im h2, rs, o, .refl, .refl⟩
    simp [xsRet, sRet, h1]
  · trivial⟩
def vuSt (v : VS) : VEx → VS := fun _ => v
theorem xu_st {f : Sv} {v : VS} (a : SVS K L f v) : SVU K L (xsSt f) (vuSt v) := ⟨fun x y s σ h Z A rs o r => a.run s σ h Z A rs o⟩
/-! the clauses -/
def goneV (i : Option Nat) (s : Vs) : Vs := match i with
  | none => s
  | some i => s.set i none
def VSR.gone (i : Option Nat) : VSR → VSR
  | .nx s => .nx (goneV i s)
  | .bk s => .bk (goneV i s)
  | .ct s => .ct (goneV i s)
  | .rt w s => .rt w s
  | .ex _ _ => .bad
  | .bad => .bad
def suiteV (i : Option Nat) (g : VEx → VS) (x : VEx) (s : Vs) : VSR := if inS i s.length = true then (g x (goneV i s)).gone i else .bad
def catchV (sub : Nat → Nat → Bool) (n : Nat) : List (Nat × Option Nat × (VEx → VS)) → VEx → VS
  | [], x, s => .ex x s
  | (c, i, g) :: r, x, s => if x.c < n ∧ c < n then (if sub x.c c = true then suiteV i g x s else catchV sub n r x s) else .bad
def trykV (sub : Nat → Nat → Bool) (n : Nat) (l : List (Nat × Option Nat × (VEx → VS))) (r : VSR) : VSR := match r with
  | .ex x s => catchV sub n l x s
  | r => r
def vTry (sub : Nat → Nat → Bool) (n : Nat) (b : VS) (l : List (Nat × Option Nat × (VEx → VS))) : VS := fun s => trykV sub n l (b s)
/-- a slot's name is gone -/
theorem gone_ok' {i : Option Nat} (hi : ∀ j, i = some j → ∀ k, k ∈ K ∨ k ∈ L → k ≠ j) (rs : RSt h Z s σ A) (o : Ok h Z A F) :
    ∃ A', RSt h Z (goneV i s) (goneS i σ) A' ∧ Ok h Z A' F ∧ Sts L h Z A F s h Z A' F (goneV i s) ∧ KK K L σ (goneS i σ) := by
  cases i with
  | none => exact ⟨A, rs, o, .refl, .refl⟩
  | some i =>
    refine ⟨fun j a => j ≠ i ∧ A j a, ?_, ⟨fun j a x => o.la j a x.2, o.lf, o.lz, fun j k a x y => o.aa j k a x.2 y.2, fun j a x => o.af j a x.2, fun j a x => o.az j a x.2, o.fz⟩,
      ⟨Nat.le_refl _, fun _ _ _ _ => rfl, fun _ z => z, fun _ z => .inl z, fun j a x => .inl ⟨j, x.2⟩, fun _ x => .inr (.inl x), by simp [goneV], fun k hk => ?_⟩, fun k hk => ?_⟩
    · have d := rs.drop i
      refine ⟨by simp [goneV, goneS, rs.1], fun j w e => ?_⟩
      obtain ⟨u, e1, r1⟩ := d.2 j w e
      have ne : i ≠ j := fun z => by
        subst z
        have e : (s.set i none)[i]? = some (some w) := e
        rw [List.getElem?_set] at e
        simp at e
      exact ⟨u, by show (σ.set i none)[j]? = _; rw [List.getElem?_set_ne ne]; exact e1, r1⟩
    · have ne : i ≠ k := fun z => hi i rfl k (.inr hk) z.symm
      exact .inr ⟨by show (s.set i none)[k]? = _; rw [List.getElem?_set_ne ne], .refl _ _, fun a x => ⟨Ne.symm ne, x⟩⟩
    · have ne : i ≠ k := fun z => hi i rfl k hk z.symm
      show (σ.set i none)[k]? = _
      rw [List.getElem?_set_ne ne]
theorem PoS.gone {i : Option Nat} {R : SR} {V : VSR} (hi : ∀ j, i = some j → ∀ k, k ∈ K ∨ k ∈ L → k ≠ j) (p : PoS K L σ h Z A No s R V) : PoS K L σ h Z A No s (R.gone i) (V.gone i) := by
  cases V with
  | bad => trivial
  | ex x s' => trivial
  | nx s' =>
    obtain ⟨σ', h', Z', A', rfl, a, b, c, d⟩ := p
    obtain ⟨A2, r1, r2, r3, r4⟩ := gone_ok' hi a b
    exact ⟨_, h', Z', A2, rfl, r1, r2, c.trans r3, d.trans r4⟩
  | bk s' =>
    obtain ⟨σ', h', Z', A', rfl, a, b, c, d⟩ := p
    obtain ⟨A2, r1, r2, r3, r4⟩ := gone_ok' hi a b
    exact ⟨_, h', Z', A2, rfl, r1, r2, c.trans r3, d.trans r4⟩
  | ct s' =>
    obtain ⟨σ', h', Z', A', rfl, a, b, c, d⟩ := p
    obtain ⟨A2, r1, r2, r3, r4⟩ := gone_ok' hi a b
    exact ⟨_, h', Z', A2, rfl, r1, r2, c.trans r3, d.trans r4⟩
  | rt w s' =>
    obtain ⟨u, σ', h', Z', A', F', rfl, x, a, b, c, d⟩ := p
    exact ⟨u, σ', h', Z', A', F', rfl, x, a, b, c, d⟩
inductive SVHs (K L : List Nat) : List (Nat × Option Nat × Xs) → List (Nat × Option Nat × (VEx → VS)) → Prop
  | nil : SVHs K L [] []
  | cons {c : Nat} {i : Option Nat} {f : Xs} {g : VEx → VS} {l : List (Nat × Option Nat × Xs)} {l' : List (Nat × Option Nat × (VEx → VS))} (hi : ∀ j, i = some j → ∀ k, k ∈ K ∨ k ∈ L → k ≠ j) (a : SVU K L f g) (r : SVHs K L l l') : SVHs K L ((c, i, f) :: l) ((c, i, g) :: l')
theorem catch_ok {sub : Nat → Nat → Bool} {n : Nat} {l : List (Nat × Option Nat × Xs)} {l' : List (Nat × Option Nat × (VEx → VS))} (hh : SVHs K L l l') : SVU K L (catchS sub n l) (catchV sub n l') := by
  induction hh with
  | nil => exact ⟨fun x y s σ h Z A rs o r => ⟨y, σ, h, Z, A, rfl, r, rs, o, .refl, .refl⟩⟩
  | @cons c i f g l l' hi a _ ih =>
    refine ⟨fun x y s σ h Z A rs o r => ?_⟩
    unfold catchV catchS
    rw [r.1]
    by_cases hc : x.c < n ∧ c < n
    · rw [if_pos hc, if_pos hc]
      by_cases hs : sub x.c c = true
      · rw [if_pos hs, if_pos hs]
        unfold suiteV suiteS
        rw [← rs.1]
        by_cases hin : inS i s.length = true
        · rw [if_pos hin, if_pos hin]
          obtain ⟨A2, r1, r2, r3, r4⟩ := gone_ok' hi rs o
          exact PoS.gone hi (PoS.pre r3 r4 (a.run x y _ _ h Z A2 r1 r2 r))
        · rw [if_neg hin, if_neg hin]; trivial
      · rw [if_neg hs, if_neg hs]
        exact ih.run x y s σ h Z A rs o r
    · rw [if_neg hc, if_neg hc]; trivial
theorem ss_try' {sub : Nat → Nat → Bool} {n : Nat} {fb : Sv} {vb : VS} {l : List (Nat × Option Nat × Xs)} {l' : List (Nat × Option Nat × (VEx → VS))} (b : SVS K L fb vb) (hh : SVHs K L l l') : SVS K L (sTry sub n fb l) (vTry sub n vb l') := by
  refine ⟨fun s σ h Z A rs o => ?_⟩
  have p := b.run s σ h Z A rs o
  unfold sTry vTry
  cases e : vb s with
  | bad => trivial
  | nx s' => rw [e] at p; obtain ⟨σ', h', Z', A', e1, a, b', c, d⟩ := p; rw [e1]; exact ⟨σ', h', Z', A', rfl, a, b', c, d⟩
  | bk s' => rw [e] at p; obtain ⟨σ', h', Z', A', e1, a, b', c, d⟩ := p; rw [e1]; exact ⟨σ', h', Z', A', rfl, a, b', c, d⟩
  | ct s' => rw [e] at p; obtain ⟨σ', h', Z', A', e1, a, b', c, d⟩ := p; rw [e1]; exact ⟨σ', h', Z', A', rfl, a, b', c, d⟩
  | rt w s' => rw [e] at p; obtain ⟨u, σ', h', Z', A', F', e1, x, a, b', c, d⟩ := p; rw [e1]; exact ⟨u, σ', h', Z', A', F', rfl, x, a, b', c, d⟩
  | ex x s' =>
    rw [e] at p
    obtain ⟨y, σ', h', Z', A', e1, rx, a, b', c, d⟩ := p
    rw [e1]
    exact PoS.pre c d ((catch_ok hh).run x y s' σ' h' Z' A' a b' rx)
end
end Lz
namespace Lz
open PySem PySem.Spec PyProof.Rows L2
/-! # what is walked -/
abbrev VI := Vs → VR (List W)
def SrcOk (h : Hb) (Z : St) (A : Nat → St) (J : List Nat) (ws : List W) (src : Src) (F : St) : Prop :=
  ∃ G B0, RWs h Z ws src.xs G ∧ Dis G B0 ∧ Sub G F ∧ Sub B0 F ∧ ∀ h', Keep h h' B0 → Keep h h' Z → (∀ i, i ∈ J → Keep h h' (A i)) → src.ok h'
def PoI (M J : List Nat) (σ : Sg) (h : Hb) (Z : St) (A : Nat → St) (F : St) (s : Vs) (R : Res Src) (V : VR (List W)) : Prop := match V with
  | .bad => True
  | .ok ws s' => ∃ src h' Z' A' F', R = .ok src h' ∧ SrcOk h' Z' A' J ws src F' ∧ RSt h' Z' s' σ A' ∧ Ok h' Z' A' F' ∧ Stp M h Z A F s h' Z' A' F' s'
  | .ex x s' => ∃ y h' Z' A', R = .ex y h' ∧ REx h' Z' x y ∧ RSt h' Z' s' σ A' ∧ Ok h' Z' A' No ∧ Stp M h Z A F s h' Z' A' No s'
structure SVI (M J : List Nat) (f : Si) (g : VI) : Prop where
  run : ∀ (s : Vs) (σ : Sg) (h : Hb) (Z : St) (A : Nat → St), RSt h Z s σ A → Ok h Z A No → PoI M J σ h Z A No s (f σ h) (g s)
section
variable {h h1 h2 : Hb} {Z Z1 Z2 F F1 F2 B : St} {A A1 A2 : Nat → St} {s s1 s2 : Vs} {K L M M1 M2 M3 I J I1 I2 J1 J2 : List Nat} {σ σ1 σ2 : Sg} {fa fb fc : Ev} {α β γ δ : Type}
theorem PoI.bind0 {r1 : Rl α β} {R : Res α} {V : VR β} {kR : α → Hb → Res Src} {kV : β → Vs → VR (List W)} (o : Ok h Z A No) (p : Po M σ r1 h Z A No s R V)
    (k : ∀ u w h1 Z1 A1 F1 s1, r1 h1 Z1 s1 w u F1 → RSt h1 Z1 s1 σ A1 → Ok h1 Z1 A1 F1 → PoI [] J σ h1 Z1 A1 F1 s1 (kR u h1) (kV w s1)) : PoI M J σ h Z A No s (R.bind kR) (V.bind kV) := by
  cases V with
  | bad => trivial
  | ex x s' => obtain ⟨y, h1, Z1, A1, rfl, e, rs, o1, t⟩ := p; exact ⟨y, h1, Z1, A1, rfl, e, rs, o1, t⟩
  | ok w s1 =>
    obtain ⟨u, h1, Z1, A1, F1, rfl, r, rs, o1, t⟩ := p
    have q := k u w h1 Z1 A1 F1 s1 r rs o1
    simp only [vbind_ok, bind_ok]
    cases kv : kV w s1 with
    | bad => trivial
    | ex x s2 =>
      rw [kv] at q
      obtain ⟨y, h2, Z2, A2, e1, e, rs2, o3, t2⟩ := q
      exact ⟨y, h2, Z2, A2, e1, e, rs2, o3, (t.trans t2).wid (by simp)⟩
    | ok w2 s2 =>
      rw [kv] at q
      obtain ⟨u2, h2, Z2, A2, F2, e1, r2, rs2, o3, t2⟩ := q
      exact ⟨u2, h2, Z2, A2, F2, e1, r2, rs2, o3, (t.trans t2).wid (by simp)⟩
theorem PoI.here {src : Src} {ws : List W} (rs : RSt h Z s σ A) (o : Ok h Z A F) (q : SrcOk h Z A J ws src F) : PoI M J σ h Z A F s (.ok src h) (.ok ws s) := ⟨src, h, Z, A, F, rfl, q, rs, o, .refl⟩
def itW (d : Hd) (w : W) : Option (List W) := match w with
  | .im (.tup ps) => some (ps.map .im)
  | .im (.fz ps) => some (ps.map .im)
  | .im (.fr ps) => some (ps.map .im)
  | .lst ws => match d with
    | .v _ => some ws
    | .at _ _ => if (imL ws).isSome then some ws else none
  | .tw ws => match d with
    | .v _ => some ws
    | .at _ _ => none
  | _ => none
def qitk (d : Hd) (s : Vs) : VR (List W) := match (rd s d).bind (itW d) with | some ws => .ok ws s | none => .bad
def qit (g : VH) : VI := fun s => (g s).bind qitk
theorem si_seq' {g : VH} (a : SVH M I J fa g) : SVI M J (iSeq fa) (qit g) := by
  refine ⟨fun s σ h Z A rs o => PoI.bind0 o (a.run s σ h Z A rs o) fun u d h1 Z1 A1 F1 s1 r rs1 o1 => ?_⟩
  unfold qitk
  split
  · rename_i ws e
    obtain ⟨w, e1, e2⟩ := Option.bind_eq_some_iff.mp e
    have rr := r.rd rs1 e1
    have frozen : ∀ {ps : List P} {us : List U} {src : Src}, srcU h1 u = some src → src.xs = us → RPs h1 Z1 ps us → (∀ h', Keep h1 h' Z1 → src.ok h') → PoI [] J σ h1 Z1 A1 F1 s1 (iSeqk u h1) (.ok (ps.map .im) s1) := fun {ps us src} e3 e4 q k => by
      have : iSeqk u h1 = .ok src h1 := by unfold iSeqk; rw [e3]
      rw [this]
      exact PoI.here rs1 o1 ⟨No, No, by rw [e4]; exact q.ws, fun _ x => x.elim, fun _ x => x.elim, fun _ x => x.elim, fun h' _ kz _ => k h' kz⟩
    unfold itW at e2
    split at e2
    · cases e2
      obtain ⟨us, rfl, q⟩ := rr.im.tup_inv
      exact frozen (us := us) (src := ⟨us, fun _ => True⟩) rfl rfl q fun _ _ => trivial
    · cases e2
      obtain ⟨a, us, rfl, z, k, q⟩ := rr.im.fz_inv
      exact frozen (us := us) (src := ⟨us, fun h' => h'[a]? = some (.lst us)⟩) (by simp [srcU, k]) rfl q fun h' kz => (kz a z).trans k
    · cases e2
      obtain ⟨a, us, rfl, z, k, q⟩ := rr.im.fr_inv
      exact frozen (us := us) (src := ⟨us, fun h' => h'[a]? = some (.fro us)⟩) (by simp [srcU, k]) rfl q fun h' kz => (kz a z).trans k
    · rename_i ws0
      cases d with
      | v w0 =>
        cases e1; cases e2
        have r : RW h1 Z1 (.lst ws) u F1 := r
        obtain ⟨a, us, G, rfl, k, fa', ng, sg, q⟩ := r.lst_inv
        have : iSeqk (.ref a) h1 = .ok ⟨us, fun h' => h'[a]? = some (.lst us)⟩ h1 := by simp [iSeqk, srcU, k]
        rw [this]
        exact PoI.here rs1 o1 ⟨G, fun b => b = a, q, fun b x y => by subst y; exact ng x, sg, fun b x => by subst x; exact fa', fun h' kb _ _ => (kb a rfl).trans k⟩
      | «at» i p =>
        simp only [] at e2
        split at e2
        · rename_i il; cases e2
          obtain ⟨ps, il⟩ := Option.isSome_iff_exists.mp il
          obtain ⟨G0, rg, gsrc⟩ := r.read rs1 e1
          obtain ⟨⟨u0, eu0, _, q1⟩, _, hJ⟩ := r
          have rc := q1 _ e1
          simp only [rd] at e1
          split at e1
          · rename_i w0 ew0
            obtain ⟨u0', eu0', rw0⟩ := rs1.2 i w0 ew0
            rw [eu0] at eu0'; cases eu0'
            obtain ⟨u2, G1, rc2, sg1, rw1⟩ := getP_wand rw0 e1
            have := Reach.fn rc rc2
            subst this
            obtain ⟨a, us, G, rfl, k, fa', ng, sg, q⟩ := rw1.lst_inv
            have : iSeqk (.ref a) h1 = .ok ⟨us, fun h' => h'[a]? = some (.lst us)⟩ h1 := by simp [iSeqk, srcU, k]
            rw [this]
            have q' := (q.im il).ws
            rw [← imL_eq il] at q'
            exact PoI.here rs1 o1 ⟨No, No, q', fun _ x => x.elim, fun _ x => x.elim, fun _ x => x.elim, fun h' _ _ ka => (ka i hJ a (sg1 a fa')).trans k⟩
          · cases e1
        · cases e2
    · cases d with
      | v w0 =>
        cases e1; cases e2
        have r : RW h1 Z1 (.tw ws) u F1 := r
        obtain ⟨us, rfl, q⟩ := r.tw_inv
        exact PoI.here (src := ⟨us, fun _ => True⟩) rs1 o1 ⟨F1, No, q, fun _ _ x => x, .refl _, fun _ x => x.elim, fun _ _ _ _ => trivial⟩
      | «at» i p => cases e2
    · cases e2
  · trivial
/-! range -/
def rgW (lo : Int) (n : Nat) : List W := (List.range n).map fun k => .im (.int (lo + (k : Nat)))
theorem rps_ints {xs : List Int} : RPs h Z (xs.map .int) (xs.map .int) := by
  induction xs with
  | nil => exact .nil
  | cons x xs ih => exact .cons (rp_int x) ih
theorem rws_rg (lo : Int) (n : Nat) : RWs h Z (rgW lo n) (rgU lo n) No := by
  have := (rps_ints (h := h) (Z := Z) (xs := (List.range n).map fun k => lo + (k : Nat))).ws
  simpa [rgW, rgU, List.map_map, Function.comp_def] using this
noncomputable def rgS (ws : List W) : Option (List W) := match ws with
  | [.im (.int j)] => @ite _ (big62 j) (Classical.propDecidable _) (some (rgW 0 j.toNat)) none
  | [.im (.int i), .im (.int j)] => @ite _ (big62 i ∧ big62 j) (Classical.propDecidable _) (some (rgW i (j - i).toNat)) none
  | _ => none
noncomputable def qRgk (ws : List W) (s : Vs) : VR (List W) := match rgS ws with | some xs => .ok xs s | none => .bad
noncomputable def qRg (gs : VA) : VI := fun s => (gs s).bind qRgk
theorem rw_int {i : Int} {u : U} (r : RW h Z (.im (.int i)) u F) : u = .int i := by have := r.im_inv; unfold RP at this; exact this
theorem si_rg1' {fs : Ea} {gs : VA} (a : SVA M fs gs) (hn : ∀ s ws s', gs s = .ok ws s' → ws.length = 1) : SVI M [] (iRg1 fs) (qRg gs) := by
  refine ⟨fun s σ h Z A rs o => ?_⟩
  unfold iRg1 qRg
  cases e0 : gs s with
  | bad => trivial
  | ex x s' => have p := a.run s σ h Z A rs o; rw [e0] at p; obtain ⟨y, h1, Z1, A1, e1, e, rs, o1, t⟩ := p; rw [e1]; exact ⟨y, h1, Z1, A1, rfl, e, rs, o1, t⟩
  | ok ws0 s0 =>
    have hl := hn s ws0 s0 e0
    have := PoI.bind0 (J := []) (kR := iRg1k) (kV := fun ws s => if ws.length = 1 then qRgk ws s else .bad) o (a.run s σ h Z A rs o) fun us ws h1 Z1 A1 F1 s1 r rs1 o1 => by
      have r : RWs h1 Z1 ws us F1 := r
      split
      · rename_i hl
        match ws, hl with
        | [w], _ =>
          unfold qRgk rgS
          split
          · rename_i xs ex
            split at ex
            · rename_i j ej
              cases ej
              split at ex
              · rename_i hb; cases ex
                obtain ⟨u, q, G1, G2, rfl, d, x1, x2, ra, rb⟩ := r.cons_inv
                rw [rb.nil_inv, rw_int ra]
                have : iRg1k [.int j] h1 = .ok ⟨rgU 0 j.toNat, fun _ => True⟩ h1 := by unfold iRg1k rgS1; simp only [if_pos hb]
                rw [this]
                exact PoI.here rs1 o1 ⟨No, No, rws_rg 0 _, fun _ x => x.elim, fun _ x => x.elim, fun _ x => x.elim, fun _ _ _ _ => trivial⟩
              · cases ex
            · rename_i ej; cases ej
            · cases ex
          · trivial
      · trivial
    rw [e0] at this
    simp only [vbind_ok, hl, if_pos] at this
    exact this
theorem si_rg2' {fs : Ea} {gs : VA} (a : SVA M fs gs) (hn : ∀ s ws s', gs s = .ok ws s' → ws.length = 2) : SVI M [] (iRg2 fs) (qRg gs) := by
  refine ⟨fun s σ h Z A rs o => ?_⟩
  unfold iRg2 qRg
  cases e0 : gs s with
  | bad => trivial
  | ex x s' => have p := a.run s σ h Z A rs o; rw [e0] at p; obtain ⟨y, h1, Z1, A1, e1, e, rs, o1, t⟩ := p; rw [e1]; exact ⟨y, h1, Z1, A1, rfl, e, rs, o1, t⟩
  | ok ws0 s0 =>
    have hl := hn s ws0 s0 e0
    have := PoI.bind0 (J := []) (kR := iRg2k) (kV := fun ws s => if ws.length = 2 then qRgk ws s else .bad) o (a.run s σ h Z A rs o) fun us ws h1 Z1 A1 F1 s1 r rs1 o1 => by
      have r : RWs h1 Z1 ws us F1 := r
      split
      · rename_i hl
        match ws, hl with
        | [w, w'], _ =>
          unfold qRgk rgS
          split
          · rename_i xs ex
            split at ex
            · rename_i ej; cases ej
            · rename_i i j ej
              cases ej
              split at ex
              · rename_i hb; cases ex
                obtain ⟨u, q, G1, G2, rfl, d, x1, x2, ra, rb⟩ := r.cons_inv
                obtain ⟨u', q', G3, G4, rfl, d', x3, x4, rc, rd⟩ := rb.cons_inv
                rw [rd.nil_inv, rw_int ra, rw_int rc]
                have : iRg2k [.int i, .int j] h1 = .ok ⟨rgU i (j - i).toNat, fun _ => True⟩ h1 := by unfold iRg2k rgS2; simp only [if_pos hb]
                rw [this]
                exact PoI.here rs1 o1 ⟨No, No, rws_rg i _, fun _ x => x.elim, fun _ x => x.elim, fun _ x => x.elim, fun _ _ _ _ => trivial⟩
              · cases ex
            · cases ex
          · trivial
      · trivial
    rw [e0] at this
    simp only [vbind_ok, hl, if_pos] at this
    exact this
theorem aq_one (g : VE) : ∀ s ws s', aqCons g aqNil s = .ok ws s' → ws.length = 1 := by
  intro s ws s' e
  cases eg : g s with
  | bad => simp [aqCons, eg] at e
  | ex x s1 => simp [aqCons, eg] at e
  | ok w s1 => simp [aqCons, eg, aq1, aq2, aqNil] at e; rw [← e.1]; rfl
theorem aq_two (g g' : VE) : ∀ s ws s', aqCons g (aqCons g' aqNil) s = .ok ws s' → ws.length = 2 := by
  intro s ws s' e
  cases eg : g s with
  | bad => simp [aqCons, eg] at e
  | ex x s1 => simp [aqCons, eg] at e
  | ok w s1 =>
    cases eg2 : g' s1 with
    | bad => simp [aqCons, aq1, eg, eg2] at e
    | ex x s1 => simp [aqCons, aq1, eg, eg2] at e
    | ok w2 s2 => simp [aqCons, eg, eg2, aq1, aq2, aqNil] at e; rw [← e.1]; rfl
/-! enumerate -/
def enP (ps : List P) : List P := (List.range ps.length).map fun k => .tup [.int (k : Nat), ps.getD k .non]
theorem RPs.of_get : ∀ {ps : List P} {us : List U}, ps.length = us.length → (∀ (k : Nat) (p : P), ps[k]? = some p → ∃ u, us[k]? = some u ∧ RP h Z p u) → RPs h Z ps us
  | [], [], _, _ => .nil
  | [], _ :: _, e, _ => by simp at e
  | _ :: _, [], e, _ => by simp at e
  | p :: ps, u :: us, e, k => by
    obtain ⟨u', e1, r⟩ := k 0 p rfl
    simp at e1; subst e1
    exact .cons r (RPs.of_get (by simpa using e) fun j q ej => by obtain ⟨v, e2, r2⟩ := k (j + 1) q (by simpa using ej); exact ⟨v, by simpa using e2, r2⟩)
theorem rps_en {ps : List P} {us : List U} (r : RPs h Z ps us) : RPs h Z (enP ps) (enU us) := by
  refine RPs.of_get (by simp [enP, enU, r.length]) fun k p e => ?_
  have hk : k < ps.length := by have := (List.getElem?_eq_some_iff.mp e).1; simpa [enP] using this
  have e1 : ps[k]? = some ps[k] := List.getElem?_eq_getElem hk
  obtain ⟨u, e2, r2⟩ := r.get e1
  refine ⟨_, enU_get e2, ?_⟩
  have : p = .tup [.int (k : Nat), ps[k]] := by
    simp [enP, hk] at e
    exact e.symm
  rw [this]
  exact rp_tup (.cons (rp_int _) (.cons r2 .nil))
def enW (d : Hd) (w : W) : Option (List W) := match w with
  | .im (.tup ps) => some ((enP ps).map .im)
  | .im (.fz ps) => some ((enP ps).map .im)
  | .lst ws => (imL ws).map fun ps => (enP ps).map .im
  | _ => none
def qEnk (d : Hd) (s : Vs) : VR (List W) := match (rd s d).bind (enW d) with | some ws => .ok ws s | none => .bad
def qEn (g : VH) : VI := fun s => (g s).bind qEnk
theorem si_en' {g : VH} (a : SVH M I J fa g) : SVI M J (iEn fa) (qEn g) := by
  refine ⟨fun s σ h Z A rs o => PoI.bind0 o (a.run s σ h Z A rs o) fun u d h1 Z1 A1 F1 s1 r rs1 o1 => ?_⟩
  unfold qEnk
  split
  · rename_i ws e
    obtain ⟨w, e1, e2⟩ := Option.bind_eq_some_iff.mp e
    unfold enW at e2
    split at e2
    · cases e2
      obtain ⟨us, rfl, q⟩ := (r.rd rs1 e1).im.tup_inv
      have : iEnk (.tup us) h1 = .ok ⟨enU us, fun _ => True⟩ h1 := rfl
      rw [this]
      exact PoI.here rs1 o1 ⟨No, No, (rps_en q).ws, fun _ x => x.elim, fun _ x => x.elim, fun _ x => x.elim, fun h' _ _ _ => trivial⟩
    · cases e2
      obtain ⟨a, us, rfl, z, k, q⟩ := (r.rd rs1 e1).im.fz_inv
      have : iEnk (.ref a) h1 = .ok ⟨enU us, fun h' => h'[a]? = some (.lst us)⟩ h1 := iEnk_lst k
      rw [this]
      exact PoI.here rs1 o1 ⟨No, No, (rps_en q).ws, fun _ x => x.elim, fun _ x => x.elim, fun _ x => x.elim, fun h' _ kz _ => (kz a z).trans k⟩
    · rename_i ws0
      simp only [Option.map_eq_some_iff] at e2
      obtain ⟨ps, il, rfl⟩ := e2
      cases d with
      | v w0 =>
        cases e1
        have r : RW h1 Z1 (.lst ws0) u F1 := r
        obtain ⟨a, us, G, rfl, k, fa', ng, sg, q⟩ := r.lst_inv
        rw [iEnk_lst k]
        exact PoI.here rs1 o1 ⟨No, fun b => b = a, (rps_en (q.im il)).ws, fun b x y => x.elim, fun _ x => x.elim, fun b x => by subst x; exact fa', fun h' kb _ _ => (kb a rfl).trans k⟩
      | «at» i p =>
        obtain ⟨⟨u0, eu0, _, q1⟩, _, hJ⟩ := r
        have rc := q1 _ e1
        simp only [rd] at e1
        split at e1
        · rename_i w0 ew0
          obtain ⟨u0', eu0', rw0⟩ := rs1.2 i w0 ew0
          rw [eu0] at eu0'; cases eu0'
          obtain ⟨u2, G1, rc2, sg1, rw1⟩ := getP_wand rw0 e1
          have := Reach.fn rc rc2
          subst this
          obtain ⟨a, us, G, rfl, k, fa', ng, sg, q⟩ := rw1.lst_inv
          rw [iEnk_lst k]
          exact PoI.here rs1 o1 ⟨No, No, (rps_en (q.im il)).ws, fun _ x => x.elim, fun _ x => x.elim, fun _ x => x.elim, fun h' _ _ ka => (ka i hJ a (sg1 a fa')).trans k⟩
        · cases e1
    · cases e2
  · trivial
/-! zip of two -/
def zpP (ps qs : List P) : List P := (List.range (min ps.length qs.length)).map fun k => .tup [ps.getD k .non, qs.getD k .non]
theorem zpP_length (ps qs : List P) : (zpP ps qs).length = min ps.length qs.length := by simp [zpP]
theorem rps_zp {ps qs : List P} {us vs : List U} (r : RPs h Z ps us) (r2 : RPs h Z qs vs) : RPs h Z (zpP ps qs) (zpU us vs) := by
  refine RPs.of_get (by simp [zpP, zpU, r.length, r2.length]) fun k p e => ?_
  have hk : k < min ps.length qs.length := by have := (List.getElem?_eq_some_iff.mp e).1; simpa [zpP] using this
  have l1 : k < ps.length := by omega
  have l2 : k < qs.length := by omega
  have e1 : ps[k]? = some ps[k] := List.getElem?_eq_getElem l1
  have e2 : qs[k]? = some qs[k] := List.getElem?_eq_getElem l2
  obtain ⟨u, e3, r3⟩ := r.get e1
  obtain ⟨v, e4, r4⟩ := r2.get e2
  refine ⟨_, zpU_get e3 e4, ?_⟩
  have : p = .tup [ps[k], qs[k]] := by
    simp only [zpP, List.getElem?_map, List.getElem?_range hk, Option.map_some, List.getD, e1, e2, Option.getD_some] at e
    exact (Option.some.inj e).symm
  rw [this]
  exact rp_tup (.cons r3 (.cons r4 .nil))
def zpI (w : W) : Option (Bool × List P) := match w with
  | .im (.tup ps) => some (false, ps)
  | .im (.fz ps) => some (true, ps)
  | .lst ws => (imL ws).map fun ps => (true, ps)
  | _ => none
def zpW (ws : List W) : Option (List W) := match ws with
  | [a, b] => match zpI a, zpI b with
    | some (true, ps), some (true, qs) => some ((zpP ps qs).map .im)
    | some (false, ps), some (false, qs) => some ((zpP ps qs).map .im)
    | some (true, ps), some (false, qs) => some ((zpP ps qs).map .im)
    | _, _ => none
  | _ => none
def qZpk (ws : List W) (s : Vs) : VR (List W) := match zpW ws with | some xs => .ok xs s | none => .bad
def qZp (gs : VA) : VI := fun s => (gs s).bind qZpk
theorem zpI_f {w : W} {u : U} {ps : List P} (r : RW h Z w u F) (e : zpI w = some (false, ps)) : ∃ us, u = .tup us ∧ RPs h Z ps us := by
  unfold zpI at e
  split at e
  · cases e; exact RP.tup_inv r.im_inv
  · cases e
  · simp at e
  · cases e
theorem zpI_t {w : W} {u : U} {ps : List P} (r : RW h Z w u F) (e : zpI w = some (true, ps)) : ∃ a us, u = .ref a ∧ h[a]? = some (.lst us) ∧ RPs h Z ps us ∧ ∀ h', Keep h h' F → Keep h h' Z → h'[a]? = some (.lst us) := by
  unfold zpI at e
  split at e
  · cases e
  · cases e
    obtain ⟨a, us, rfl, z, k, q⟩ := RP.fz_inv r.im_inv
    exact ⟨a, us, rfl, k, q, fun h' _ kz => (kz a z).trans k⟩
  · rename_i ws
    simp only [Option.map_eq_some_iff] at e
    obtain ⟨ps', il, e⟩ := e
    cases e
    obtain ⟨a, us, G, rfl, k, fa', ng, sg, q⟩ := r.lst_inv
    exact ⟨a, us, rfl, k, q.im il, fun h' kf _ => (kf a fa').trans k⟩
  · cases e
theorem si_zp' {fs : Ea} {gs : VA} (a : SVA M fs gs) : SVI M [] (iZp fs) (qZp gs) := by
  refine ⟨fun s σ h Z A rs o => PoI.bind0 (kR := iZpk) (kV := qZpk) o (a.run s σ h Z A rs o) fun us ws h1 Z1 A1 F1 s1 r rs1 o1 => ?_⟩
  have r : RWs h1 Z1 ws us F1 := r
  unfold qZpk
  split
  · rename_i xs ex
    unfold zpW at ex
    split at ex
    · rename_i w1 w2
      obtain ⟨u, q, G1, G2, rfl, d, x1, x2, ra, rb⟩ := r.cons_inv
      obtain ⟨u', q', G3, G4, rfl, d', x3, x4, rc, rd⟩ := rb.cons_inv
      rw [rd.nil_inv]
      split at ex
      · rename_i e1 e2
        cases ex
        obtain ⟨i, us1, rfl, k1, q1, f1⟩ := zpI_t ra e1
        obtain ⟨j, us2, rfl, k2, q2, f2⟩ := zpI_t rc e2
        have : iZpk [.ref i, .ref j] h1 = .ok ⟨zpU us1 us2, fun h' => h'[i]? = some (.lst us1) ∧ h'[j]? = some (.lst us2)⟩ h1 := iZpk_lst k1 k2
        rw [this]
        exact PoI.here rs1 o1 ⟨No, F1, (rps_zp q1 q2).ws, fun _ x => x.elim, fun _ x => x.elim, fun _ x => x, fun h' kb kz _ => ⟨f1 h' (fun c x => kb c (x1 c x)) kz, f2 h' (fun c x => kb c (x2 c (x3 c x))) kz⟩⟩
      · rename_i e1 e2
        cases ex
        obtain ⟨us1, rfl, q1⟩ := zpI_f ra e1
        obtain ⟨us2, rfl, q2⟩ := zpI_f rc e2
        have : iZpk [.tup us1, .tup us2] h1 = .ok ⟨zpU us1 us2, fun _ => True⟩ h1 := iZpk_tup
        rw [this]
        exact PoI.here rs1 o1 ⟨No, No, (rps_zp q1 q2).ws, fun _ x => x.elim, fun _ x => x.elim, fun _ x => x.elim, fun _ _ _ _ => trivial⟩
      · rename_i e1 e2
        cases ex
        obtain ⟨i, us1, rfl, k1, q1, f1⟩ := zpI_t ra e1
        obtain ⟨us2, rfl, q2⟩ := zpI_f rc e2
        have : iZpk [.ref i, .tup us2] h1 = .ok ⟨zpU us1 us2, fun h' => h'[i]? = some (.lst us1)⟩ h1 := iZpk_mix k1
        rw [this]
        exact PoI.here rs1 o1 ⟨No, F1, (rps_zp q1 q2).ws, fun _ x => x.elim, fun _ x => x.elim, fun _ x => x, fun h' kb kz _ => f1 h' (fun c x => kb c (x1 c x)) kz⟩
      · cases ex
    · cases ex
  · trivial
/-! # for -/
def wipeV (s : Vs) : List Nat → Vs
  | [] => s
  | i :: is => (wipeV s is).set i none
def alive (s : Vs) : List Nat → Bool
  | [] => true
  | i :: is => match s[i]? with | some (some _) => alive s is | _ => false
def VSR.lpV (kill : List Nat) (r : VSR) (k : Vs → VSR) : VSR := match r with
  | .nx s => k s
  | .ct s => k s
  | .bk s => .nx (wipeV s kill)
  | .rt w s => .rt w s
  | .ex x s => .ex x s
  | .bad => .bad
def forV (J kill : List Nat) (t : VTn) (b : VS) : List W → Vs → VSR
  | [], s => if alive s J then .nx (wipeV s kill) else .bad
  | w :: ws, s => if alive s J then (match t w (wipeV s kill) with | some s1 => (b s1).lpV kill (forV J kill t b ws) | none => .bad) else .bad
def vFor (J kill : List Nat) (g : VI) (t : VTn) (b : VS) : VS := fun s => (g s).thn (forV J kill t b)
theorem wipe_len (s : Vs) : ∀ k : List Nat, (wipeV s k).length = s.length
  | [] => rfl
  | i :: is => by simp [wipeV, wipe_len s is]
theorem wipe_out {s : Vs} {w : W} : ∀ {k : List Nat} {j : Nat}, (wipeV s k)[j]? = some (some w) → s[j]? = some (some w)
  | [], j, e => e
  | i :: is, j, e => by
    simp only [wipeV] at e
    by_cases c : i = j
    · subst c; rw [List.getElem?_set] at e; simp at e
    · rw [List.getElem?_set_ne c] at e; exact wipe_out e
theorem RSt.wipe (rs : RSt h Z s σ A) (k : List Nat) : RSt h Z (wipeV s k) σ A := ⟨by rw [wipe_len]; exact rs.1, fun i w e => rs.2 i w (wipe_out e)⟩
theorem wipe_q {s : Vs} : ∀ (k : List Nat) (i : Nat), (wipeV s k)[i]? = some none ∨ (wipeV s k)[i]? = s[i]?
  | [], i => .inr rfl
  | j :: js, i => by
    simp only [wipeV]
    by_cases c : j = i
    · subst c
      by_cases l : j < (wipeV s js).length
      · exact .inl (by rw [List.getElem?_set_self l])
      · refine .inr ?_
        rw [List.getElem?_eq_none (by simp; omega), List.getElem?_eq_none (by rw [wipe_len] at l; omega)]
    · rw [List.getElem?_set_ne c]; exact wipe_q js i
theorem Sts.wipe (t : Sts L h Z A F s h1 Z1 A1 F1 s1) (k : List Nat) : Sts L h Z A F s h1 Z1 A1 F1 (wipeV s1 k) := { t with
  sl := by rw [wipe_len]; exact t.sl
  quiet := fun i x => by
    rcases wipe_q (s := s1) k i with e | e
    · exact .inl e
    · rw [e]; exact t.quiet i x }
theorem alive_get {s : Vs} : ∀ {J : List Nat} {i : Nat}, alive s J = true → i ∈ J → ∃ w, s[i]? = some (some w)
  | j :: js, i, e, m => by
    simp only [alive] at e
    split at e
    · rename_i w ew
      rcases List.mem_cons.mp m with rfl | m
      · exact ⟨w, ew⟩
      · exact alive_get e m
    · cases e
/-- one turn, and what follows -/
theorem PoS.lp {R : SR} {V : VSR} {kR : Sg → Hb → SR} {kV : Vs → VSR} {kill : List Nat} (p : PoS K L σ h Z A F s R V)
    (k : ∀ σ1 h1 Z1 A1 s1, RSt h1 Z1 s1 σ1 A1 → Ok h1 Z1 A1 No → Sts L h Z A F s h1 Z1 A1 No s1 → KK K L σ σ1 → PoS K L σ h Z A F s (kR σ1 h1) (kV s1)) : PoS K L σ h Z A F s (R.lp kR) (V.lpV kill kV) := by
  cases V with
  | bad => trivial
  | nx s' => obtain ⟨σ', h', Z', A', rfl, a, b, c, d⟩ := p; exact k σ' h' Z' A' s' a b c d
  | ct s' => obtain ⟨σ', h', Z', A', rfl, a, b, c, d⟩ := p; exact k σ' h' Z' A' s' a b c d
  | bk s' => obtain ⟨σ', h', Z', A', rfl, a, b, c, d⟩ := p; exact ⟨σ', h', Z', A', rfl, a.wipe kill, b, c.wipe kill, d⟩
  | ex x s' => obtain ⟨y, σ', h', Z', A', rfl, x, a, b, c, d⟩ := p; exact ⟨y, σ', h', Z', A', rfl, x, a, b, c, d⟩
  | rt w s' => obtain ⟨u, σ', h', Z', A', F', rfl, x, a, b, c, d⟩ := p; exact ⟨u, σ', h', Z', A', F', rfl, x, a, b, c, d⟩
theorem PoS.weakL {R : SR} {V : VSR} {L' : List Nat} (hl : ∀ i, i ∈ L → i ∈ L') (p : PoS K L' σ h Z A F s R V) : PoS K L σ h Z A F s R V := by
  have ws : ∀ {h' : Hb} {Z' : St} {A' : Nat → St} {F' : St} {s' : Vs}, Sts L' h Z A F s h' Z' A' F' s' → Sts L h Z A F s h' Z' A' F' s' := fun t => { t with quiet := fun i x => t.quiet i (hl i x) }
  have wk : ∀ {σ' : Sg}, KK K L' σ σ' → KK K L σ σ' := fun k i x => k i (x.imp id (hl i))
  cases V with
  | bad => trivial
  | nx s' => obtain ⟨σ', h', Z', A', rfl, a, b, c, d⟩ := p; exact ⟨σ', h', Z', A', rfl, a, b, ws c, wk d⟩
  | ct s' => obtain ⟨σ', h', Z', A', rfl, a, b, c, d⟩ := p; exact ⟨σ', h', Z', A', rfl, a, b, ws c, wk d⟩
  | bk s' => obtain ⟨σ', h', Z', A', rfl, a, b, c, d⟩ := p; exact ⟨σ', h', Z', A', rfl, a, b, ws c, wk d⟩
  | ex x s' => obtain ⟨y, σ', h', Z', A', rfl, x, a, b, c, d⟩ := p; exact ⟨y, σ', h', Z', A', rfl, x, a, b, ws c, wk d⟩
  | rt w s' => obtain ⟨u, σ', h', Z', A', F', rfl, x, a, b, c, d⟩ := p; exact ⟨u, σ', h', Z', A', F', rfl, x, a, b, ws c, wk d⟩
theorem for_next {J kill : List Nat} {tn : Tn} {t : VTn} {fb : Sv} {vb : VS} {okp : Hb → Prop} (ws : List W) (us : List U) (G B0 : St) (s : Vs) (σ : Sg) (h : Hb) (Z : St) (A : Nat → St)
    (ih : ∀ (s : Vs) (σ : Sg) (h : Hb) (Z : St) (A : Nat → St), RSt h Z s σ A → Ok h Z A (Un G B0) → Dis G B0 → RWs h Z ws us G → (∀ h', Keep h h' B0 → Keep h h' Z → (∀ i, i ∈ J → Keep h h' (A i)) → okp h') → PoS K L σ h Z A (Un G B0) s (forL okp (gN tn) fb us σ h) (forV J kill t vb ws s))
    (s' : Vs) (σ' : Sg) (h' : Hb) (Z' : St) (A' : Nat → St) (o : Ok h Z A (Un G B0)) (d : Dis G B0) (r : RWs h Z ws us G) (rs' : RSt h' Z' s' σ' A') (o' : Ok h' Z' A' No) (st : Sts (L ++ J) h Z A No s h' Z' A' No s') (kk : KK K (L ++ J) σ σ')
    (q : ∀ h', Keep h h' B0 → Keep h h' Z → (∀ i, i ∈ J → Keep h h' (A i)) → okp h') : PoS K L σ h Z A (Un G B0) s (forL okp (gN tn) fb us σ' h') (forV J kill t vb ws s') := by
  obtain ⟨o2, d2, kb⟩ := o.holdS o' st
  rw [no_un] at o2
  have kz := (ok_no o).keepZS st
  have stL : Sts L h Z A (Un G B0) s h' Z' A' (Un G B0) s' := by
    have := st.hold (Un G B0); rw [no_un] at this
    exact { this with quiet := fun i x => this.quiet i (List.mem_append_left _ x) }
  refine PoS.pre stL (fun i x => kk i (x.imp id fun y => List.mem_append_left _ y)) ?_
  by_cases al : alive s' J = true
  · refine ih s' σ' h' Z' A' rs' o2 d (RWs.frame kz st.zin ws (kb.sub fun _ => .inl) (.refl _) r) fun hh kb2 kz2 ka2 => ?_
    refine q hh (fun x y => (kb2 x y).trans (kb x (.inr y))) (fun x y => (kz2 x (st.zin x y)).trans (kz x y)) fun i hi x y => ?_
    rcases st.quiet i (List.mem_append_right _ hi) with e | ⟨e, k1, sb⟩
    · obtain ⟨w, ew⟩ := alive_get al hi
      rw [e] at ew; cases ew
    · exact (ka2 i hi x (sb x y)).trans (k1 x y)
  · cases ws with
    | nil => unfold forV; rw [if_neg al]; trivial
    | cons w ws => unfold forV; rw [if_neg al]; trivial
theorem for_ok {J kill Ws : List Nat} {tn : Tn} {t : VTn} {fb : Sv} {vb : VS} (a : STn Ws tn t) (b : SVS K (L ++ J) fb vb) (hk : ∀ i, (i ∈ K ∨ i ∈ L ∨ i ∈ J) → i ∉ Ws) {okp : Hb → Prop} :
    ∀ (ws : List W) (us : List U) (G B0 : St) (s : Vs) (σ : Sg) (h : Hb) (Z : St) (A : Nat → St), RSt h Z s σ A → Ok h Z A (Un G B0) → Dis G B0 → RWs h Z ws us G →
      (∀ h', Keep h h' B0 → Keep h h' Z → (∀ i, i ∈ J → Keep h h' (A i)) → okp h') → PoS K L σ h Z A (Un G B0) s (forL okp (gN tn) fb us σ h) (forV J kill t vb ws s)
  | [], us, G, B0, s, σ, h, Z, A, rs, o, d, r, q => by
    rw [r.nil_inv]
    unfold forV
    split
    · rename_i al
      have hok := q h (.refl _ _) (.refl _ _) fun _ _ => .refl _ _
      simp only [forL, if_pos hok]
      exact PoS.forget o ⟨σ, h, Z, A, rfl, rs.wipe kill, ok_no o, Sts.refl.wipe kill, .refl⟩
    · trivial
  | w :: ws, us, G, B0, s, σ, h, Z, A, rs, o, d, r, q => by
    obtain ⟨u, us', G1, G2, rfl, d12, x1, x2, ra, rb⟩ := r.cons_inv
    unfold forV
    split
    · rename_i al
      have hok := q h (.refl _ _) (.refl _ _) fun _ _ => .refl _ _
      simp only [forL, if_pos hok]
      split
      · rename_i s1 et
        obtain ⟨σ1, A1, e1, rs1, o1, src, l1, k1⟩ := a.run w u G1 (Un G2 B0) (wipeV s kill) s1 σ h Z A ra (fun c x y => y.elim (d12 c x) (d c (x1 c x))) (rs.wipe kill) (o.fsub fun c x => x.elim (fun x => .inl (x1 c x)) fun x => x.elim (fun x => .inl (x2 c x)) .inr) et
        have eg : (gN tn u σ h).thn fb = fb σ1 h := by simp [gN, e1]
        rw [eg]
        -- from the state behind the target
        have st0 : Sts L h Z A (Un G B0) s h Z A1 (Un G2 B0) s1 := by
          refine ⟨Nat.le_refl _, fun _ _ _ _ => rfl, fun _ z => z, fun _ z => .inl z, fun i c x => (src i c x).elim (fun x => .inl ⟨i, x⟩) fun x => .inr (.inl (.inl (x1 c x))), fun c x => x.elim (fun x => .inr (.inl (.inl (x2 c x)))) fun x => .inr (.inl (.inr x)), by rw [l1, wipe_len], fun i hi => ?_⟩
          obtain ⟨_, b2, b3⟩ := k1 i (hk i (.inr (.inl hi)))
          rcases wipe_q (s := s) kill i with e | e
          · exact .inl (b2.trans e)
          · exact .inr ⟨b2.trans e, .refl _ _, by rw [b3]; exact .refl _⟩
        have kk0 : KK K L σ σ1 := fun i hi => (k1 i (hk i (hi.imp id .inl))).1
        refine PoS.pre st0 kk0 ?_
        have p := b.run s1 σ1 h Z A1 rs1 (ok_no o1)
        have o1' : Ok h Z A1 (Un No (Un G2 B0)) := by rw [no_un]; exact o1
        have pp : PoS K L σ1 h Z A1 (Un G2 B0) s1 (fb σ1 h) (vb s1) := PoS.forget o1 (PoS.weakL (fun i x => List.mem_append_left _ x) p)
        -- the turn's end with more than pp tells
        cases ev : vb s1 with
        | bad => trivial
        | ex x s' => rw [ev] at pp; obtain ⟨y, σ', h', Z', A', e, x, a, b, c, d⟩ := pp; rw [e]; exact ⟨y, σ', h', Z', A', rfl, x, a, b, c, d⟩
        | rt w s' => rw [ev] at pp; obtain ⟨u, σ', h', Z', A', F', e, x, a, b, c, d⟩ := pp; rw [e]; exact ⟨u, σ', h', Z', A', F', rfl, x, a, b, c, d⟩
        | bk s' => rw [ev] at pp; obtain ⟨σ', h', Z', A', e, a, b, c, d⟩ := pp; rw [e]; exact ⟨σ', h', Z', A', rfl, a.wipe kill, b, c.wipe kill, d⟩
        | nx s' =>
          rw [ev] at p
          obtain ⟨σ', h', Z', A', e, ra', oa', st, kk⟩ := p
          rw [e]
          exact for_next ws us' G2 B0 s1 σ1 h Z A1 (fun s σ h Z A rs o d r q => for_ok a b hk ws us' G2 B0 s σ h Z A rs o d r q) s' σ' h' Z' A' o1 (fun c x y => d c (x2 c x) y) rb ra' oa' st kk (fun hh kb kz ka => q hh kb kz fun i hi => by rw [← (k1 i (hk i (.inr (.inr hi)))).2.2]; exact ka i hi)
        | ct s' =>
          rw [ev] at p
          obtain ⟨σ', h', Z', A', e, ra', oa', st, kk⟩ := p
          rw [e]
          exact for_next ws us' G2 B0 s1 σ1 h Z A1 (fun s σ h Z A rs o d r q => for_ok a b hk ws us' G2 B0 s σ h Z A rs o d r q) s' σ' h' Z' A' o1 (fun c x y => d c (x2 c x) y) rb ra' oa' st kk (fun hh kb kz ka => q hh kb kz fun i hi => by rw [← (k1 i (hk i (.inr (.inr hi)))).2.2]; exact ka i hi)
      · trivial
    · trivial
theorem ss_for' {kill Ws : List Nat} {fi : Si} {gi : VI} {tn : Tn} {t : VTn} {fb : Sv} {vb : VS} (c : SVI M J fi gi) (a : STn Ws tn t) (b : SVS K (L ++ J) fb vb) (hl : ∀ i, i ∈ L → i ∉ M) (hk : ∀ i, (i ∈ K ∨ i ∈ L ∨ i ∈ J) → i ∉ Ws) : SVS K L (sFor fi (gN tn) fb) (vFor J kill gi t vb) := by
  refine ⟨fun s σ h Z A rs o => ?_⟩
  have p := c.run s σ h Z A rs o
  unfold sFor vFor
  cases e : gi s with
  | bad => trivial
  | ex x s' => rw [e] at p; obtain ⟨y, h1, Z1, A1, e1, rx, rs, o1, st⟩ := p; rw [e1]; exact ⟨y, σ, h1, Z1, A1, rfl, rx, rs, o1, st.sts hl, .refl⟩
  | ok ws s1 =>
    rw [e] at p
    obtain ⟨src, h1, Z1, A1, F1, e1, ⟨G, B0, r, d, sg, sb, q⟩, rs1, o1, st⟩ := p
    rw [e1]
    simp only [thn_ok, vthn_ok, sFork]
    have o2 : Ok h1 Z1 A1 (Un G B0) := o1.fsub fun x y => y.elim (sg x) (sb x)
    exact PoS.pre ((st.fsub fun x y => y.elim (sg x) (sb x)).sts hl) .refl (for_ok a b hk ws src.xs G B0 s1 σ h1 Z1 A1 rs1 o2 d r q)
end
end Lz
namespace Lz
open PySem PySem.Spec PyProof.Rows L2
open Classical
section
variable {h h1 h2 : Hb} {Z Z1 Z2 F F1 F2 B : St} {A A1 A2 : Nat → St} {s s1 s2 : Vs} {K L M M1 M2 M3 I J I1 I2 J1 J2 : List Nat} {σ σ1 σ2 : Sg} {fa fb fc : Ev} {α β γ δ : Type}
/-! # while -/
def whileNV (kill : List Nat) (c : VB) (b : VS) : Nat → Vs → Option VSR
  | 0, _ => none
  | n + 1, s => match c (wipeV s kill) with
    | .ok true s1 => match b s1 with
      | .nx s2 => whileNV kill c b n s2
      | .ct s2 => whileNV kill c b n s2
      | .bk s2 => some (.nx (wipeV s2 kill))
      | r => some r
    | .ok false s1 => some (.nx s1)
    | .ex x s1 => some (.ex x s1)
    | .bad => some .bad
noncomputable def vWhile (kill : List Nat) (c : VB) (b : VS) : VS := fun s => if hx : ∃ n r, whileNV kill c b n s = some r then (Classical.choose_spec hx |> fun _ => Classical.choose (Classical.choose_spec hx)) else .bad
theorem vWhile_spec {kill : List Nat} {c : VB} {b : VS} {s : Vs} (hx : vWhile kill c b s ≠ .bad) : ∃ n, whileNV kill c b n s = some (vWhile kill c b s) := by
  unfold vWhile at hx ⊢
  split
  · rename_i hy
    exact ⟨Classical.choose hy, Classical.choose_spec (Classical.choose_spec hy)⟩
  · rename_i hy
    rw [dif_neg hy] at hx
    exact absurd rfl hx
theorem whileNV_mono {kill : List Nat} {c : VB} {b : VS} : ∀ {n : Nat} {s : Vs} {r : VSR}, whileNV kill c b n s = some r → ∀ d, whileNV kill c b (n + d) s = some r
  | 0, _, _, e, _ => by cases e
  | n + 1, s, r, e, d => by
    rw [show n + 1 + d = (n + d) + 1 by omega]
    simp only [whileNV] at e ⊢
    split at e
    · split at e
      · exact whileNV_mono e d
      · exact whileNV_mono e d
      · exact e
      · exact e
    · exact e
    · exact e
    · exact e
theorem vWhile_of {kill : List Nat} {c : VB} {b : VS} {n : Nat} {s : Vs} {r : VSR} (e : whileNV kill c b n s = some r) : vWhile kill c b s = r := by
  unfold vWhile
  have hx : ∃ n r, whileNV kill c b n s = some r := ⟨n, r, e⟩
  rw [dif_pos hx]
  have e2 := Classical.choose_spec (Classical.choose_spec hx)
  have a := whileNV_mono e (Classical.choose hx)
  have a2 := whileNV_mono e2 n
  rw [Nat.add_comm] at a2
  have := a.symm.trans a2
  exact (Option.some.inj this).symm
/-- one turn's test told -/
theorem vWhile_step {kill : List Nat} {c : VB} {b : VS} {s s1 : Vs} (hc : c (wipeV s kill) = .ok true s1) {s2 : Vs} (hb : b s1 = .nx s2 ∨ b s1 = .ct s2) : vWhile kill c b s = vWhile kill c b s2 := by
  by_cases hx : vWhile kill c b s2 = .bad
  · by_cases hy : ∃ n r, whileNV kill c b n s2 = some r
    · obtain ⟨n, r, e⟩ := hy
      have : whileNV kill c b (n + 1) s = some r := by simp only [whileNV, hc]; rcases hb with hb | hb <;> rw [hb] <;> exact e
      rw [vWhile_of this, vWhile_of e]
    · rw [hx]
      unfold vWhile
      rw [dif_neg]
      rintro ⟨n, r, e⟩
      cases n with
      | zero => cases e
      | succ n =>
        simp only [whileNV, hc] at e
        rcases hb with hb | hb <;> rw [hb] at e <;> exact hy ⟨n, r, e⟩
  · obtain ⟨n, e⟩ := vWhile_spec hx
    have : whileNV kill c b (n + 1) s = some (vWhile kill c b s2) := by simp only [whileNV, hc]; rcases hb with hb | hb <;> rw [hb] <;> exact e
    exact vWhile_of this
theorem vWhile_end {kill : List Nat} {c : VB} {b : VS} {s s1 : Vs} (hc : c (wipeV s kill) = .ok false s1) : vWhile kill c b s = .nx s1 := vWhile_of (n := 1) (by simp only [whileNV, hc])
theorem while_ok {kill : List Nat} {c : Eb} {b : Sv} {vc : VB} {vb : VS} (hc : SVB M c vc) (hb : SVS K L b vb) (hl : ∀ i, i ∈ L → i ∉ M) : ∀ (n : Nat) (s : Vs) (σ : Sg) (h : Hb) (Z : St) (A : Nat → St) (V : VSR), RSt h Z s σ A → Ok h Z A No → whileNV kill vc vb n s = some V →
    V = .bad ∨ ∃ R, whileN c b n σ h = some R ∧ PoS K L σ h Z A No s R V
  | 0, s, σ, h, Z, A, V, rs, o, e => by cases e
  | n + 1, s, σ, h, Z, A, V, rs, o, e => by
    have p := hc.run (wipeV s kill) σ h Z A (rs.wipe kill) o
    have pre : ∀ {M : List Nat} {h1 : Hb} {Z1 : St} {A1 : Nat → St} {F1 : St} {s1 : Vs}, (∀ i, i ∈ L → i ∉ M) → Stp M h Z A No (wipeV s kill) h1 Z1 A1 F1 s1 → Sts L h Z A No s h1 Z1 A1 F1 s1 := fun {M h1 Z1 A1 F1 s1} hm t => by
      have t1 := t.sts hm
      exact ⟨t1.len, t1.same, t1.zin, t1.zout, t1.aout, t1.fout, by rw [t1.sl, wipe_len], fun i hi => by
        rcases t1.quiet i hi with e | ⟨e, k, sb⟩
        · exact .inl e
        · rcases wipe_q (s := s) kill i with e2 | e2
          · exact .inl (e.trans e2)
          · exact .inr ⟨e.trans e2, k, sb⟩⟩
    simp only [whileNV] at e
    cases ec : vc (wipeV s kill) with
    | bad => rw [ec] at e; cases e; exact .inl rfl
    | ex x s1 =>
      rw [ec] at e p; cases e
      obtain ⟨y, h1, Z1, A1, e1, rx, rs1, o1, t⟩ := p
      refine .inr ⟨.ex y σ h1, by simp only [whileN, e1], y, σ, h1, Z1, A1, rfl, rx, rs1, o1, pre hl t, .refl⟩
    | ok k s1 =>
      rw [ec] at e p
      obtain ⟨u, h1, Z1, A1, F1, e1, ⟨rfl, rfl⟩, rs1, o1, t⟩ := p
      have st := pre hl t
      cases u with
      | false =>
        cases e
        exact .inr ⟨.nx σ h1, by simp only [whileN, e1], σ, h1, Z1, A1, rfl, rs1, o1, st, .refl⟩
      | true =>
        simp only [] at e
        have q := hb.run s1 σ h1 Z1 A1 rs1 o1
        cases eb : vb s1 with
        | bad => rw [eb] at e; cases e; exact .inl rfl
        | ex x s2 =>
          rw [eb] at e q; cases e
          obtain ⟨y, σ', h', Z', A', e2, x, a, b, c, d⟩ := q
          exact .inr ⟨.ex y σ' h', by simp only [whileN, e1, e2], y, σ', h', Z', A', rfl, x, a, b, st.trans c, d⟩
        | rt w s2 =>
          rw [eb] at e q; cases e
          obtain ⟨u, σ', h', Z', A', F', e2, x, a, b, c, d⟩ := q
          exact .inr ⟨.rt u h', by simp only [whileN, e1, e2], u, σ', h', Z', A', F', rfl, x, a, b, st.trans c, d⟩
        | bk s2 =>
          rw [eb] at e q; cases e
          obtain ⟨σ', h', Z', A', e2, a, b, c, d⟩ := q
          exact .inr ⟨.nx σ' h', by simp only [whileN, e1, e2], σ', h', Z', A', rfl, a.wipe kill, b, (st.trans c).wipe kill, d⟩
        | nx s2 =>
          rw [eb] at e q
          obtain ⟨σ', h', Z', A', e2, a, b', c', d⟩ := q
          rcases while_ok hc hb hl n s2 σ' h' Z' A' V a b' e with z | ⟨R, e3, p3⟩
          · exact .inl z
          · exact .inr ⟨R, by simp only [whileN, e1, e2]; exact e3, PoS.pre (st.trans c') d p3⟩
        | ct s2 =>
          rw [eb] at e q
          obtain ⟨σ', h', Z', A', e2, a, b', c', d⟩ := q
          rcases while_ok hc hb hl n s2 σ' h' Z' A' V a b' e with z | ⟨R, e3, p3⟩
          · exact .inl z
          · exact .inr ⟨R, by simp only [whileN, e1, e2]; exact e3, PoS.pre (st.trans c') d p3⟩
theorem ss_while' {kill : List Nat} {c : Eb} {b : Sv} {vc : VB} {vb : VS} (hc : SVB M c vc) (hb : SVS K L b vb) (hl : ∀ i, i ∈ L → i ∉ M) : SVS K L (sWhile c b) (vWhile kill vc vb) := by
  refine ⟨fun s σ h Z A rs o => ?_⟩
  by_cases hx : vWhile kill vc vb s = .bad
  · rw [hx]; trivial
  · obtain ⟨n, e⟩ := vWhile_spec hx
    rcases while_ok hc hb hl n s σ h Z A _ rs o e with z | ⟨R, e1, p⟩
    · exact absurd z hx
    · rw [sWhile_of e1]; exact p
/-! # list comprehensions -/
def lcV (J own : List Nat) (t : VTn) (tt : VB) (fe : VE) : List W → Vs → VR (List W)
  | [], s => if alive s J then .ok [] (wipeV s own) else .bad
  | w :: ws, s => if alive s J then match t w (wipeV s own) with
    | some s1 => match tt s1 with
      | .ok true s2 => match fe s2 with
        | .ok y s3 => match lcV J own t tt fe ws (wipeV s3 own) with
          | .ok ys s4 => .ok (y :: ys) s4
          | _ => .bad
        | _ => .bad
      | .ok false s2 => lcV J own t tt fe ws (wipeV s2 own)
      | _ => .bad
    | none => .bad
    else .bad
def inR (s : Vs) : List Nat → Bool
  | [] => true
  | i :: is => decide (i < s.length) && inR s is
theorem inR_get {s : Vs} : ∀ {k : List Nat} {i : Nat}, inR s k = true → i ∈ k → i < s.length
  | j :: js, i, e, m => by
    simp only [inR, Bool.and_eq_true, decide_eq_true_eq] at e
    rcases List.mem_cons.mp m with rfl | m
    · exact e.1
    · exact inR_get e.2 m
noncomputable def lcVk (J own : List Nat) (t : VTn) (tt : VB) (fe : VE) (ws : List W) (s : Vs) : VR W := if ws.length ≤ 10000000 ∧ inR s own = true then match lcV J own t tt fe ws s with | .ok ys s1 => .ok (.lst ys) s1 | _ => .bad else .bad
noncomputable def qLc (J own : List Nat) (g : VI) (t : VTn) (tt : VB) (fe : VE) : VE := fun s => (g s).bind (lcVk J own t tt fe)
theorem wipeG_get (σ : Sg) : ∀ (vs : List Nat) (j : Nat), j ∉ vs → (wipeG σ vs)[j]? = σ[j]?
  | [], j, _ => rfl
  | v :: vs, j, n => by
    have c : v ≠ j := fun z => n (by simp [z])
    simp only [wipeG]
    rw [List.getElem?_set_ne c]
    exact wipeG_get σ vs j fun z => n (List.mem_cons_of_mem _ z)
theorem wipeG_len (σ : Sg) : ∀ vs : List Nat, (wipeG σ vs).length = σ.length
  | [] => rfl
  | v :: vs => by simp [wipeG, wipeG_len σ vs]
theorem wipeV_in {s : Vs} : ∀ {k : List Nat} {j : Nat} {w : W}, j ∈ k → (wipeV s k)[j]? ≠ some (some w)
  | i :: is, j, w, m, e => by
    simp only [wipeV] at e
    by_cases c : i = j
    · subst c; rw [List.getElem?_set] at e; simp at e
    · rw [List.getElem?_set_ne c] at e
      rcases List.mem_cons.mp m with z | m
      · exact c z.symm
      · exact wipeV_in m e
/-- slots that are told nothing of, over other slots of the heap's side -/
theorem wipeV_out {s : Vs} : ∀ {k : List Nat} {j : Nat}, j ∉ k → (wipeV s k)[j]? = s[j]?
  | [], j, n => rfl
  | i :: is, j, n => by
    have c : i ≠ j := fun z => n (by simp [z])
    simp only [wipeV]
    rw [List.getElem?_set_ne c]
    exact wipeV_out fun z => n (List.mem_cons_of_mem _ z)
theorem RSt.over {own : List Nat} (rs : RSt h Z s σ A) (hl : σ1.length = σ.length) (k : ∀ j, j ∉ own → σ1[j]? = σ[j]?) : RSt h Z (wipeV s own) σ1 A := by
  refine ⟨by rw [wipe_len, hl]; exact rs.1, fun i w e => ?_⟩
  have ni : i ∉ own := fun m => wipeV_in m e
  obtain ⟨u, e1, r⟩ := rs.2 i w (wipe_out e)
  exact ⟨u, (k i ni).trans e1, r⟩
theorem Stp.wipe2 {own : List Nat} (t : Stp M h Z A F (wipeV s own) h1 Z1 A1 F1 s1) : Stp M h Z A F s h1 Z1 A1 F1 (wipeV s1 own) := { t with
  sl := by rw [wipe_len, t.sl, wipe_len]
  quiet := fun i x => by
    rcases wipe_q (s := s1) own i with e | e
    · exact .inl e
    · rcases t.quiet i x with e2 | ⟨e2, k, sb⟩
      · exact .inl (e.trans e2)
      · rcases wipe_q (s := s) own i with e3 | e3
        · exact .inl (e.trans (e2.trans e3))
        · exact .inr ⟨e.trans (e2.trans e3), k, sb⟩ }
theorem lcV_alive {J own : List Nat} {t : VTn} {tt : VB} {fe : VE} {ws : List W} {s s4 : Vs} {ys : List W} (e : lcV J own t tt fe ws s = .ok ys s4) : alive s J = true := by
  cases ws with
  | nil => unfold lcV at e; split at e; assumption; cases e
  | cons w ws => unfold lcV at e; split at e; assumption; cases e
theorem lc_ok {J own Ws : List Nat} {tn : Tn} {t : VTn} {tt : Eb} {fe : Ev} {vt : VB} {ve : VE} (a : STn Ws tn t) (ht : SVB M1 tt vt) (he : SVE M2 fe ve) (hw : ∀ i, i ∈ Ws → i ∈ own) (hj : ∀ i, i ∈ J → i ∉ M1 ++ M2 ∧ i ∉ own) {okp : Hb → Prop} {σ : Sg} {D : Nat} :
    ∀ (ws : List W) (us : List U) (acc : List W) (ua : List U) (G Ga B0 : St) (s : Vs) (h : Hb) (Z : St) (A : Nat → St) (ys : List W) (s4 : Vs), RSt h Z s σ A → Ok h Z A (Un (Un G (Un Ga fun b => b = D)) B0) → Dis G (Un Ga fun b => b = D) → Dis (Un G (Un Ga fun b => b = D)) B0 → ¬ Ga D → RWs h Z ws us G → RWs h Z acc ua Ga → h[D]? = some (.lst ua) →
      (∀ h', Keep h h' B0 → Keep h h' Z → (∀ i, i ∈ J → Keep h h' (A i)) → okp h') → acc.length + ws.length ≤ 10000000 → (∀ i, i ∈ own → i < s.length) → lcV J own t vt ve ws s = .ok ys s4 →
      ∃ h' Z' A' G' uy, lcL okp tn own tt fe D σ us h = .ok () h' ∧ h'[D]? = some (.lst uy) ∧ RWs h' Z' (acc ++ ys) uy G' ∧ ¬ G' D ∧ RSt h' Z' s4 σ A' ∧ Ok h' Z' A' (Un G' fun b => b = D) ∧ Stp (M1 ++ M2) h Z A (Un (Un G (Un Ga fun b => b = D)) B0) s h' Z' A' (Un G' fun b => b = D) s4
  | [], us, acc, ua, G, Ga, B0, s, h, Z, A, ys, s4, rs, o, d1, d2, nd, r, ra, eD, q, len, ho, e => by
    rw [r.nil_inv]
    unfold lcV at e
    split at e
    · cases e
      have hok := q h (.refl _ _) (.refl _ _) fun _ _ => .refl _ _
      refine ⟨h, Z, A, Ga, ua, by simp only [lcL, if_pos hok], eD, by rw [List.append_nil]; exact ra, nd, rs.wipe own, o.fsub fun b x => .inl (.inr x), ?_⟩
      have t0 : Stp (M1 ++ M2) h Z A (Un (Un G (Un Ga fun b => b = D)) B0) s h Z A (Un (Un G (Un Ga fun b => b = D)) B0) s := .refl
      refine ({ t0 with sl := wipe_len s own, quiet := fun i x => ?_ } : Stp (M1 ++ M2) h Z A (Un (Un G (Un Ga fun b => b = D)) B0) s h Z A (Un (Un G (Un Ga fun b => b = D)) B0) (wipeV s own)).fsub fun b x => .inl (.inr x)
      rcases wipe_q (s := s) own i with e | e
      · exact .inl e
      · exact .inr ⟨e, .refl _ _, .refl _⟩
    · cases e
  | w :: ws, us, acc, ua, G, Ga, B0, s, h, Z, A, ys, s4, rs, o, d1, d2, nd, r, ra, eD, q, len, ho, e => by
    obtain ⟨u, us', G1, G2, rfl, d12, x1, x2, rw1, rws⟩ := r.cons_inv
    unfold lcV at e
    split at e
    · rename_i al
      have hok := q h (.refl _ _) (.refl _ _) fun _ _ => .refl _ _
      split at e
      · rename_i s1 et
        have rsw : RSt h Z (wipeV s own) (wipeG σ own) A := rs.over (wipeG_len _ _) (wipeG_get σ own)
        let H : St := Un (Un G2 (Un Ga fun b => b = D)) B0
        have o' : Ok h Z A (Un G1 H) := o.fsub fun b x => by
          rcases x with x | (x | x) | x
          · exact .inl (.inl (x1 b x))
          · exact .inl (.inl (x2 b x))
          · exact .inl (.inr x)
          · exact .inr x
        have dG1 : Dis G1 H := fun b x y => by
          rcases y with (y | y) | y
          · exact d12 b x y
          · exact d1 b (x1 b x) y
          · exact d2 b (.inl (x1 b x)) y
        obtain ⟨σ1, A1, e1, rs1, o1, src, l1, k1⟩ := a.run w u G1 H (wipeV s own) s1 (wipeG σ own) h Z A rw1 dG1 rsw o' et
        have srcH : ∀ i b, A1 i b → A i b ∨ G b := fun i b x => (src i b x).imp id (x1 b)
        have keyJ : ∀ i, i ∈ J → A1 i = A i := fun i hi => (k1 i fun z => (hj i hi).2 (hw i z)).2.2
        have s1J : ∀ i, i ∉ own → σ1[i]? = σ[i]? := fun i hi => ((k1 i fun z => hi (hw i z)).1).trans (wipeG_get σ own i hi)
        have l1σ : σ1.length = σ.length := by
          have := rs1.1; rw [l1, wipe_len, rs.1] at this; exact this.symm
        -- the step up to here
        have t0 : Stp (M1 ++ M2) h Z A (Un (Un G (Un Ga fun b => b = D)) B0) s h Z A1 H (wipeV s1 own) := by
          refine ⟨Nat.le_refl _, fun _ _ _ _ => rfl, fun _ z => z, fun _ z => .inl z, fun i b x => (srcH i b x).elim (fun x => .inl ⟨i, x⟩) fun x => .inr (.inl (.inl (.inl x))), fun b x => .inr (.inl ?_), by rw [wipe_len, l1, wipe_len], fun i hi => ?_⟩
          · rcases x with (x | x) | x
            · exact .inl (.inl (x2 b x))
            · exact .inl (.inr x)
            · exact .inr x
          · by_cases io : i ∈ own
            · rcases wipe_q (s := s1) own i with e | e
              · exact .inl e
              · left
                cases c : (wipeV s1 own)[i]? with
                | none => rw [List.getElem?_eq_none_iff, wipe_len, l1, wipe_len] at c; have := ho i io; omega
                | some v =>
                  cases v with
                  | none => rfl
                  | some w => exact absurd c (wipeV_in io)
            · have nw : i ∉ Ws := fun z => io (hw i z)
              obtain ⟨_, b2, b3⟩ := k1 i nw
              rcases wipe_q (s := s1) own i with e | e
              · exact .inl e
              · rcases wipe_q (s := s) own i with e3 | e3
                · exact .inl (e.trans (b2.trans e3))
                · exact .inr ⟨e.trans (b2.trans e3), .refl _ _, by rw [b3]; exact .refl _⟩
        have hs1 : ∀ i, i ∈ own → i < s1.length := fun i hi => by rw [l1, wipe_len]; exact ho i hi
        -- what is held stands after a step from here
        have stepH : ∀ {M : List Nat} {h2 : Hb} {Z2 : St} {A2 : Nat → St} {F2 : St} {s2 : Vs}, Ok h2 Z2 A2 F2 → Stp M h Z A1 No s1 h2 Z2 A2 F2 s2 → Ok h2 Z2 A2 (Un F2 H) ∧ Dis F2 H ∧ Keep h h2 H ∧ Keep h h2 Z ∧ Stp M h Z A1 H s1 h2 Z2 A2 (Un F2 H) s2 := fun {M h2 Z2 A2 F2 s2} o2 t => by
          obtain ⟨c1, c2, c3⟩ := Ok.hold (F := No) (by rw [no_un]; exact o1) (fun _ x => x.elim) o2 t
          exact ⟨c1, c2, c3, (ok_no o1).keepZ t, by have := t.hold H; rwa [no_un] at this⟩
        have wipeEnd : ∀ {M : List Nat} {h2 : Hb} {Z2 : St} {A2 : Nat → St} {F2 : St} {s2 : Vs}, (∀ i, i ∈ M → i ∈ M1 ++ M2) → Stp M h Z A1 H s1 h2 Z2 A2 F2 s2 → Stp (M1 ++ M2) h Z A (Un (Un G (Un Ga fun b => b = D)) B0) s h2 Z2 A2 F2 (wipeV s2 own) := fun {M h2 Z2 A2 F2 s2} hm t => by
          have t1 := (t.wid hm)
          have t2 : Stp (M1 ++ M2) h Z A1 H (wipeV s1 own) h2 Z2 A2 F2 (wipeV s2 own) := { t1 with
            sl := by rw [wipe_len, wipe_len, t1.sl]
            quiet := fun i hi => by
              by_cases io : i ∈ own
              · left
                cases c : (wipeV s2 own)[i]? with
                | none => rw [List.getElem?_eq_none_iff, wipe_len, t1.sl] at c; have := hs1 i io; omega
                | some v =>
                  cases v with
                  | none => rfl
                  | some w => exact absurd c (wipeV_in io)
              · rw [wipeV_out io, wipeV_out io]
                exact t1.quiet i hi }
          have := t0.trans t2
          exact this.wid fun i x => (List.mem_append.mp x).elim id id
        have p := ht.run s1 σ1 h Z A1 rs1 (ok_no o1)
        have qJ : ∀ {M : List Nat} {h2 : Hb} {Z2 : St} {A2 : Nat → St} {F2 : St} {s2 : Vs}, (∀ i, i ∈ M → i ∈ M1 ++ M2) → Stp M h Z A1 H s1 h2 Z2 A2 F2 s2 → alive (wipeV s2 own) J = true → Keep h h2 H → Keep h h2 Z → ∀ hh, Keep h2 hh B0 → Keep h2 hh Z2 → (∀ i, i ∈ J → Keep h2 hh (A2 i)) → okp hh := fun {M h2 Z2 A2 F2 s2} hm t al2 kH kz hh kb kz2 ka => by
          refine q hh (fun b x => (kb b x).trans (kH b (.inr x))) (fun b x => (kz2 b (t.zin b x)).trans (kz b x)) fun i hi b x => ?_
          rcases t.quiet i (fun z => (hj i hi).1 (hm i z)) with e | ⟨_, k, sb⟩
          · obtain ⟨w, ew⟩ := alive_get al2 hi
            have := wipe_out ew
            rw [e] at this; cases this
          · rw [← keyJ i hi] at x
            exact (ka i hi b (sb b x)).trans (k b x)
        cases ev : vt s1 with
        | bad => rw [ev] at e; cases e
        | ex x s2 => rw [ev] at e; cases e
        | ok bv s2 =>
          rw [ev] at e p
          obtain ⟨bu, h2, Z2, A2, F2, e2, ⟨rfl, rfl⟩, rs2, o2, t2⟩ := p
          obtain ⟨oH, dH, kH, kz, tH⟩ := stepH o2 t2
          rw [no_un] at oH tH
          have eL : lcL okp tn own tt fe D σ (u :: us') h = lcB fe D σ1 (lcL okp tn own tt fe D σ us') bu h2 := by
            simp only [lcL, if_pos hok, e1, lcT, e2, calm_ok, bind_ok]
          rw [eL]
          have ovr : ∀ {h2 : Hb} {Z2 : St} {s2 : Vs} {A2 : Nat → St}, RSt h2 Z2 s2 σ1 A2 → RSt h2 Z2 (wipeV s2 own) σ A2 := fun r => r.over l1σ.symm fun j hj => (s1J j hj).symm
          cases bu with
          | false =>
            simp only [] at e
            have al2 := lcV_alive e
            obtain ⟨h', Z', A', G', uy, a1, a2, a3, a4, a5, a6, a7⟩ := lc_ok a ht he hw hj ws us' acc ua G2 Ga B0 (wipeV s2 own) h2 Z2 A2 ys s4 (ovr rs2) oH (fun b x => d1 b (x2 b x)) (fun b x => d2 b (x.imp (x2 b) id)) nd
              (RWs.frame kz tH.zin ws (kH.sub fun b x => .inl (.inl x)) (.refl _) rws) (RWs.frame kz tH.zin acc (kH.sub fun b x => .inl (.inr (.inl x))) (.refl _) ra) (by rw [kH D (.inl (.inr (.inr rfl)))]; exact eD)
              (qJ (fun i x => List.mem_append_left _ x) tH al2 kH kz) (by simp at len; omega) (fun i hi => by rw [wipe_len, t2.sl]; exact hs1 i hi) e
            exact ⟨h', Z', A', G', uy, a1, a2, a3, a4, a5, a6, ((wipeEnd (fun i x => List.mem_append_left _ x) tH).trans a7).wid fun i x => (List.mem_append.mp x).elim id id⟩
          | true =>
            simp only [] at e
            have p3 := he.run s2 σ1 h2 Z2 A2 rs2 (ok_no oH)
            cases ev3 : ve s2 with
            | bad => rw [ev3] at e; cases e
            | ex x s3 => rw [ev3] at e; cases e
            | ok y s3 =>
              rw [ev3] at e p3
              simp only [] at e
              obtain ⟨v, h3, Z3, A3, F3, e3, ry, rs3, o3, t3⟩ := p3
              have t23 := t2.trans t3
              obtain ⟨oH3, dH3, kH3, kz3, tH3⟩ := stepH o3 t23
              split at e
              · rename_i ys' s4' er
                cases e
                have al3 := lcV_alive er
                have ry : RW h3 Z3 y v F3 := ry
                have eD3 : h3[D]? = some (.lst ua) := by rw [kH3 D (.inl (.inr (.inr rfl)))]; exact eD
                have lD : D < h3.length := (List.getElem?_eq_some_iff.mp eD3).1
                have hd : H D := .inl (.inr (.inr rfl))
                have nA3 : ∀ i, ¬ A3 i D := fun i z => oH3.af i D z (.inr hd)
                have nZ3 : ¬ Z3 D := oH3.fz D (.inr hd)
                have nF3 : ¬ F3 D := fun z => dH3 D z hd
                have nG2 : ¬ G2 D := fun z => d1 D (x2 D z) (.inr rfl)
                have nB0 : ¬ B0 D := fun z => d2 D (.inr (.inr rfl)) z
                have kset : ∀ {X : St}, ¬ X D → Keep h3 (h3.set D (.lst (ua ++ [v]))) X := fun n => put_keep n
                have hlen : ua.length ≤ 10000000 := by rw [← ra.length]; simp at len; omega
                have ek : lcB fe D σ1 (lcL okp tn own tt fe D σ us') true h2 = lcL okp tn own tt fe D σ us' (h3.set D (.lst (ua ++ [v]))) := by
                  simp only [lcB, e3, calm_ok, bind_ok, lcA, eD3, if_pos (small_line' hlen)]
                rw [ek]
                have rs4 : RSt (h3.set D (.lst (ua ++ [v]))) Z3 (wipeV s3 own) σ A3 := by
                  have r := ovr rs3
                  refine ⟨r.1, fun i w ew => ?_⟩
                  obtain ⟨u', e1', r1⟩ := r.2 i w ew
                  exact ⟨u', e1', RW.frame (kset nZ3) (.refl _) w (kset (nA3 i)) (.refl _) r1⟩
                have o4 : Ok (h3.set D (.lst (ua ++ [v]))) Z3 A3 (Un (Un G2 (Un (Un Ga F3) fun b => b = D)) B0) := by
                  have := oH3.fsub (F1 := Un (Un G2 (Un (Un Ga F3) fun b => b = D)) B0) fun b x => by
                    rcases x with (x | (x | x) | x) | x
                    · exact .inr (.inl (.inl x))
                    · exact .inr (.inl (.inr (.inl x)))
                    · exact .inl x
                    · exact .inr (.inl (.inr (.inr x)))
                    · exact .inr (.inr x)
                  exact ⟨fun i b x => by rw [List.length_set]; exact this.la i b x, fun b x => by rw [List.length_set]; exact this.lf b x, fun b x => by rw [List.length_set]; exact this.lz b x, this.aa, this.af, this.az, this.fz⟩
                have t4 : Stp (M1 ++ M2) h Z A1 H s1 (h3.set D (.lst (ua ++ [v]))) Z3 A3 (Un F3 H) s3 := ⟨by rw [List.length_set]; exact tH3.len, fun b lb na nf => by
                    have : D ≠ b := fun z => nf (z ▸ hd)
                    rw [List.getElem?_set_ne this]; exact tH3.same b lb na nf, tH3.zin, tH3.zout, tH3.aout, tH3.fout, tH3.sl, fun i hi => by
                    rcases tH3.quiet i hi with e | ⟨e, k, sb⟩
                    · exact .inl e
                    · refine .inr ⟨e, fun b x => ?_, sb⟩
                      have : D ≠ b := fun z => o1.af i b x (z ▸ hd)
                      rw [List.getElem?_set_ne this]; exact k b x⟩
                have kH4 : ∀ {X : St}, Sub X H → ¬ X D → Keep h (h3.set D (.lst (ua ++ [v]))) X := fun sx nx b x => (kset nx b x).trans (kH3 b (sx b x))
                have kz4 : Keep h (h3.set D (.lst (ua ++ [v]))) Z := fun b x => (kset nZ3 b (tH3.zin b x)).trans (kz3 b x)
                have dGF : Dis Ga F3 := fun b x z => dH3 b z (.inl (.inr (.inl x)))
                have racc : RWs (h3.set D (.lst (ua ++ [v]))) Z3 (acc ++ [y]) (ua ++ [v]) (Un Ga F3) := by
                  have r1 := RWs.frame (h' := h3.set D (.lst (ua ++ [v]))) kz4 tH3.zin acc (kH4 (fun b x => .inl (.inr (.inl x))) nd) (.refl _) ra
                  have r2 := RW.frame (h' := h3.set D (.lst (ua ++ [v]))) (kset nZ3) (.refl _) y (kset nF3) (.refl _) ry
                  exact (RWs.append (fun b x z => dGF b x (z.elim id False.elim)) r1 (RWs.cons (F2 := No) (fun _ _ x => x.elim) r2 .nil)).mono fun b x => x.imp id fun z => z.elim id False.elim
                have q4 : ∀ hh, Keep (h3.set D (.lst (ua ++ [v]))) hh B0 → Keep (h3.set D (.lst (ua ++ [v]))) hh Z3 → (∀ i, i ∈ J → Keep (h3.set D (.lst (ua ++ [v]))) hh (A3 i)) → okp hh := fun hh k1 k2 k3 =>
                  qJ (fun i x => x) tH3 al3 kH3 kz3 hh (fun b x => (k1 b x).trans (kset nB0 b x)) (fun b x => (k2 b x).trans (kset nZ3 b x)) fun i hi b x => (k3 i hi b x).trans (kset (nA3 i) b x)
                obtain ⟨h', Z', A', G', uy, a1, a2, a3, a4, a5, a6, a7⟩ := lc_ok a ht he hw hj ws us' (acc ++ [y]) (ua ++ [v]) G2 (Un Ga F3) B0 (wipeV s3 own) (h3.set D (.lst (ua ++ [v]))) Z3 A3 ys' s4 rs4 o4
                  (fun b x z => by
                    rcases z with (z | z) | z
                    · exact d1 b (x2 b x) (.inl z)
                    · exact dH3 b z (.inl (.inl x))
                    · exact d1 b (x2 b x) (.inr z))
                  (fun b x z => by
                    rcases x with x | (x | x) | x
                    · exact d2 b (.inl (x2 b x)) z
                    · exact d2 b (.inr (.inl x)) z
                    · exact dH3 b x (.inr z)
                    · exact d2 b (.inr (.inr x)) z)
                  (fun z => z.elim nd nF3)
                  (RWs.frame kz4 tH3.zin ws (kH4 (fun b x => .inl (.inl x)) nG2) (.refl _) rws) racc (by rw [List.getElem?_set_self lD]) q4 (by simp at len ⊢; omega) (fun i hi => by rw [wipe_len, tH3.sl]; exact hs1 i hi) er
                refine ⟨h', Z', A', G', uy, a1, a2, by simpa using a3, a4, a5, a6, ?_⟩
                have tE := (wipeEnd (fun i x => x) t4).fsub (F2 := Un (Un G2 (Un (Un Ga F3) fun b => b = D)) B0) fun b x => by
                  rcases x with (x | (x | x) | x) | x
                  · exact .inr (.inl (.inl x))
                  · exact .inr (.inl (.inr (.inl x)))
                  · exact .inl x
                  · exact .inr (.inl (.inr (.inr x)))
                  · exact .inr (.inr x)
                exact (tE.trans a7).wid fun i x => (List.mem_append.mp x).elim id id
              · cases e
      · cases e
    · cases e
theorem sv_lc {J own Ws : List Nat} {fi : Si} {gi : VI} {tn : Tn} {t : VTn} {tt : Eb} {fe : Ev} {vt : VB} {ve : VE} (c : SVI M J fi gi) (a : STn Ws tn t) (ht : SVB M1 tt vt) (he : SVE M2 fe ve) (hw : ∀ i, i ∈ Ws → i ∈ own) (hj : ∀ i, i ∈ J → i ∉ M1 ++ M2 ∧ i ∉ own) : SVE (M ++ (M1 ++ M2)) (eLc fi tn own tt fe) (qLc J own gi t vt ve) := by
  refine ⟨fun s σ h Z A rs o => ?_⟩
  have p := c.run s σ h Z A rs o
  unfold eLc qLc
  cases e : gi s with
  | bad => trivial
  | ex x s' => rw [e] at p; obtain ⟨y, h1, Z1, A1, e1, rx, rs, o1, st⟩ := p; rw [e1]; exact ⟨y, h1, Z1, A1, rfl, rx, rs, o1, st.wid fun i x => List.mem_append_left _ x⟩
  | ok ws s1 =>
    rw [e] at p
    obtain ⟨src, h1, Z1, A1, F1, e1, ⟨G, B0, r, d, sg, sb, q⟩, rs1, o1, st⟩ := p
    rw [e1]
    simp only [vbind_ok, bind_ok]
    unfold lcVk
    split
    · rename_i hc
      split
      · rename_i ys s4 el
        have old : ∀ b, b < h1.length → (h1 ++ [O.lst []])[b]? = h1[b]? := fun b lb => app_old lb
        have kz : Keep h1 (h1 ++ [.lst []]) Z1 := fun b z => old b (o1.lz b z)
        have kF : Keep h1 (h1 ++ [.lst []]) F1 := fun b z => old b (o1.lf b z)
        have kA : ∀ i, Keep h1 (h1 ++ [.lst []]) (A1 i) := fun i b z => old b (o1.la i b z)
        have len1 : (h1 ++ [O.lst []]).length = h1.length + 1 := by simp
        have rs2 : RSt (h1 ++ [.lst []]) Z1 s1 σ A1 := ⟨rs1.1, fun i w ew => by
          obtain ⟨u, e2, r2⟩ := rs1.2 i w ew
          exact ⟨u, e2, RW.frame kz (.refl _) w (kA i) (.refl _) r2⟩⟩
        have ltF : ∀ b, F1 b → b ≠ h1.length := fun b x => by have := o1.lf b x; omega
        have o2 : Ok (h1 ++ [.lst []]) Z1 A1 (Un (Un G (Un No fun b => b = h1.length)) B0) := by
          refine ⟨fun i b x => by rw [len1]; have := o1.la i b x; omega, fun b x => ?_, fun b x => by rw [len1]; have := o1.lz b x; omega, o1.aa, fun i b x y => ?_, o1.az, fun b x z => ?_⟩
          · rw [len1]
            rcases x with (x | x | x) | x
            · have := o1.lf b (sg b x); omega
            · exact x.elim
            · omega
            · have := o1.lf b (sb b x); omega
          · rcases y with (y | y | y) | y
            · exact o1.af i b x (sg b y)
            · exact y
            · have := o1.la i b x; omega
            · exact o1.af i b x (sb b y)
          · rcases x with (x | x | x) | x
            · exact o1.fz b (sg b x) z
            · exact x
            · have := o1.lz b z; omega
            · exact o1.fz b (sb b x) z
        obtain ⟨h', Z', A', G', uy, a1, a2, a3, a4, a5, a6, a7⟩ := lc_ok (J := J) a ht he hw hj ws src.xs [] [] G No B0 s1 (h1 ++ [.lst []]) Z1 A1 ys s4 rs2 o2
          (fun b x z => z.elim id fun z => ltF b (sg b x) z)
          (fun b x z => by
            rcases x with x | x | x
            · exact d b x z
            · exact x
            · exact ltF b (sb b z) x)
          (fun x => x) (RWs.frame kz (.refl _) ws (kF.sub sg) (.refl _) r) .nil (by simp) (fun hh k1 k2 k3 => q hh (fun b x => (k1 b x).trans (kF b (sb b x))) (fun b x => (k2 b x).trans (kz b x)) fun i hi b x => (k3 i hi b x).trans (kA i b x))
          (by simpa using hc.1) (fun i hi => inR_get hc.2 hi) el
        have eK : lcK tn own tt fe σ src h1 = .ok (.ref h1.length) h' := by unfold lcK; rw [a1]; rfl
        rw [eK]
        refine ⟨_, h', Z', A', Un G' fun b => b = h1.length, rfl, ?_, a5, a6, ?_⟩
        · show RW h' Z' (.lst ys) (.ref h1.length) _
          unfold RW
          exact ⟨h1.length, uy, G', rfl, a2, .inr rfl, a4, fun b => .inl, by simpa using a3⟩
        · have t0 : Stp (M1 ++ M2) h1 Z1 A1 F1 s1 (h1 ++ [.lst []]) Z1 A1 (Un (Un G (Un No fun b => b = h1.length)) B0) s1 := by
            refine ⟨by rw [len1]; omega, fun b lb _ _ => old b lb, fun _ z => z, fun _ z => .inl z, fun i b x => .inl ⟨i, x⟩, fun b x => ?_, rfl, fun i _ => .inr ⟨rfl, kA i, .refl _⟩⟩
            rcases x with (x | x | x) | x
            · exact .inr (.inl (sg b x))
            · exact x.elim
            · exact .inr (.inr (by omega))
            · exact .inr (.inl (sb b x))
          exact (st.trans (t0.trans a7)).wid fun i x => by
            rcases List.mem_append.mp x with x | x
            · exact List.mem_append_left _ x
            · exact List.mem_append_right _ ((List.mem_append.mp x).elim id id)
      · trivial
    · trivial
/-! # a def -/
def finV : List Bool → Vs → Vs
  | [], _ => []
  | true :: bs, o :: s => o :: finV bs s
  | false :: bs, _ :: s => none :: finV bs s
  | _ :: bs, [] => none :: finV bs []
def vOut (io : List Bool) (r : VSR) : VR W := match r with
  | .rt w s => .ok w (finV io s)
  | .nx s => .ok (.im .non) (finV io s)
  | .ex x s => .ex x (finV io s)
  | _ => .bad
def vRun (n np : Nat) (io : List Bool) (b : VS) : VF := fun ws => if ws.length = np then vOut io (b (ws.map some ++ List.replicate (n - np) none)) else .bad
theorem vRun_ar {n np : Nat} {io : List Bool} {b : VS} : ∀ ws, ws.length ≠ np → vRun n np io b ws = .bad := fun ws e => if_neg e
theorem finV_len : ∀ (io : List Bool) (s : Vs), (finV io s).length = io.length
  | [], s => rfl
  | true :: bs, o :: s => by simp [finV, finV_len bs s]
  | false :: bs, o :: s => by simp [finV, finV_len bs s]
  | true :: bs, [] => by simp [finV, finV_len bs []]
  | false :: bs, [] => by simp [finV, finV_len bs []]
theorem finV_get {w : W} : ∀ {io : List Bool} {s : Vs} {j : Nat}, (finV io s)[j]? = some (some w) → s[j]? = some (some w) ∧ io[j]? = some true
  | [], s, j, e => by simp [finV] at e
  | true :: bs, o :: s, 0, e => by simp [finV] at e; subst e; exact ⟨rfl, rfl⟩
  | true :: bs, o :: s, j + 1, e => by simp [finV] at e; simpa using finV_get e
  | false :: bs, o :: s, 0, e => by simp [finV] at e
  | false :: bs, o :: s, j + 1, e => by simp [finV] at e; simpa using finV_get e
  | true :: bs, [], 0, e => by simp [finV] at e
  | false :: bs, [], 0, e => by simp [finV] at e
  | true :: bs, [], j + 1, e => by simp [finV] at e; have := finV_get e; simp at this
  | false :: bs, [], j + 1, e => by simp [finV] at e; have := finV_get e; simp at this
theorem vf_run {n np : Nat} {io : List Bool} {b : Sv} {vb : VS} (hb : SVS K [] b vb) (hn : np ≤ n) (hio : io.length = np) (hK : ∀ j : Nat, io[j]? = some true → j ∈ K) : SVF np (runDef n np b) (vRun n np io vb) := by
  refine ⟨fun ws us h Z A hl rs o => ?_⟩
  have lu : us.length = np := by have := rs.1; simp at this; omega
  unfold vRun runDef
  rw [if_pos hl, if_pos lu]
  have rs1 : RSt h Z (ws.map some ++ List.replicate (n - np) none) (us.map some ++ List.replicate (n - np) none) A := by
    refine ⟨by simp [hl, lu], fun i w e => ?_⟩
    by_cases c : i < np
    · rw [List.getElem?_append_left (by simpa [hl] using c)] at e
      obtain ⟨u, e1, r⟩ := rs.2 i w e
      exact ⟨u, by rw [List.getElem?_append_left (by simpa [lu] using c)]; exact e1, r⟩
    · rw [List.getElem?_append_right (by simp [hl]; omega)] at e
      rw [List.getElem?_replicate] at e
      split at e <;> cases e
  have p := hb.run _ _ h Z A rs1 o
  have fin : ∀ {h' : Hb} {Z' : St} {A' : Nat → St} {F' : St} {s' : Vs} {σ' : Sg}, RSt h' Z' s' σ' A' → Ok h' Z' A' F' → Sts [] h Z A No (ws.map some ++ List.replicate (n - np) none) h' Z' A' F' s' → KK K [] (us.map some ++ List.replicate (n - np) none) σ' →
      ∃ B, RSt h' Z' (finV io s') (us.map some) B ∧ Ok h' Z' B F' ∧ Sts [] h Z A No (ws.map some) h' Z' B F' (finV io s') := fun {h' Z' A' F' s' σ'} r o' t k => by
    refine ⟨A', ⟨by rw [finV_len, hio]; simp [lu], fun i w e => ?_⟩, o', ⟨t.len, t.same, t.zin, t.zout, t.aout, t.fout, by rw [finV_len, hio]; simp [hl], fun i hi => by cases hi⟩⟩
    · obtain ⟨e1, e2⟩ := finV_get e
      obtain ⟨u, e3, r3⟩ := r.2 i w e1
      refine ⟨u, ?_, r3⟩
      have := k i (.inl (hK i e2))
      have li : i < np := by rw [← hio]; exact (List.getElem?_eq_some_iff.mp e2).1
      rw [this, List.getElem?_append_left (by simpa [lu] using li)] at e3
      exact e3
  cases ev : vb (ws.map some ++ List.replicate (n - np) none) with
  | bad => trivial
  | bk s' => trivial
  | ct s' => trivial
  | nx s' =>
    rw [ev] at p
    obtain ⟨σ', h', Z', A', e, a, b, c, d⟩ := p
    rw [e]
    obtain ⟨B, b1, b2, b3⟩ := fin a b c d
    exact ⟨.non, h', Z', B, No, rfl, .mk_im rp_non, b1, b2, b3⟩
  | rt w s' =>
    rw [ev] at p
    obtain ⟨u, σ', h', Z', A', F', e, x, a, b, c, d⟩ := p
    rw [e]
    obtain ⟨B, b1, b2, b3⟩ := fin a b c d
    exact ⟨u, h', Z', B, F', rfl, x, b1, b2, b3⟩
  | ex x s' =>
    rw [ev] at p
    obtain ⟨y, σ', h', Z', A', e, x, a, b, c, d⟩ := p
    rw [e]
    obtain ⟨B, b1, b2, b3⟩ := fin a b c d
    exact ⟨y, h', Z', B, rfl, x, b1, b2, b3⟩
def vNo : VF := fun _ => .bad
theorem vf_no {np : Nat} {r : GC} : SVF np r vNo := ⟨fun _ _ _ _ _ _ _ _ => trivial⟩
/-! arguments that are not given -/
def dflV (ps : List P) (n : Nat) (q : VF) : VF := fun ws => match q (ws ++ ps.map .im) with
  | .ok w s => .ok w (s.take n)
  | .ex x s => .ex x (s.take n)
  | .bad => .bad
end
end Lz
namespace Lz
open PySem PySem.Spec PyProof.Rows L2
open Classical
/-! # the end: the law -/
theorem sub_no (F : St) : Sub No F := fun _ x => x.elim
theorem law_ofV {r : GC} {q : VF} (c : SVF 1 r q) {ns : List Int} {fs : Vs} (e : q [.im (.fr (ns.map .int))] = .ok (.im (.bl true)) fs) : ∃ h', r [.ref 0] [.fro (ns.map U.int)] = .ok (.bl true) h' := by
  have rs : RSt [.fro (ns.map U.int)] (fun a => a = 0) ([W.im (.fr (ns.map .int))].map some) ([U.ref 0].map some) (fun _ => No) := by
    refine ⟨rfl, fun i w e => ?_⟩
    cases i with
    | succ i => simp at e
    | zero =>
      simp at e; subst e
      refine ⟨_, rfl, .mk_im ?_⟩
      unfold RP
      exact ⟨0, _, rfl, rfl, rfl, rps_ints⟩
  have p := c.run _ _ _ _ _ rfl rs ⟨fun _ _ x => x.elim, fun _ x => x.elim, fun a x => by subst x; simp, fun _ _ _ x => x.elim, fun _ _ _ x => x, fun _ _ x => x.elim, fun _ x => x.elim⟩
  rw [e] at p
  obtain ⟨u, h', Z', A', F', e1, r1, _⟩ := p
  rw [rw_bl r1] at e1
  exact ⟨h', e1⟩
theorem toUs_map : ∀ ps : List P, toUs ps = ps.map P.toU
  | [] => rfl
  | p :: ps => by unfold toUs; simp [toUs_map ps]
theorem vf_dfl {n k : Nat} {r : GC} {q : VF} (c : SVF (n + k) r q) {ds : List U} (ps : List P) (e : toUs ps = ds) (hp : pures ps = true) (hk : ps.length = k) : SVF n (fun us h => r (us ++ ds) h) (dflV ps n q) := by
  refine ⟨fun ws us h Z A hl rs o => ?_⟩
  have lu : us.length = n := by have := rs.1; simp at this; omega
  have rd : RPs h Z ps ds := by rw [← e]; exact rps_pure ps hp
  have rs1 : RSt h Z ((ws ++ ps.map W.im).map some) ((us ++ ds).map some) (fun i a => i < n ∧ A i a) := by
    refine ⟨by have := rd.length; simp [hl, lu]; omega, fun i w ew => ?_⟩
    by_cases c : i < n
    · rw [List.map_append, List.getElem?_append_left (by simpa [hl] using c)] at ew
      obtain ⟨u, e1, r1⟩ := rs.2 i w ew
      exact ⟨u, by rw [List.map_append, List.getElem?_append_left (by simpa [lu] using c)]; exact e1, r1.mono fun a x => ⟨c, x⟩⟩
    · rw [List.map_append, List.getElem?_append_right (by simp [hl]; omega)] at ew
      simp only [List.length_map, hl, List.map_map, List.getElem?_map, Option.map_eq_some_iff, Function.comp, Option.some.injEq] at ew
      obtain ⟨p, e1, rfl⟩ := ew
      obtain ⟨u, e2, r2⟩ := rd.get e1
      exact ⟨u, by rw [List.map_append, List.getElem?_append_right (by simp [lu]; omega)]; simp [lu, e2], .mk_im r2⟩
  have o1 : Ok h Z (fun i a => i < n ∧ A i a) No := ⟨fun i a x => o.la i a x.2, o.lf, o.lz, fun i j a x y => o.aa i j a x.2 y.2, fun _ _ _ x => x, fun i a x => o.az i a x.2, o.fz⟩
  have p := c.run (ws ++ ps.map .im) (us ++ ds) h Z _ (by simp [hl, hk]) rs1 o1
  have fin : ∀ {h' : Hb} {Z' : St} {A' : Nat → St} {F' : St} {fs : Vs}, RSt h' Z' fs ((us ++ ds).map some) A' → Sts [] h Z (fun i a => i < n ∧ A i a) No ((ws ++ ps.map W.im).map some) h' Z' A' F' fs → RSt h' Z' (fs.take n) (us.map some) A' ∧ Sts [] h Z A No (ws.map some) h' Z' A' F' (fs.take n) := fun {h' Z' A' F' fs} r t => by
    have hfs : fs.length = n + ds.length := by rw [r.1]; simp [lu]
    have up : ∀ a, Fro h (fun i a => i < n ∧ A i a) No a → Fro h A No a := fun a x => x.imp (fun ⟨j, y⟩ => ⟨j, y.2⟩) id
    refine ⟨⟨by simp [hfs, lu], fun i w ew => ?_⟩, ⟨t.len, fun a la na nf => t.same a la (fun i x => na i x.2) nf, t.zin, fun a z => (t.zout a z).imp id (up a), fun i a x => up a (t.aout i a x), fun a x => up a (t.fout a x), by simp [hfs, hl], fun i hi => by cases hi⟩⟩
    rw [List.getElem?_take] at ew
    split at ew
    · rename_i lt
      obtain ⟨u, e1, r1⟩ := r.2 i w ew
      rw [List.map_append, List.getElem?_append_left (by simpa [lu] using lt)] at e1
      exact ⟨u, e1, r1⟩
    · cases ew
  unfold dflV
  cases eq : q (ws ++ ps.map .im) with
  | bad => trivial
  | ex x fs =>
    rw [eq] at p
    obtain ⟨y, h', Z', A', e1, a, b, c, d⟩ := p
    obtain ⟨f1, f2⟩ := fin b d
    exact ⟨y, h', Z', A', e1, a, f1, c, f2⟩
  | ok w fs =>
    rw [eq] at p
    obtain ⟨u, h', Z', A', F', e1, a, b, c, d⟩ := p
    obtain ⟨f1, f2⟩ := fin b d
    exact ⟨u, h', Z', A', F', e1, a, f1, c, f2⟩
theorem dflV_ar {n k : Nat} {q : VF} {ps : List P} (hk : ps.length = k) (hq : ∀ ws, ws.length ≠ n + k → q ws = .bad) : ∀ ws, ws.length ≠ n → dflV ps n q ws = .bad := fun ws e => by
  unfold dflV
  rw [hq _ (by simp [hk]; omega)]
theorem vNo_ar {n : Nat} : ∀ ws, ws.length ≠ n → vNo ws = .bad := fun _ _ => rfl
theorem or_app {K L : List Nat} {p : Nat → Prop} (h : ∀ j, j ∈ K ++ L → p j) : ∀ j, j ∈ K ∨ j ∈ L → p j := fun j x => h j (List.mem_append.mpr x)
theorem or_app3 {K L J : List Nat} {p : Nat → Prop} (h : ∀ j, j ∈ K ++ (L ++ J) → p j) : ∀ j, (j ∈ K ∨ j ∈ L ∨ j ∈ J) → p j := fun j x => h j (by simpa using x)
theorem and_app {J M O : List Nat} (h : ∀ j, j ∈ J → j ∉ M ++ O) : ∀ j, j ∈ J → j ∉ M ∧ j ∉ O := fun j x => ⟨fun z => h j x (List.mem_append_left _ z), fun z => h j x (List.mem_append_right _ z)⟩

/-! # running by rewriting -/
section
variable {s : Vs}
def qVarK (o : Option (Option W)) (i : Nat) (s : Vs) : VR W := match o with | some (some (.im p)) => .ok (.im p) s | some (some w) => .ok w (s.set i none) | _ => .bad
@[simp] theorem qVar_run (i : Nat) : qVar i s = qVarK s[i]? i s := rfl
@[simp] theorem qVarK_im (p : P) (i : Nat) : qVarK (some (some (.im p))) i s = .ok (.im p) s := rfl
@[simp] theorem qVarK_lst (p : List W) (i : Nat) : qVarK (some (some (.lst p))) i s = .ok (.lst p) (s.set i none) := rfl
@[simp] theorem qVarK_tw (p : List W) (i : Nat) : qVarK (some (some (.tw p))) i s = .ok (.tw p) (s.set i none) := rfl
@[simp] theorem qVarK_ins (c : Nat) (ns : List Str) (p : List W) (i : Nat) : qVarK (some (some (.ins c ns p))) i s = .ok (.ins c ns p) (s.set i none) := rfl
@[simp] theorem qShr_run (i : Nat) : qShr i s = (match s[i]? with | some (some w) => .ok (.im w.frz) (s.set i (some (.im w.frz))) | _ => .bad) := rfl
@[simp] theorem qCon_run (p : P) : qCon p s = .ok (.im p) s := rfl
def hVarK (o : Option (Option W)) (i : Nat) (s : Vs) : VR Hd := match o with | some (some (.im p)) => .ok (.v (.im p)) s | some (some _) => .ok (.at i []) s | _ => .bad
@[simp] theorem hVar_run (i : Nat) : hVar i s = hVarK s[i]? i s := rfl
@[simp] theorem hVarK_im (p : P) (i : Nat) : hVarK (some (some (.im p))) i s = .ok (.v (.im p)) s := rfl
@[simp] theorem hVarK_lst (p : List W) (i : Nat) : hVarK (some (some (.lst p))) i s = .ok (.at i []) s := rfl
@[simp] theorem hVarK_tw (p : List W) (i : Nat) : hVarK (some (some (.tw p))) i s = .ok (.at i []) s := rfl
@[simp] theorem hVarK_ins (c : Nat) (ns : List Str) (p : List W) (i : Nat) : hVarK (some (some (.ins c ns p))) i s = .ok (.at i []) s := rfl
@[simp] theorem hE_run (g : VE) : hE g s = (g s).bind hEk := rfl
@[simp] theorem hEk_run (w : W) : hEk w s = .ok (.v w) s := rfl
@[simp] theorem qPk_run (g : VH) : qPk g s = (g s).bind qPkk := rfl
@[simp] theorem qPkk_v (w : W) : qPkk (.v w) s = .ok w s := rfl
@[simp] theorem getP_nil (w : W) : getP w [] = some w := by cases w <;> rfl
@[simp] theorem rd_v (w : W) : rd s (.v w) = some w := rfl
@[simp] theorem rd_at0 (i : Nat) : rd s (.at i []) = (match s[i]? with | some (some w) => some w | _ => none) := by
  simp only [rd, getP_nil]
  all_goals (rcases s[i]? with _ | _ | _ <;> rfl)
@[simp] theorem rd_at1 (i k : Nat) (p : List Nat) : rd s (.at i (k :: p)) = (match s[i]? with | some (some w) => getP w (k :: p) | _ => none) := rfl
@[simp] theorem getP_lst (ws : List W) (k : Nat) (p : List Nat) : getP (.lst ws) (k :: p) = (match ws[k]? with | some w => getP w p | none => none) := rfl
@[simp] theorem qOp1_run (q : W → Option W) (g : VH) : qOp1 q g s = (g s).bind (fin1 q) := rfl
@[simp] theorem fin1_run (q : W → Option W) (d : Hd) : fin1 q d s = (match (rd s d).bind q with | some x => .ok x s | none => .bad) := rfl
@[simp] theorem qOp2_run (q : W → W → Option W) (ga gb : VH) : qOp2 q ga gb s = (ga s).bind (qOp2k q gb) := rfl
@[simp] theorem qOp2k_run (q : W → W → Option W) (gb : VH) (d : Hd) : qOp2k q gb d s = (gb s).bind (fin2 q d) := rfl
@[simp] theorem fin2_run (q : W → W → Option W) (d1 d2 : Hd) : fin2 q d1 d2 s = (match rd s d1, rd s d2 with | some w1, some w2 => (match q w1 w2 with | some x => .ok x s | none => .bad) | _, _ => .bad) := rfl
@[simp] theorem kNil_run : kNil s = .ok [] s := rfl
@[simp] theorem kCons_run (g : VH) (gs : VK2) : kCons g gs s = (g s).bind (kC1 gs) := rfl
@[simp] theorem kC1_run (gs : VK2) (d : Hd) : kC1 gs d s = (gs s).bind (kC2 d) := rfl
@[simp] theorem kC2_run (d : Hd) (ds : List Hd) : kC2 d ds s = .ok (d :: ds) s := rfl
@[simp] theorem rds_nil : rds s [] = some [] := rfl
@[simp] theorem rds_cons (d : Hd) (ds : List Hd) : rds s (d :: ds) = (match rd s d, rds s ds with | some w, some ws => some (w :: ws) | _, _ => none) := rfl
@[simp] theorem qBi_run (q : List W → Option W) (gs : VK2) : qBi q gs s = (gs s).bind (finK q) := rfl
@[simp] theorem finK_run (q : List W → Option W) (ds : List Hd) : finK q ds s = (match (rds s ds).bind q with | some x => .ok x s | none => .bad) := rfl
@[simp] theorem hIx_run (ga gb : VH) : hIx ga gb s = (ga s).bind (hIxk gb) := rfl
@[simp] theorem hIxk_run (gb : VH) (d : Hd) : hIxk gb d s = (gb s).bind (ixH d) := rfl
/-- an item of an owned list -/
def ixL (j : Nat) (p : List Nat) (ws : List W) (i : Int) (s : Vs) : VR Hd := match ixN ws.length i with
  | some k => match ws[k]? with
    | some (.im x) => .ok (.v (.im x)) s
    | some _ => .ok (.at j (p ++ [k])) s
    | none => .bad
  | none => .bad
@[simp] theorem ixH_v (w : W) (i : Int) : ixH (.v w) (.v (.im (.int i))) s = (match ixE w i with | some x => .ok (.v x) s | none => .bad) := rfl
theorem ixH_at (j : Nat) (p : List Nat) (i : Int) : ixH (.at j p) (.v (.im (.int i))) s = (match rd s (.at j p) with | some (.lst ws) => ixL j p ws i s | _ => .bad) := by
  unfold ixH ixL
  simp only [rd_v]
  cases e : rd s (.at j p) with
  | none => rfl
  | some w => cases w <;> rfl
@[simp] theorem ixH_at0 (j : Nat) (i : Int) : ixH (.at j []) (.v (.im (.int i))) s = (match rd s (.at j []) with | some (.lst ws) => ixL j [] ws i s | _ => .bad) := ixH_at j [] i
@[simp] theorem ixH_atp (j k : Nat) (p : List Nat) (i : Int) : ixH (.at j (k :: p)) (.v (.im (.int i))) s = (match rd s (.at j (k :: p)) with | some (.lst ws) => ixL j (k :: p) ws i s | _ => .bad) := ixH_at j (k :: p) i
theorem ixL_im {j : Nat} {p : List Nat} {ws : List W} {i : Int} {x : P} (e : L2.atI ws i = some (.im x)) : ixL j p ws i s = .ok (.v (.im x)) s := by
  unfold ixL
  unfold L2.atI at e
  obtain ⟨k, e1, e2⟩ := Option.bind_eq_some_iff.mp e
  rw [e1]; simp only [e2]
/-- an item, told by its kind -/
def ixR (j : Nat) (p : List Nat) (k : Nat) (w : W) (s : Vs) : VR Hd := match w with
  | .im x => .ok (.v (.im x)) s
  | _ => .ok (.at j (p ++ [k])) s
@[simp] theorem ixR_im (j : Nat) (p : List Nat) (k : Nat) (x : P) : ixR j p k (.im x) s = .ok (.v (.im x)) s := rfl
@[simp] theorem ixR_lst (j : Nat) (p : List Nat) (k : Nat) (x : List W) : ixR j p k (.lst x) s = .ok (.at j (p ++ [k])) s := rfl
@[simp] theorem ixR_tw (j : Nat) (p : List Nat) (k : Nat) (x : List W) : ixR j p k (.tw x) s = .ok (.at j (p ++ [k])) s := rfl
theorem ixN_in {n : Nat} {i : Int} (h0 : 0 ≤ i) (h1 : i < n) : L2.ixN n i = some i.toNat := by
  unfold L2.ixN; rw [if_pos h0, if_pos h1]
theorem ixL_at {j : Nat} {p : List Nat} {ws : List W} {i : Int} {k : Nat} {w : W} (e : L2.ixN ws.length i = some k) (e2 : ws[k]? = some w) : ixL j p ws i s = ixR j p k w s := by
  unfold ixL ixR
  rw [e]; simp only [e2]
  cases w <;> rfl
@[simp] theorem ixL_0 (j : Nat) (p : List Nat) (x : W) (r : List W) : ixL j p (x :: r) 0 s = ixR j p 0 x s := ixL_at (ixN_in (by omega) (by simp <;> omega)) rfl
@[simp] theorem ixL_1 (j : Nat) (p : List Nat) (x y : W) (r : List W) : ixL j p (x :: y :: r) 1 s = ixR j p 1 y s := ixL_at (ixN_in (by omega) (by simp <;> omega)) rfl
@[simp] theorem ixL_2 (j : Nat) (p : List Nat) (x y z : W) (r : List W) : ixL j p (x :: y :: z :: r) 2 s = ixR j p 2 z s := ixL_at (ixN_in (by omega) (by simp <;> omega)) rfl
@[simp] theorem ixL_3 (j : Nat) (p : List Nat) (x y z v : W) (r : List W) : ixL j p (x :: y :: z :: v :: r) 3 s = ixR j p 3 v s := ixL_at (ixN_in (by omega) (by simp <;> omega)) rfl
@[simp] theorem aqNil_run : aqNil s = .ok [] s := rfl
@[simp] theorem aqCons_run (g : VE) (gs : VA) : aqCons g gs s = (g s).bind (aq1 gs) := rfl
@[simp] theorem aq1_run (gs : VA) (w : W) : aq1 gs w s = (gs s).bind (aq2 w) := rfl
@[simp] theorem aq2_run (w : W) (ws : List W) : aq2 w ws s = .ok (w :: ws) s := rfl
@[simp] theorem qTup_run (gs : VA) : qTup gs s = (gs s).bind qTupk := rfl
@[simp] theorem qTupk_run (ws : List W) : qTupk ws s = if ws.length ≤ 10000000 then .ok (mkT ws) s else .bad := rfl
@[simp] theorem qLst_run (gs : VA) : qLst gs s = (gs s).bind qLstk := rfl
@[simp] theorem qLstk_run (ws : List W) : qLstk ws s = if ws.length ≤ 10000000 then .ok (.lst ws) s else .bad := rfl
@[simp] theorem mkT_nil : mkT [] = .im (.tup []) := rfl
theorem imL_cons' {p : P} {ws : List W} : imL (.im p :: ws) = (imL ws).map (p :: ·) := rfl
@[simp] theorem mkT_1 (a : P) : mkT [.im a] = .im (.tup [a]) := rfl
@[simp] theorem mkT_2 (a b : P) : mkT [.im a, .im b] = .im (.tup [a, b]) := rfl
@[simp] theorem mkT_3 (a b c : P) : mkT [.im a, .im b, .im c] = .im (.tup [a, b, c]) := rfl
@[simp] theorem mkT_4 (a b c d : P) : mkT [.im a, .im b, .im c, .im d] = .im (.tup [a, b, c, d]) := rfl
@[simp] theorem mkT_5 (a b c d e : P) : mkT [.im a, .im b, .im c, .im d, .im e] = .im (.tup [a, b, c, d, e]) := rfl
@[simp] theorem mkT_6 (a b c d e f : P) : mkT [.im a, .im b, .im c, .im d, .im e, .im f] = .im (.tup [a, b, c, d, e, f]) := rfl
@[simp] theorem mkT_l (a : List W) (ws : List W) : mkT (.lst a :: ws) = .tw (.lst a :: ws) := rfl
@[simp] theorem mkT_il (p : P) (a : List W) (ws : List W) : mkT (.im p :: .lst a :: ws) = .tw (.im p :: .lst a :: ws) := rfl
@[simp] theorem qasB_run (g : VE) : qasB g s = (g s).bind qasBk := rfl
@[simp] theorem qasBk_run (b : Bool) : qasBk (.im (.bl b)) s = .ok b s := rfl
@[simp] theorem qTru_run (g : VH) : qTru g s = (g s).bind qTruk := rfl
@[simp] theorem qTruk_run (d : Hd) : qTruk d s = (match (rd s d).bind truW with | some b => .ok b s | none => .bad) := rfl
@[simp] theorem truW_bl (b : Bool) : truW (.im (.bl b)) = some b := rfl
@[simp] theorem truW_int (i : Int) : truW (.im (.int i)) = some (i != 0) := rfl
@[simp] theorem truW_non : truW (.im .non) = some false := rfl
@[simp] theorem truW_tup (ps : List P) : truW (.im (.tup ps)) = some (!ps.isEmpty) := by simp [truW, seqP]
@[simp] theorem truW_fz (ps : List P) : truW (.im (.fz ps)) = some (!ps.isEmpty) := by simp [truW, seqP]
@[simp] theorem truW_lst (ws : List W) : truW (.lst ws) = some (!ws.isEmpty) := rfl
@[simp] theorem qbNot_run (g : VB) : qbNot g s = (g s).bind qNotk := rfl
@[simp] theorem qNotk_run (b : Bool) : qNotk b s = .ok (!b) s := rfl
@[simp] theorem qbAnd_run (f g : VB) : qbAnd f g s = (f s).bind (qAndk g) := rfl
@[simp] theorem qAndk_t (g : VB) : qAndk g true s = g s := rfl
@[simp] theorem qAndk_f (g : VB) : qAndk g false s = .ok false s := rfl
@[simp] theorem qbOr_run (f g : VB) : qbOr f g s = (f s).bind (qOrk g) := rfl
@[simp] theorem qOrk_t (g : VB) : qOrk g true s = .ok true s := rfl
@[simp] theorem qOrk_f (g : VB) : qOrk g false s = g s := rfl
@[simp] theorem qYes_run : qYes s = .ok true s := rfl
@[simp] theorem qeAnd_run (f g : VE) : qeAnd f g s = (f s).bind (qeAndk g) := rfl
@[simp] theorem qeAndk_run (g : VE) (w : W) : qeAndk g w s = (match truW w with | some true => g s | some false => .ok w s | none => .bad) := rfl
@[simp] theorem qeOr_run (f g : VE) : qeOr f g s = (f s).bind (qeOrk g) := rfl
@[simp] theorem qeOrk_run (g : VE) (w : W) : qeOrk g w s = (match truW w with | some true => .ok w s | some false => g s | none => .bad) := rfl
@[simp] theorem qeNot_run (f : VH) : qeNot f s = (f s).bind qeNotk := rfl
@[simp] theorem qeNotk_run (d : Hd) : qeNotk d s = (match (rd s d).bind truW with | some b => .ok (.im (.bl (!b))) s | none => .bad) := rfl
@[simp] theorem qIf_run (c : VB) (f g : VE) : qIf c f g s = (c s).bind (qIfk f g) := rfl
@[simp] theorem qIfk_t (f g : VE) : qIfk f g true s = f s := rfl
@[simp] theorem qIfk_f (f g : VE) : qIfk f g false s = g s := rfl
@[simp] theorem qChain_run (q q' : W → W → Option W) (ga gb gc : VH) : qChain q q' ga gb gc s = (ga s).bind (qCh1 q q' gb gc) := rfl
@[simp] theorem qCh1_run (q q' : W → W → Option W) (gb gc : VH) (d : Hd) : qCh1 q q' gb gc d s = (gb s).bind (qCh2 q q' gc d) := rfl
def chK (q' : W → W → Option W) (gc : VH) (d2 : Hd) (s : Vs) (o : Option W) : VR W := match o with
  | some (.im (.bl true)) => (gc s).bind (fin2 q' d2)
  | some (.im (.bl false)) => .ok (.im (.bl false)) s
  | _ => .bad
@[simp] theorem qCh2_run (q q' : W → W → Option W) (gc : VH) (d1 d2 : Hd) : qCh2 q q' gc d1 d2 s = (match rd s d1, rd s d2 with | some w1, some w2 => chK q' gc d2 s (q w1 w2) | _, _ => .bad) := by
  unfold qCh2 chK
  split
  · rename_i w1 w2 e1 e2
    split <;> simp_all
  · simp_all
@[simp] theorem chK_run (q' : W → W → Option W) (gc : VH) (d2 : Hd) (b : Bool) : chK q' gc d2 s (some (.im (.bl b))) = if b = true then (gc s).bind (fin2 q' d2) else .ok (.im (.bl false)) s := by cases b <;> rfl
@[simp] theorem qoNo_run : qoNo s = .ok none s := rfl
@[simp] theorem qoSo_run (g : VE) : qoSo g s = (g s).bind qoSok := rfl
@[simp] theorem qoSok_run (i : Int) : qoSok (.im (.int i)) s = .ok (some i) s := rfl
@[simp] theorem qSlc_run (ga : VH) (gl gu : VO) : qSlc ga gl gu s = (ga s).bind (qSl1 gl gu) := rfl
@[simp] theorem qSl1_run (gl gu : VO) (d : Hd) : qSl1 gl gu d s = (gl s).bind (qSl2 gu d) := rfl
@[simp] theorem qSl2_run (gu : VO) (d : Hd) (lo : Option Int) : qSl2 gu d lo s = (gu s).bind (qSlf d lo) := rfl
@[simp] theorem qSlf_run (d : Hd) (lo hi : Option Int) : qSlf d lo hi s = (match (rd s d).bind (qSl lo hi) with | some x => .ok x s | none => .bad) := rfl
@[simp] theorem qM_run (q : W → List W → Option (W × W)) (ga : VH) (gs : VA) : qM q ga gs s = (ga s).bind (qMk q gs) := rfl
@[simp] theorem qMk_run (q : W → List W → Option (W × W)) (gs : VA) (d : Hd) : qMk q gs d s = if isL (rd s d) = true then (gs s).bind (qMf q d) else .bad := rfl
@[simp] theorem isL_lst (ws : List W) : isL (some (.lst ws)) = true := rfl
@[simp] theorem qMf_run (q : W → List W → Option (W × W)) (d : Hd) (ws : List W) : qMf q d ws s = (match (rd s d).bind fun w => q w ws with | some rx => putH rx.1 rx.2 d s | none => .bad) := rfl
@[simp] theorem putH_v (r x w : W) : putH r x (.v w) s = .ok r s := rfl
@[simp] theorem putH_at (r x : W) (i : Nat) (p : List Nat) : putH r x (.at i p) s = (match s[i]? with | some (some w0) => .ok r (s.set i (some (setP w0 p x))) | _ => .bad) := rfl
@[simp] theorem setP_nil (w x : W) : setP w [] x = x := by cases w <;> rfl
@[simp] theorem setP_lst (ws : List W) (k : Nat) (p : List Nat) (x : W) : setP (.lst ws) (k :: p) x = (match ws[k]? with | some w => .lst (ws.set k (setP w p x)) | none => .lst ws) := rfl
@[simp] theorem qMx_run (q : W → W → Option (W × W)) (ga gb : VH) : qMx q ga gb s = (ga s).bind (qMxk q gb) := rfl
@[simp] theorem qMxk_run (q : W → W → Option (W × W)) (gb : VH) (d : Hd) : qMxk q gb d s = if isL (rd s d) = true then (gb s).bind (qMxf q d) else .bad := rfl
@[simp] theorem qMxf_run (q : W → W → Option (W × W)) (d d2 : Hd) : qMxf q d d2 s = (match rd s d2 with | some y => qMf (fun w _ => q w y) d [] s | none => .bad) := rfl
@[simp] theorem qAppend_run (xs : List W) (y : W) : qAppend (.lst xs) [y] = if xs.length ≤ 10000000 then some (.im .non, .lst (xs ++ [y])) else none := rfl
@[simp] theorem qPop_run (xs : List W) : qPop (.lst xs) [] = (xs.getLast?).map fun y => (y, .lst xs.dropLast) := rfl
@[simp] theorem qReverse_run (xs : List W) : qReverse (.lst xs) [] = some (.im .non, .lst xs.reverse) := rfl
@[simp] theorem qInsert_run (xs : List W) (i : Int) (y : W) : qInsert (.lst xs) [.im (.int i), y] = cIf (xs.length ≤ 10000000 ∧ 0 ≤ i ∧ i < 9223372036854775808) (some (.im .non, .lst (xs.take i.toNat ++ [y] ++ xs.drop i.toNat))) none := rfl
@[simp] theorem cIf_true {α : Type} (a b : α) : cIf True a b = a := if_pos trivial
@[simp] theorem cIf_false {α : Type} (a b : α) : cIf False a b = b := if_neg id
@[simp] theorem qPop_at (xs : List W) (i : Int) : qPop (.lst xs) [.im (.int i)] = cIf (-9223372036854775808 ≤ i ∧ i < 9223372036854775808) (match ixN xs.length i with | some k => (xs[k]?).map fun y => (y, .lst (xs.eraseIdx k)) | none => none) none := rfl
@[simp] theorem qExtend_run (xs : List W) (y : W) : qExtend (.lst xs) y = (match litP y with | some ys => if xs.length + ys.length ≤ 10000000 ∧ (imL ys).isSome then some (.im .non, .lst (xs ++ ys)) else none | none => none) := rfl
@[simp] theorem qCall_run (q : VF) (gs : VK2) : qCall q gs s = (gs s).bind (qCallk q) := rfl
@[simp] theorem qCallk_run (q : VF) (ds : List Hd) : qCallk q ds s = (match takeH s ds with | some (ws, os, s') => callEnd s' os (q ws) | none => .bad) := rfl
@[simp] theorem takeH_nil : takeH s [] = some ([], [], s) := rfl
@[simp] theorem takeH_v (w : W) (ds : List Hd) : takeH s (.v w :: ds) = (match takeH s ds with | some (ws, os, s') => some (w :: ws, none :: os, s') | none => none) := rfl
@[simp] theorem takeH_at (i : Nat) (ds : List Hd) : takeH s (.at i [] :: ds) = (match s[i]? with | some (some w) => (match takeH (s.set i none) ds with | some (ws, os, s') => some (w :: ws, some i :: os, s') | none => none) | _ => none) := rfl
@[simp] theorem putBack_nil (fs : Vs) : putBack s [] fs = s := by cases fs <;> rfl
@[simp] theorem putBack_none (os : List (Option Nat)) (f : Option W) (fs : Vs) : putBack s (none :: os) (f :: fs) = putBack s os fs := rfl
@[simp] theorem putBack_some (i : Nat) (os : List (Option Nat)) (f : Option W) (fs : Vs) : putBack s (some i :: os) (f :: fs) = putBack (s.set i f) os fs := rfl
@[simp] theorem callEnd_ok (os : List (Option Nat)) (w : W) (fs : Vs) : callEnd s os (.ok w fs) = .ok w (putBack s os fs) := rfl
@[simp] theorem callEnd_ex (os : List (Option Nat)) (x : VEx) (fs : Vs) : callEnd s os (.ex x fs) = .ex x (putBack s os fs) := rfl
/-! statements -/
@[simp] theorem vNil_run : vNil s = .nx s := rfl
@[simp] theorem vSeq_run (f g : VS) : vSeq f g s = (f s).thn g := rfl
@[simp] theorem vBrk_run : vBrk s = .bk s := rfl
@[simp] theorem vCnt_run : vCnt s = .ct s := rfl
@[simp] theorem vExp_run (g : VE) : vExp g s = (g s).thn vExpk := rfl
@[simp] theorem vExpk_run (w : W) : vExpk w s = .nx s := rfl
@[simp] theorem vRet_run (g : VE) : vRet g s = (g s).thn .rt := rfl
@[simp] theorem vRetN_run : vRetN s = .rt (.im .non) s := rfl
@[simp] theorem vIf_run (c : VB) (f g : VS) : vIf c f g s = (c s).thn (vBr f g) := rfl
@[simp] theorem vBr_t (f g : VS) : vBr f g true s = f s := rfl
@[simp] theorem vBr_f (f g : VS) : vBr f g false s = g s := rfl
@[simp] theorem vAsg_run (x : VE) (t : VTn) : vAsg x t s = (x s).thn (vAsgk t) := rfl
@[simp] theorem vAsgk_run (t : VTn) (w : W) : vAsgk t w s = (match t w s with | some s' => .nx s' | none => .bad) := rfl
@[simp] theorem vSet_run (i : Nat) (x : VE) : vSet i x s = (x s).thn (vAsgk (tNm i)) := rfl
@[simp] theorem tNm_run (i : Nat) (w : W) : tNm i w s = some (s.set i (some w)) := rfl
@[simp] theorem tTp_tup (n : Nat) (ts : VTns) (ps : List P) : tTp n ts (.im (.tup ps)) s = if ps.length = n then ts (ps.map .im) s else none := rfl
@[simp] theorem tTp_tw (n : Nat) (ts : VTns) (ws : List W) : tTp n ts (.tw ws) s = if ws.length = n then ts ws s else none := rfl
@[simp] theorem tsNil_run : tsNil [] s = some s := rfl
@[simp] theorem tsCons_run (t : VTn) (ts : VTns) (w : W) (ws : List W) : tsCons t ts (w :: ws) s = (t w s).bind (ts ws) := rfl
@[simp] theorem vPar_run (i j : Nat) (x : VA) : vPar i j x s = (x s).thn (vPark i j) := rfl
@[simp] theorem vPark_run (i j : Nat) (x y : W) : vPark i j [x, y] s = .nx ((s.set i (some x)).set j (some y)) := rfl
@[simp] theorem vAug_run (i : Nat) (q : W → W → Option W) (y : VH) : vAug i q y s = vSet i (qOp2 q (hVar i) y) s := rfl
@[simp] theorem vPut_run (x : VE) (go gi : VH) : vPut x go gi s = (x s).thn (vPut1 go gi) := rfl
@[simp] theorem vPut1_run (go gi : VH) (w : W) : vPut1 go gi w s = (go s).thn (vPut2 gi w) := rfl
@[simp] theorem vPut2_run (gi : VH) (w : W) (d : Hd) : vPut2 gi w d s = (gi s).thn (vPutf w d) := rfl
def putL (j : Nat) (p : List Nat) (w : W) (i : Int) (ws : List W) (w0 : W) (s : Vs) : VSR := match ixN ws.length i with
  | some k => .nx (s.set j (some (setP w0 p (.lst (ws.set k w)))))
  | none => .bad
@[simp] theorem vPutf_at (w : W) (j : Nat) (p : List Nat) (i : Int) : vPutf w (.at j p) (.v (.im (.int i))) s = (match s[j]? with | some (some w0) => (match getP w0 p with | some (.lst ws) => putL j p w i ws w0 s | _ => .bad) | _ => .bad) := by
  unfold vPutf putL
  simp only [rd_v]
  cases e : s[j]? with
  | none => simp [rd, e]
  | some o =>
    cases o with
    | none => simp [rd, e]
    | some w0 =>
      simp only [rd, e]
      all_goals (rcases getP w0 p with _ | x <;> first | rfl | (cases x <;> rfl))
@[simp] theorem putL_0 (j : Nat) (p : List Nat) (w w0 x : W) (r : List W) : putL j p w 0 (x :: r) w0 s = .nx (s.set j (some (setP w0 p (.lst (w :: r))))) := by unfold putL; rw [ixN_in (by omega) (by simp <;> omega)]; rfl
@[simp] theorem putL_1 (j : Nat) (p : List Nat) (w w0 x y : W) (r : List W) : putL j p w 1 (x :: y :: r) w0 s = .nx (s.set j (some (setP w0 p (.lst (x :: w :: r))))) := by unfold putL; rw [ixN_in (by omega) (by simp; omega)]; rfl
@[simp] theorem putL_2 (j : Nat) (p : List Nat) (w w0 x y z : W) (r : List W) : putL j p w 2 (x :: y :: z :: r) w0 s = .nx (s.set j (some (setP w0 p (.lst (x :: y :: w :: r))))) := by unfold putL; rw [ixN_in (by omega) (by simp; omega)]; rfl
@[simp] theorem putL_3 (j : Nat) (p : List Nat) (w w0 x y z v : W) (r : List W) : putL j p w 3 (x :: y :: z :: v :: r) w0 s = .nx (s.set j (some (setP w0 p (.lst (x :: y :: z :: w :: r))))) := by unfold putL; rw [ixN_in (by omega) (by simp; omega)]; rfl
theorem putL_run {j : Nat} {w w0 : W} {i : Int} {ws : List W} {k : Nat} (e : ixN ws.length i = some k) : putL j [] w i ws w0 s = .nx (s.set j (some (.lst (ws.set k w)))) := by unfold putL; rw [e]; simp
@[simp] theorem wipeV_nil : wipeV s [] = s := rfl
@[simp] theorem wipeV_cons (i : Nat) (is : List Nat) : wipeV s (i :: is) = (wipeV s is).set i none := rfl
@[simp] theorem alive_nil : alive s [] = true := rfl
@[simp] theorem alive_cons (i : Nat) (is : List Nat) : alive s (i :: is) = (match s[i]? with | some (some _) => alive s is | _ => false) := rfl
@[simp] theorem inR_nil : inR s [] = true := rfl
@[simp] theorem inR_cons (i : Nat) (is : List Nat) : inR s (i :: is) = (decide (i < s.length) && inR s is) := rfl
@[simp] theorem vFor_run (J kill : List Nat) (g : VI) (t : VTn) (b : VS) : vFor J kill g t b s = (g s).thn (forV J kill t b) := rfl
@[simp] theorem qit_run (g : VH) : qit g s = (g s).bind qitk := rfl
@[simp] theorem qitk_run (d : Hd) : qitk d s = (match (rd s d).bind (itW d) with | some ws => .ok ws s | none => .bad) := rfl
@[simp] theorem itW_tup (d : Hd) (ps : List P) : itW d (.im (.tup ps)) = some (ps.map .im) := rfl
@[simp] theorem itW_fz (d : Hd) (ps : List P) : itW d (.im (.fz ps)) = some (ps.map .im) := rfl
@[simp] theorem itW_fr (d : Hd) (ps : List P) : itW d (.im (.fr ps)) = some (ps.map .im) := rfl
@[simp] theorem itW_lv (w : W) (ws : List W) : itW (.v w) (.lst ws) = some ws := rfl
@[simp] theorem itW_la (i : Nat) (p : List Nat) (ws : List W) : itW (.at i p) (.lst ws) = if (imL ws).isSome then some ws else none := rfl
@[simp] theorem qRg_run (gs : VA) : qRg gs s = (gs s).bind qRgk := rfl
theorem qRgk_1 {j : Int} (e0 : -4611686018427387904 ≤ j) (e : j < 4611686018427387904) : qRgk [.im (.int j)] s = .ok (rgW 0 j.toNat) s := by
  have hb : big62 j := ⟨e0, e⟩
  unfold qRgk rgS
  simp only [if_pos hb]
theorem qRgk_2 {i j : Int} (d0 : -4611686018427387904 ≤ i) (d : i < 4611686018427387904) (e0 : -4611686018427387904 ≤ j) (e : j < 4611686018427387904) : qRgk [.im (.int i), .im (.int j)] s = .ok (rgW i (j - i).toNat) s := by
  have hb : big62 i ∧ big62 j := ⟨⟨d0, d⟩, e0, e⟩
  unfold qRgk rgS
  simp only [if_pos hb]
@[simp] theorem qZp_run (gs : VA) : qZp gs s = (gs s).bind qZpk := rfl
@[simp] theorem qZpk_run (ws : List W) : qZpk ws s = (match zpW ws with | some xs => .ok xs s | none => .bad) := rfl
@[simp] theorem qEn_run (g : VH) : qEn g s = (g s).bind qEnk := rfl
@[simp] theorem qEnk_run (d : Hd) : qEnk d s = (match (rd s d).bind (enW d) with | some ws => .ok ws s | none => .bad) := rfl
@[simp] theorem enW_fz (d : Hd) (ps : List P) : enW d (.im (.fz ps)) = some ((enP ps).map .im) := rfl
@[simp] theorem enW_lst (d : Hd) (ws : List W) : enW d (.lst ws) = (imL ws).map fun ps => (enP ps).map .im := rfl
@[simp] theorem qLc_run (J own : List Nat) (g : VI) (t : VTn) (tt : VB) (fe : VE) : qLc J own g t tt fe s = (g s).bind (lcVk J own t tt fe) := rfl
theorem lcVk_of {J own : List Nat} {t : VTn} {tt : VB} {fe : VE} {ws ys : List W} {s1 : Vs} (l : ws.length ≤ 10000000) (r : inR s own = true) (e : lcV J own t tt fe ws s = .ok ys s1) : lcVk J own t tt fe ws s = .ok (.lst ys) s1 := by
  unfold lcVk; rw [if_pos ⟨l, r⟩, e]
/-! a def's run -/
theorem vrun {n np : Nat} {io : List Bool} {b : VS} {ws : List W} (e : ws.length = np) : vRun n np io b ws = vOut io (b (ws.map some ++ List.replicate (n - np) none)) := if_pos e
theorem vrun1 {n : Nat} {io : List Bool} {b : VS} (x : W) : vRun n 1 io b [x] = vOut io (b (some x :: List.replicate (n - 1) none)) := vrun rfl
theorem vrun2 {n : Nat} {io : List Bool} {b : VS} (x y : W) : vRun n 2 io b [x, y] = vOut io (b (some x :: some y :: List.replicate (n - 2) none)) := vrun rfl
theorem vrun3 {n : Nat} {io : List Bool} {b : VS} (x y z : W) : vRun n 3 io b [x, y, z] = vOut io (b (some x :: some y :: some z :: List.replicate (n - 3) none)) := vrun rfl
theorem vrun4 {n : Nat} {io : List Bool} {b : VS} (x y z w : W) : vRun n 4 io b [x, y, z, w] = vOut io (b (some x :: some y :: some z :: some w :: List.replicate (n - 4) none)) := vrun rfl
theorem vrun5 {n : Nat} {io : List Bool} {b : VS} (x y z w v : W) : vRun n 5 io b [x, y, z, w, v] = vOut io (b (some x :: some y :: some z :: some w :: some v :: List.replicate (n - 5) none)) := vrun rfl
theorem vrun6 {n : Nat} {io : List Bool} {b : VS} (x y z w v u : W) : vRun n 6 io b [x, y, z, w, v, u] = vOut io (b (some x :: some y :: some z :: some w :: some v :: some u :: List.replicate (n - 6) none)) := vrun rfl
theorem vrun7 {n : Nat} {io : List Bool} {b : VS} (x y z w v u t : W) : vRun n 7 io b [x, y, z, w, v, u, t] = vOut io (b (some x :: some y :: some z :: some w :: some v :: some u :: some t :: List.replicate (n - 7) none)) := vrun rfl
theorem vrun8 {n : Nat} {io : List Bool} {b : VS} (x y z w v u t s : W) : vRun n 8 io b [x, y, z, w, v, u, t, s] = vOut io (b (some x :: some y :: some z :: some w :: some v :: some u :: some t :: some s :: List.replicate (n - 8) none)) := vrun rfl
theorem vrun9 {n : Nat} {io : List Bool} {b : VS} (x y z w v u t s r : W) : vRun n 9 io b [x, y, z, w, v, u, t, s, r] = vOut io (b (some x :: some y :: some z :: some w :: some v :: some u :: some t :: some s :: some r :: List.replicate (n - 9) none)) := vrun rfl
theorem vrun10 {n : Nat} {io : List Bool} {b : VS} (x y z w v u t s r q : W) : vRun n 10 io b [x, y, z, w, v, u, t, s, r, q] = vOut io (b (some x :: some y :: some z :: some w :: some v :: some u :: some t :: some s :: some r :: some q :: List.replicate (n - 10) none)) := vrun rfl
@[simp] theorem vOut_rt (io : List Bool) (w : W) : vOut io (.rt w s) = .ok w (finV io s) := rfl
@[simp] theorem vOut_nx (io : List Bool) : vOut io (.nx s) = .ok (.im .non) (finV io s) := rfl
@[simp] theorem vOut_ex (io : List Bool) (x : VEx) : vOut io (.ex x s) = .ex x (finV io s) := rfl
@[simp] theorem finV_nil : finV [] s = [] := rfl
@[simp] theorem finV_t (bs : List Bool) (o : Option W) : finV (true :: bs) (o :: s) = o :: finV bs s := rfl
@[simp] theorem finV_f (bs : List Bool) (o : Option W) : finV (false :: bs) (o :: s) = none :: finV bs s := rfl
/-! operations -/
@[simp] theorem qAdd_int (i j : Int) : qAdd (.im (.int i)) (.im (.int j)) = some (.im (.int (i + j))) := rfl
@[simp] theorem qAdd_str (a b : Str) : qAdd (.im (.str a)) (.im (.str b)) = if a.length + b.length ≤ 10000000 then some (.im (.str (a ++ b))) else none := rfl
@[simp] theorem qAdd_tup (a b : List P) : qAdd (.im (.tup a)) (.im (.tup b)) = if a.length + b.length ≤ 10000000 then some (.im (.tup (a ++ b))) else none := rfl
@[simp] theorem qAdd_lst (a b : List W) : qAdd (.lst a) (.lst b) = if a.length + b.length ≤ 10000000 ∧ (imL a).isSome ∧ (imL b).isSome then some (.lst (a ++ b)) else none := rfl
@[simp] theorem qAdd_fl (a : List P) (b : List W) : qAdd (.im (.fz a)) (.lst b) = if (a.map W.im).length + b.length ≤ 10000000 ∧ (imL (a.map W.im)).isSome ∧ (imL b).isSome then some (.lst (a.map W.im ++ b)) else none := rfl
@[simp] theorem qAdd_lf (a : List W) (b : List P) : qAdd (.lst a) (.im (.fz b)) = if a.length + (b.map W.im).length ≤ 10000000 ∧ (imL a).isSome ∧ (imL (b.map W.im)).isSome then some (.lst (a ++ b.map W.im)) else none := rfl
@[simp] theorem qSub_int (i j : Int) : qSub (.im (.int i)) (.im (.int j)) = some (.im (.int (i - j))) := rfl
@[simp] theorem cMul_nr {i j : Int} (h : j.natAbs < 18446744073709551616) : cMul i j := .inr (.inl (by omega))
@[simp] theorem cMul_nl {i j : Int} (h : i.natAbs < 18446744073709551616) : cMul i j := .inl (by omega)
@[simp] theorem cDiv_nr {i j : Int} (h0 : j ≠ 0) (h : j.natAbs < 1073741824) : cDiv i j := .inl ⟨h0, by omega, by omega⟩
@[simp] theorem qMul_of {i j : Int} (e : cMul i j) : qMul (.im (.int i)) (.im (.int j)) = some (.im (.int (i * j))) := cIf_pos e _ _
@[simp] theorem qDiv_of {i j : Int} (e : cDiv i j) : qDiv (.im (.int i)) (.im (.int j)) = some (.im (.int (i.fdiv j))) := cIf_pos e _ _
@[simp] theorem qMod_of {i j : Int} (e : j ≠ 0) : qMod (.im (.int i)) (.im (.int j)) = some (.im (.int (i.fmod j))) := cIf_pos (c := cMod i j) e _ _
@[simp] theorem qPow_of {i j : Int} (h0 : 0 ≤ j) (h1 : j ≤ 1000000) (h2 : i.natAbs < 18446744073709551616) : qPow (.im (.int i)) (.im (.int j)) = some (.im (.int (i ^ j.toNat))) := cIf_pos (c := cPow i j) ⟨h0, h1, h2⟩ _ _
@[simp] theorem qNeg_int (i : Int) : qNeg (.im (.int i)) = some (.im (.int (-i))) := rfl
@[simp] theorem qCmp_int (c : Int → Int → Bool) (i j : Int) : qCmp c (.im (.int i)) (.im (.int j)) = some (.im (.bl (c i j))) := rfl
@[simp] theorem qEq_int (i j : Int) : qEq (.im (.int i)) (.im (.int j)) = some (.im (.bl (decide (i = j)))) := rfl
@[simp] theorem qNe_int (i j : Int) : qNe (.im (.int i)) (.im (.int j)) = some (.im (.bl (!decide (i = j)))) := rfl
@[simp] theorem qEq_str (i j : Str) : qEq (.im (.str i)) (.im (.str j)) = some (.im (.bl (decide (i = j)))) := rfl
@[simp] theorem qNe_str (i j : Str) : qNe (.im (.str i)) (.im (.str j)) = some (.im (.bl (!decide (i = j)))) := rfl
@[simp] theorem qEq_bl (i j : Bool) : qEq (.im (.bl i)) (.im (.bl j)) = some (.im (.bl (decide (i = j)))) := rfl
@[simp] theorem qNe_bl (i j : Bool) : qNe (.im (.bl i)) (.im (.bl j)) = some (.im (.bl (!decide (i = j)))) := rfl
@[simp] theorem qIs_non (x : W) : qIs x (.im .non) = some (.im (.bl (isNonP x))) := rfl
@[simp] theorem qIs_bl (a b : Bool) : qIs (.im (.bl a)) (.im (.bl b)) = some (.im (.bl (decide (a = b)))) := rfl
@[simp] theorem qIsN_bl (a b : Bool) : qIsN (.im (.bl a)) (.im (.bl b)) = some (.im (.bl (!decide (a = b)))) := rfl
@[simp] theorem qIsN_non (x : W) : qIsN x (.im .non) = some (.im (.bl (!isNonP x))) := rfl
@[simp] theorem isNonP_non : isNonP (.im .non) = true := rfl
@[simp] theorem isNonP_int (i : Int) : isNonP (.im (.int i)) = false := rfl
@[simp] theorem isNonP_bl (i : Bool) : isNonP (.im (.bl i)) = false := rfl
@[simp] theorem isNonP_str (i : Str) : isNonP (.im (.str i)) = false := rfl
@[simp] theorem isNonP_tup (i : List P) : isNonP (.im (.tup i)) = false := rfl
@[simp] theorem isNonP_fz (i : List P) : isNonP (.im (.fz i)) = false := rfl
@[simp] theorem isNonP_lst (i : List W) : isNonP (.lst i) = false := rfl
@[simp] theorem isNonP_tw (i : List W) : isNonP (.tw i) = false := rfl
@[simp] theorem qSl_tup (lo hi : Option Int) (ps : List P) : qSl lo hi (.im (.tup ps)) = some (.im (.tup (cutU ps lo hi))) := rfl
@[simp] theorem qSl_fz (lo hi : Option Int) (ps : List P) : qSl lo hi (.im (.fz ps)) = some (.lst ((cutU ps lo hi).map .im)) := by
  have e1 := imL_cut (imL_map ps) lo hi
  have e := imL_eq e1
  simp only [qSl, lstP, imL_map, Option.isSome_some, if_true]
  rw [e]
@[simp] theorem qSl_lst (lo hi : Option Int) (ws : List W) : qSl lo hi (.lst ws) = if (imL ws).isSome then some (.lst (cutU ws lo hi)) else none := rfl
@[simp] theorem qRev_tup (ps : List P) : qRev (.im (.tup ps)) = some (.im (.tup ps.reverse)) := rfl
@[simp] theorem qRev_fz (ps : List P) : qRev (.im (.fz ps)) = some (.lst (ps.reverse.map .im)) := by simp [qRev, lstP]
@[simp] theorem qRev_lst (ws : List W) : qRev (.lst ws) = if (imL ws).isSome then some (.lst ws.reverse) else none := rfl
@[simp] theorem kInt_int (i : Int) : kInt [.im (.int i)] = some (.im (.int i)) := rfl
@[simp] theorem kInt_bl (i : Bool) : kInt [.im (.bl i)] = some (.im (.int (if i then 1 else 0))) := rfl
@[simp] theorem kLen_tup (ps : List P) : kLen [.im (.tup ps)] = some (.im (.int ps.length)) := by simp [kLen, seqP]
@[simp] theorem kLen_fz (ps : List P) : kLen [.im (.fz ps)] = some (.im (.int ps.length)) := by simp [kLen, seqP]
@[simp] theorem kLen_fr (ps : List P) : kLen [.im (.fr ps)] = some (.im (.int ps.length)) := by simp [kLen, seqP]
@[simp] theorem kLen_lst (ws : List W) : kLen [.lst ws] = some (.im (.int ws.length)) := rfl
@[simp] theorem kLen_tw (ws : List W) : kLen [.tw ws] = some (.im (.int ws.length)) := rfl
@[simp] theorem kAbs_int (i : Int) : kAbs [.im (.int i)] = some (.im (.int (if i < 0 then -i else i))) := rfl
@[simp] theorem kB_run (f : List Bool → Bool) (x : W) : kB f [x] = ((lstP x).bind boolsP).map fun bs => .im (.bl (f bs)) := rfl
@[simp] theorem lstP_fz (ps : List P) : lstP (.im (.fz ps)) = some (ps.map .im) := rfl
@[simp] theorem lstP_fr (ps : List P) : lstP (.im (.fr ps)) = some (ps.map .im) := rfl
@[simp] theorem lstP_lst (ws : List W) : lstP (.lst ws) = some ws := rfl
@[simp] theorem litP_fz (ps : List P) : litP (.im (.fz ps)) = some (ps.map .im) := rfl
@[simp] theorem litP_lst (ws : List W) : litP (.lst ws) = some ws := rfl
@[simp] theorem seqP_tup (ps : List P) : seqP (.im (.tup ps)) = some (ps.map .im) := rfl
@[simp] theorem seqP_fz (ps : List P) : seqP (.im (.fz ps)) = some (ps.map .im) := rfl
@[simp] theorem seqP_fr (ps : List P) : seqP (.im (.fr ps)) = some (ps.map .im) := rfl
@[simp] theorem seqP_lst (ws : List W) : seqP (.lst ws) = some ws := rfl
@[simp] theorem seqP_tw (ws : List W) : seqP (.tw ws) = some ws := rfl
@[simp] theorem kSum_run (x : W) : kSum [x] = ((sumP x).bind intsP).map fun bs => .im (.int bs.sum) := rfl
@[simp] theorem sumP_tup (ps : List P) : sumP (.im (.tup ps)) = some (ps.map .im) := rfl
@[simp] theorem sumP_fz (ps : List P) : sumP (.im (.fz ps)) = some (ps.map .im) := rfl
@[simp] theorem sumP_lst (ws : List W) : sumP (.lst ws) = some ws := rfl
@[simp] theorem kMax_2 (i j : Int) : kMax [.im (.int i), .im (.int j)] = some (.im (.int (if j > i then j else i))) := rfl
@[simp] theorem kMin_2 (i j : Int) : kMin [.im (.int i), .im (.int j)] = some (.im (.int (if j < i then j else i))) := rfl
@[simp] theorem kMax_l (ws : List W) : kMax [.lst ws] = ((intsP ws).bind maxI).map fun k => .im (.int k) := rfl
@[simp] theorem kMin_l (ws : List W) : kMin [.lst ws] = ((intsP ws).bind minI).map fun k => .im (.int k) := rfl
@[simp] theorem kSrt_run (x : W) : kSrt [x] = (match lstP x with
    | some ws => match intsP ws with
      | some bs => some (.lst ((sortI bs).map fun b => .im (.int b)))
      | none => (pairsP ws).map fun ps => .lst ((sortP ps).map fun p => .im (prP p))
    | none => none) := rfl
@[simp] theorem kLst_run (x : W) : kLst [x] = (match seqP x with | some ws => if (imL ws).isSome then some (.lst ws) else none | none => none) := rfl
@[simp] theorem kTup_run (x : W) : kTup [x] = (match seqP x with | some ws => (imL ws).map fun ps => .im (.tup ps) | none => none) := rfl
@[simp] theorem qIsi_run (T : String) (x : W) : qIsi T x = (match tyW x with | some t => (kitB t T).map fun b => .im (.bl b) | none => none) := rfl
@[simp] theorem tyW_non : tyW (.im .non) = some "NoneType" := rfl
@[simp] theorem tyW_bl (b : Bool) : tyW (.im (.bl b)) = some "bool" := rfl
@[simp] theorem tyW_int (b : Int) : tyW (.im (.int b)) = some "int" := rfl
@[simp] theorem tyW_str (b : Str) : tyW (.im (.str b)) = some "str" := rfl
@[simp] theorem tyW_tup (b : List P) : tyW (.im (.tup b)) = some "tuple" := rfl
@[simp] theorem tyW_fz (b : List P) : tyW (.im (.fz b)) = some "list" := rfl
@[simp] theorem tyW_lst (b : List W) : tyW (.lst b) = some "list" := rfl
@[simp] theorem tyW_tw (b : List W) : tyW (.tw b) = some "tuple" := rfl
theorem ixE_im {ps : List P} {i : Int} : ixE (.im (.tup ps)) i = (L2.atI ps i).map .im := by
  simp only [ixE, seqP_tup, Option.bind_some]
  unfold L2.atI
  rw [List.length_map]
  cases ixN ps.length i with
  | none => rfl
  | some k => simp
theorem ixE_fz {ps : List P} {i : Int} : ixE (.im (.fz ps)) i = (L2.atI ps i).map .im := by
  simp only [ixE, seqP_fz, Option.bind_some]
  unfold L2.atI
  rw [List.length_map]
  cases ixN ps.length i with
  | none => rfl
  | some k => simp
@[simp] theorem ixE_tup_at {ps : List P} {i : Int} : ixE (.im (.tup ps)) i = (L2.atI ps i).map .im := ixE_im
@[simp] theorem ixE_fz_at {ps : List P} {i : Int} : ixE (.im (.fz ps)) i = (L2.atI ps i).map .im := ixE_fz
@[simp] theorem ixE_lst (ws : List W) (i : Int) : ixE (.lst ws) i = L2.atI ws i := rfl
@[simp] theorem ixE_tw (ws : List W) (i : Int) : ixE (.tw ws) i = L2.atI ws i := rfl
@[simp] theorem atI_lit0 {α : Type} (x : α) (r : List α) : L2.atI (x :: r) 0 = some x := L2.atI_nat (j := 0) rfl
@[simp] theorem atI_lit1 {α : Type} (x y : α) (r : List α) : L2.atI (x :: y :: r) 1 = some y := L2.atI_nat (j := 1) rfl
@[simp] theorem atI_lit2 {α : Type} (x y z : α) (r : List α) : L2.atI (x :: y :: z :: r) 2 = some z := L2.atI_nat (j := 2) rfl
@[simp] theorem atI_lit3 {α : Type} (x y z v : α) (r : List α) : L2.atI (x :: y :: z :: v :: r) 3 = some v := L2.atI_nat (j := 3) rfl
end
/-! # loops as functions -/
def turnV (t : VTn) (b : VS) (w : W) (s : Vs) : VSR := match t w s with | some s1 => b s1 | none => .bad
/-- go on -/
def VSR.on (r : VSR) (s : Vs) : Prop := r = .nx s ∨ r = .ct s
@[simp] theorem on_nx (s s' : Vs) : (VSR.nx s).on s' ↔ s = s' := by unfold VSR.on; simp
@[simp] theorem on_ct (s s' : Vs) : (VSR.ct s).on s' ↔ s = s' := by unfold VSR.on; simp
theorem forV_cons {J kill : List Nat} {t : VTn} {b : VS} {w : W} {ws : List W} {s s2 : Vs} (al : alive s J = true) (e : (turnV t b w (wipeV s kill)).on s2) : forV J kill t b (w :: ws) s = forV J kill t b ws s2 := by
  unfold turnV at e
  rw [forV, if_pos al]
  split at e
  · rename_i s1 e1
    rcases e with e | e <;> simp [e1, e, VSR.lpV]
  · rcases e with e | e <;> cases e
theorem forV_rt {J kill : List Nat} {t : VTn} {b : VS} {w : W} {ws : List W} {s s2 : Vs} {r : W} (al : alive s J = true) (e : turnV t b w (wipeV s kill) = .rt r s2) : forV J kill t b (w :: ws) s = .rt r s2 := by
  unfold turnV at e
  rw [forV, if_pos al]
  split at e
  · rename_i s1 e1
    simp [e1, e, VSR.lpV]
  · cases e
theorem forV_ex {J kill : List Nat} {t : VTn} {b : VS} {w : W} {ws : List W} {s s2 : Vs} {x : VEx} (al : alive s J = true) (e : turnV t b w (wipeV s kill) = .ex x s2) : forV J kill t b (w :: ws) s = .ex x s2 := by
  unfold turnV at e
  rw [forV, if_pos al]
  split at e
  · rename_i s1 e1
    simp [e1, e, VSR.lpV]
  · cases e
theorem forV_bk {J kill : List Nat} {t : VTn} {b : VS} {w : W} {ws : List W} {s s2 : Vs} (al : alive s J = true) (e : turnV t b w (wipeV s kill) = .bk s2) : forV J kill t b (w :: ws) s = .nx (wipeV s2 kill) := by
  unfold turnV at e
  rw [forV, if_pos al]
  split at e
  · rename_i s1 e1
    simp [e1, e, VSR.lpV]
  · cases e
theorem forV_nil {J kill : List Nat} {t : VTn} {b : VS} {s : Vs} (al : alive s J = true) : forV J kill t b [] s = .nx (wipeV s kill) := by rw [forV, if_pos al]
/-- a loop is a fold -/
theorem forV_fold {α β : Type} {J kill : List Nat} {t : VTn} {b : VS} {el : α → W} {emb : β → Vs} {step : β → α → β} {ok : β → Prop} : ∀ (xs : List α) (b0 : β) (s : Vs), ok b0 → alive s J = true → wipeV s kill = emb b0 →
    (∀ c x, x ∈ xs → ok c → ∃ s2, (turnV t b (el x) (emb c)).on s2 ∧ alive s2 J = true ∧ wipeV s2 kill = emb (step c x) ∧ ok (step c x)) → forV J kill t b (xs.map el) s = .nx (emb (xs.foldl step b0)) ∧ ok (xs.foldl step b0)
  | [], b0, s, o, al, e, h => ⟨by rw [List.map_nil, forV_nil al, e]; rfl, o⟩
  | x :: xs, b0, s, o, al, e, h => by
    obtain ⟨s2, e2, al2, w2, o2⟩ := h b0 x (by simp) o
    rw [List.map_cons, forV_cons al (by rw [e]; exact e2)]
    exact forV_fold xs (step b0 x) s2 o2 al2 w2 fun c y hy oc => h c y (List.mem_cons_of_mem _ hy) oc
/-- a loop that may be left -/
def foldU {α β γ : Type} (step : β → α → β ⊕ γ) : β → List α → β ⊕ γ
  | b, [] => .inl b
  | b, x :: xs => match step b x with | .inl c => foldU step c xs | .inr g => .inr g
theorem forV_until {α β γ : Type} {J kill : List Nat} {t : VTn} {b : VS} {el : α → W} {emb : β → Vs} {out : γ → VSR} {step : β → α → β ⊕ γ} {ok : β → Prop} : ∀ (xs : List α) (b0 : β) (s : Vs), ok b0 → alive s J = true → wipeV s kill = emb b0 →
    (∀ c x, x ∈ xs → ok c → match step c x with
      | .inl c' => ∃ s2, (turnV t b (el x) (emb c)).on s2 ∧ alive s2 J = true ∧ wipeV s2 kill = emb c' ∧ ok c'
      | .inr g => (∃ w s2, turnV t b (el x) (emb c) = .rt w s2 ∧ out g = .rt w s2) ∨ (∃ w s2, turnV t b (el x) (emb c) = .ex w s2 ∧ out g = .ex w s2) ∨ ∃ s2, turnV t b (el x) (emb c) = .bk s2 ∧ out g = .nx (wipeV s2 kill)) →
    forV J kill t b (xs.map el) s = match foldU step b0 xs with | .inl c => .nx (emb c) | .inr g => out g
  | [], b0, s, o, al, e, h => by rw [List.map_nil, forV_nil al, e]; rfl
  | x :: xs, b0, s, o, al, e, h => by
    have hx := h b0 x (by simp) o
    rw [List.map_cons]
    unfold foldU
    cases es : step b0 x with
    | inl c =>
      rw [es] at hx
      obtain ⟨s2, e2, al2, w2, o2⟩ := hx
      rw [forV_cons al (by rw [e]; exact e2)]
      exact forV_until xs c s2 o2 al2 w2 fun c y hy oc => h c y (List.mem_cons_of_mem _ hy) oc
    | inr g =>
      rw [es] at hx
      rcases hx with ⟨w, s2, e2, e3⟩ | ⟨w, s2, e2, e3⟩ | ⟨s2, e2, e3⟩
      · rw [forV_rt al (by rw [e]; exact e2)]; exact e3.symm
      · rw [forV_ex al (by rw [e]; exact e2)]; exact e3.symm
      · rw [forV_bk al (by rw [e]; exact e2)]; exact e3.symm
/-- a while loop tells what res tells -/
theorem vWhile_eq {β : Type} {kill : List Nat} {c : VB} {b : VS} {emb : β → Vs} {res : β → VSR} {ok : β → Prop} {μ : β → Nat}
    (h : ∀ x, ok x → (∃ s1, c (emb x) = .ok false s1 ∧ res x = .nx s1) ∨ ∃ s1, c (emb x) = .ok true s1 ∧ ((∃ s2 y, (b s1).on s2 ∧ wipeV s2 kill = emb y ∧ res x = res y ∧ ok y ∧ μ y < μ x) ∨ (∃ w s2, b s1 = .rt w s2 ∧ res x = .rt w s2) ∨ (∃ w s2, b s1 = .ex w s2 ∧ res x = .ex w s2) ∨ ∃ s2, b s1 = .bk s2 ∧ res x = .nx (wipeV s2 kill))) :
    ∀ x s, ok x → wipeV s kill = emb x → vWhile kill c b s = res x := by
  have key : ∀ (n : Nat) x s, μ x ≤ n → ok x → wipeV s kill = emb x → vWhile kill c b s = res x := by
    intro n
    induction n with
    | zero =>
      intro x s hn o e
      rcases h x o with ⟨s1, e1, e2⟩ | ⟨s1, e1, q⟩
      · rw [vWhile_end (by rw [e]; exact e1), e2]
      · rcases q with ⟨s2, y, a1, a2, a3, a4, a5⟩ | ⟨w, s2, a1, a2⟩ | ⟨w, s2, a1, a2⟩ | ⟨s2, a1, a2⟩
        · omega
        · rw [a2]; exact vWhile_of (n := 1) (by simp only [whileNV, e, e1, a1])
        · rw [a2]; exact vWhile_of (n := 1) (by simp only [whileNV, e, e1, a1])
        · rw [a2]; exact vWhile_of (n := 1) (by simp only [whileNV, e, e1, a1])
    | succ n ih =>
      intro x s hn o e
      rcases h x o with ⟨s1, e1, e2⟩ | ⟨s1, e1, q⟩
      · rw [vWhile_end (by rw [e]; exact e1), e2]
      · rcases q with ⟨s2, y, a1, a2, a3, a4, a5⟩ | ⟨w, s2, a1, a2⟩ | ⟨w, s2, a1, a2⟩ | ⟨s2, a1, a2⟩
        · rw [vWhile_step (by rw [e]; exact e1) a1, a3]
          exact ih y s2 (by omega) a4 a2
        · rw [a2]; exact vWhile_of (n := 1) (by simp only [whileNV, e, e1, a1])
        · rw [a2]; exact vWhile_of (n := 1) (by simp only [whileNV, e, e1, a1])
        · rw [a2]; exact vWhile_of (n := 1) (by simp only [whileNV, e, e1, a1])
  exact fun x s => key (μ x) x s (Nat.le_refl _)
/-- a comprehension that leaves the slots -/
theorem lcV_map {α : Type} {J own : List Nat} {t : VTn} {tt : VB} {fe : VE} {el : α → W} {p : α → Bool} {out : α → W} {s : Vs} (al : alive s J = true) (hw : wipeV s own = s) : ∀ (xs : List α),
    (∀ x, x ∈ xs → ∃ s1, t (el x) s = some s1 ∧ tt s1 = .ok (p x) s1 ∧ wipeV s1 own = s ∧ (p x = true → fe s1 = .ok (out x) s1)) → lcV J own t tt fe (xs.map el) s = .ok ((xs.filter p).map out) s
  | [], _ => by rw [List.map_nil, lcV, if_pos al, hw]; rfl
  | x :: xs, h => by
    obtain ⟨s1, e1, e2, e3, e4⟩ := h x (by simp)
    have ih := lcV_map al hw xs fun y hy => h y (List.mem_cons_of_mem _ hy)
    rw [List.map_cons, lcV, if_pos al, hw, e1]
    simp only [e2]
    cases hp : p x with
    | true =>
      simp only [e4 hp, e3, ih, List.filter_cons, hp, if_true, List.map_cons]
    | false =>
      simp only [e3, ih, List.filter_cons, hp]
      rfl
theorem lcV_all {α : Type} {J own : List Nat} {t : VTn} {fe : VE} {el : α → W} {out : α → W} {s : Vs} (xs : List α) (al : alive s J = true) (hw : wipeV s own = s)
    (h : ∀ x, x ∈ xs → ∃ s1, t (el x) s = some s1 ∧ wipeV s1 own = s ∧ fe s1 = .ok (out x) s1) : lcV J own t qYes fe (xs.map el) s = .ok (xs.map out) s := by
  have := lcV_map (tt := qYes) (p := fun _ => true) (out := out) (fe := fe) (el := el) (t := t) al hw xs fun x hx => by
    obtain ⟨s1, a, b, c⟩ := h x hx
    exact ⟨s1, a, rfl, b, fun _ => c⟩
  rwa [List.filter_eq_self.mpr (fun _ _ => rfl)] at this
/-- one that draws -/
def mapAcc {α β γ : Type} (f : β → α → γ × β) : β → List α → List γ × β
  | b, [] => ([], b)
  | b, x :: xs => let r := mapAcc f (f b x).2 xs; ((f b x).1 :: r.1, r.2)
theorem lcV_acc {α β γ : Type} {J own : List Nat} {t : VTn} {fe : VE} {el : α → W} {emb : β → Vs} {f : β → α → γ × β} {out : γ → W} {ok : β → Prop} : ∀ (xs : List α) (b : β) (s : Vs), ok b → alive s J = true → wipeV s own = emb b →
    (∀ c x, x ∈ xs → ok c → ∃ s1 s2, t (el x) (emb c) = some s1 ∧ fe s1 = .ok (out (f c x).1) s2 ∧ wipeV s2 own = emb (f c x).2 ∧ alive (wipeV s2 own) J = true ∧ ok (f c x).2) → (∀ c, wipeV (emb c) own = emb c) →
    lcV J own t qYes fe (xs.map el) s = .ok ((mapAcc f b xs).1.map out) (emb (mapAcc f b xs).2)
  | [], b, s, o, al, e, h, hw => by rw [List.map_nil, lcV, if_pos al, e]; rfl
  | x :: xs, b, s, o, al, e, h, hw => by
    obtain ⟨s1, s2, e1, e2, e3, al2, o2⟩ := h b x (by simp) o
    have ih := lcV_acc xs (f b x).2 (wipeV s2 own) o2 al2 (by rw [e3]; exact hw _) (fun c y hy oc => h c y (List.mem_cons_of_mem _ hy) oc) hw
    rw [List.map_cons, lcV, if_pos al, e, e1]
    simp only [qYes_run, e2, ih]
    rfl
theorem mapAcc_len {α β γ : Type} (f : β → α → γ × β) : ∀ (b : β) (xs : List α), (mapAcc f b xs).1.length = xs.length
  | b, [] => rfl
  | b, x :: xs => by simp [mapAcc, mapAcc_len f _ xs]
theorem rgW_len (lo : Int) (n : Nat) : (rgW lo n).length = n := by simp [rgW]
abbrev qLt : W → W → Option W := qCmp fun i j => decide (i < j)
abbrev qLe : W → W → Option W := qCmp fun i j => decide (i ≤ j)
abbrev qGt : W → W → Option W := qCmp fun i j => decide (j < i)
abbrev qGe : W → W → Option W := qCmp fun i j => decide (j ≤ i)
def qIop (f : Int → Int → Int) : W → W → Option W := fun x y => match x, y with
  | .im (.int i), .im (.int j) => some (.im (.int (f i j)))
  | _, _ => none
@[simp] theorem qIop_int (f : Int → Int → Int) (i j : Int) : qIop f (.im (.int i)) (.im (.int j)) = some (.im (.int (f i j))) := rfl
theorem ov_iop {f : Int → Int → Int} : OpV2 (iopG.vCmpI f) (qIop f) := by
  intro h Z w1 w2 u1 u2 x zl r1 r2 e
  unfold qIop at e
  split at e
  · rw [r1.int, r2.int]; cases e; exact gro_im (rp_int _)
  · cases e
def idxT : List Bool → Nat → List Nat
  | [], _ => []
  | true :: bs, n => n :: idxT bs (n + 1)
  | false :: bs, n => idxT bs (n + 1)
theorem idxT_get : ∀ {bs : List Bool} {n j : Nat}, bs[j]? = some true → n + j ∈ idxT bs n
  | true :: bs, n, 0, e => by simp [idxT]
  | true :: bs, n, j + 1, e => by
    have := idxT_get (n := n + 1) (j := j) (bs := bs) (by simpa using e)
    simp only [idxT, List.mem_cons]
    exact .inr (by rw [show n + (j + 1) = n + 1 + j by omega]; exact this)
  | false :: bs, n, 0, e => by simp at e
  | false :: bs, n, j + 1, e => by
    have := idxT_get (n := n + 1) (j := j) (bs := bs) (by simpa using e)
    simp only [idxT]
    rw [show n + (j + 1) = n + 1 + j by omega]; exact this
theorem vf_run' {n np : Nat} {io : List Bool} {b : Sv} {vb : VS} (hb : SVS (idxT io 0) [] b vb) (hn : np ≤ n) (hio : io.length = np) : SVF np (runDef n np b) (vRun n np io vb) := vf_run hb hn hio fun j e => by have := idxT_get (n := 0) e; simpa using this
@[simp] theorem atI_map {α β : Type} (f : α → β) (xs : List α) (i : Int) : L2.atI (xs.map f) i = (L2.atI xs i).map f := by
  unfold L2.atI
  rw [List.length_map]
  cases ixN xs.length i with
  | none => rfl
  | some k => simp
end Lz
namespace Lz
open PySem PySem.Spec PyProof.Rows L2
open Classical
/-! # what is told and frozen -/
def qFzk (w : W) (s : Vs) : VR W := .ok (.im w.frz) s
def qFz (g : VE) : VE := fun s => (g s).bind qFzk
theorem sv_fz {M : List Nat} {fa : Ev} {g : VE} (a : SVE M fa g) : SVE M fa (qFz g) := by
  refine ⟨fun s σ h Z A rs o => ?_⟩
  have := Po.bind0 (M2 := []) (r2 := RWr) (kR := fun u h => .ok u h) (kV := qFzk) o (a.run s σ h Z A rs o) fun u w h1 Z1 A1 F1 s1 _ r rs1 o1 t => by
    have r : RW h1 Z1 w u F1 := r
    refine ⟨u, h1, Un Z1 F1, A1, No, rfl, .mk_im (RW.frz (fun _ => .inl) r fun _ => .inr), ⟨rs1.1, fun i w' e => ?_⟩, ⟨o1.la, fun _ x => x.elim, fun a x => x.elim (o1.lz a) (o1.lf a), o1.aa, fun _ _ _ x => x, fun i a x z => z.elim (o1.az i a x) (o1.af i a x), fun _ x => x.elim⟩,
      ⟨Nat.le_refl _, fun _ _ _ _ => rfl, fun _ => .inl, fun a z => z.imp id fun y => .inr (.inl y), fun i a x => .inl ⟨i, x⟩, fun _ x => x.elim, rfl, fun i _ => .inr ⟨rfl, .refl _ _, .refl _⟩⟩⟩
    obtain ⟨u', e1, r1⟩ := rs1.2 i w' e
    exact ⟨u', e1, RW.frame (.refl _ _) (fun _ => .inl) w' (.refl _ _) (.refl _) r1⟩
  rw [res_bind_ok] at this
  exact this.wid (by simp)
@[simp] theorem qFz_run (g : VE) (s : Vs) : qFz g s = (g s).bind qFzk := rfl
@[simp] theorem qFzk_run (w : W) (s : Vs) : qFzk w s = .ok (.im w.frz) s := rfl
@[simp] theorem kit_Ni : kitB "NoneType" "int" = some false := by decide
@[simp] theorem kit_Nb : kitB "NoneType" "bool" = some false := by decide
@[simp] theorem kit_Ns : kitB "NoneType" "str" = some false := by decide
@[simp] theorem kit_Nt : kitB "NoneType" "tuple" = some false := by decide
@[simp] theorem kit_Nl : kitB "NoneType" "list" = some false := by decide
@[simp] theorem kit_Nd : kitB "NoneType" "dict" = some false := by decide
@[simp] theorem kit_bi : kitB "bool" "int" = some true := by decide
@[simp] theorem kit_bb : kitB "bool" "bool" = some true := by decide
@[simp] theorem kit_bs : kitB "bool" "str" = some false := by decide
@[simp] theorem kit_bt : kitB "bool" "tuple" = some false := by decide
@[simp] theorem kit_bl : kitB "bool" "list" = some false := by decide
@[simp] theorem kit_bd : kitB "bool" "dict" = some false := by decide
@[simp] theorem kit_ii : kitB "int" "int" = some true := by decide
@[simp] theorem kit_ib : kitB "int" "bool" = some false := by decide
@[simp] theorem kit_is : kitB "int" "str" = some false := by decide
@[simp] theorem kit_it : kitB "int" "tuple" = some false := by decide
@[simp] theorem kit_il : kitB "int" "list" = some false := by decide
@[simp] theorem kit_id : kitB "int" "dict" = some false := by decide
@[simp] theorem kit_si : kitB "str" "int" = some false := by decide
@[simp] theorem kit_sb : kitB "str" "bool" = some false := by decide
@[simp] theorem kit_ss : kitB "str" "str" = some true := by decide
@[simp] theorem kit_st : kitB "str" "tuple" = some false := by decide
@[simp] theorem kit_sl : kitB "str" "list" = some false := by decide
@[simp] theorem kit_sd : kitB "str" "dict" = some false := by decide
@[simp] theorem kit_ti : kitB "tuple" "int" = some false := by decide
@[simp] theorem kit_tb : kitB "tuple" "bool" = some false := by decide
@[simp] theorem kit_ts : kitB "tuple" "str" = some false := by decide
@[simp] theorem kit_tt : kitB "tuple" "tuple" = some true := by decide
@[simp] theorem kit_tl : kitB "tuple" "list" = some false := by decide
@[simp] theorem kit_td : kitB "tuple" "dict" = some false := by decide
@[simp] theorem kit_li : kitB "list" "int" = some false := by decide
@[simp] theorem kit_lb : kitB "list" "bool" = some false := by decide
@[simp] theorem kit_ls : kitB "list" "str" = some false := by decide
@[simp] theorem kit_lt : kitB "list" "tuple" = some false := by decide
@[simp] theorem kit_ll : kitB "list" "list" = some true := by decide
@[simp] theorem kit_ld : kitB "list" "dict" = some false := by decide
@[simp] theorem kit_di : kitB "dict" "int" = some false := by decide
@[simp] theorem kit_db : kitB "dict" "bool" = some false := by decide
@[simp] theorem kit_ds : kitB "dict" "str" = some false := by decide
@[simp] theorem kit_dt : kitB "dict" "tuple" = some false := by decide
@[simp] theorem kit_dl : kitB "dict" "list" = some false := by decide
@[simp] theorem kit_dd : kitB "dict" "dict" = some true := by decide
@[simp] theorem map_im_comp {α : Type} (f : α → P) (xs : List α) : List.map (W.im ∘ f) xs = xs.map fun x => .im (f x) := rfl
/-- a sequence of items that are only read -/
inductive Sq : W → List P → Prop
  | tup (ps : List P) : Sq (.im (.tup ps)) ps
  | fz (ps : List P) : Sq (.im (.fz ps)) ps
  | lst (ps : List P) : Sq (.lst (ps.map .im)) ps
section
variable {s : Vs} {i j : Nat} {w : W} {ps : List P}
theorem atI_get {α : Type} {xs : List α} {k : Nat} {x : α} (e : xs[k]? = some x) : L2.atI xs (k : Int) = some x := L2.atI_nat e
theorem atI_in {α : Type} {xs : List α} {i : Int} {x : α} (h0 : 0 ≤ i) (e : xs[i.toNat]? = some x) : L2.atI xs i = some x := by
  have : ((i.toNat : Nat) : Int) = i := by omega
  rw [← this]; exact L2.atI_nat e
theorem atI_last {α : Type} {xs : List α} {x : α} (e : xs.getLast? = some x) : L2.atI xs (-1) = some x := by
  rw [List.getLast?_eq_getElem?] at e
  have l : xs.length - 1 < xs.length := (List.getElem?_eq_some_iff.mp e).1
  unfold L2.atI L2.ixN
  rw [if_neg (by omega), if_pos (by omega)]
  simp only [Option.bind_some]
  have : ((-1 : Int) + (xs.length : Nat)).toNat = xs.length - 1 := by omega
  rw [this]; exact e
theorem Sq.ix (q : Sq w ps) (hs : s[i]? = some (some w)) {g : VH} {z : Int} (hg : g s = .ok (.v (.im (.int z))) s) {x : P} (e : L2.atI ps z = some x) : hIx (hVar i) g s = .ok (.v (.im x)) s := by
  cases q with
  | tup => simp [hs, hg, e]
  | fz => simp [hs, hg, e]
  | lst =>
    simp [hs, hg]
    exact ixL_im (by rw [atI_map, e]; rfl)
theorem Sq.len (q : Sq w ps) (hs : s[i]? = some (some w)) : qBi kLen (kCons (hVar i) kNil) s = .ok (.im (.int ps.length)) s := by
  cases q <;> simp [hs]
theorem Sq.it (q : Sq w ps) (hs : s[i]? = some (some w)) : qit (hVar i) s = .ok (ps.map .im) s := by
  cases q <;> simp [hs]
theorem Sq.alive (q : Sq w ps) (hs : s[i]? = some (some w)) : alive s [i] = true := by
  cases q <;> simp [hs]
theorem Sq.tru (q : Sq w ps) (hs : s[i]? = some (some w)) : qTru (hVar i) s = .ok (!ps.isEmpty) s := by
  cases q <;> simp [hs]
end
/-- how deep -/
def Fine : Nat → P → Prop
  | 0, _ => False
  | n + 1, p => match p with
    | .tup ps => ps.length ≤ 10000000 ∧ ∀ q, q ∈ ps → Fine n q
    | .fz ps => ps.length ≤ 10000000 ∧ ∀ q, q ∈ ps → Fine n q
    | .fr _ => False
    | .fin _ _ _ => False
    | _ => True
@[simp] theorem fine_int (n : Nat) (i : Int) : Fine (n + 1) (.int i) := trivial
@[simp] theorem fine_bl (n : Nat) (i : Bool) : Fine (n + 1) (.bl i) := trivial
@[simp] theorem fine_str (n : Nat) (i : Str) : Fine (n + 1) (.str i) := trivial
@[simp] theorem fine_non (n : Nat) : Fine (n + 1) .non := trivial
@[simp] theorem fine_tup (n : Nat) (ps : List P) : Fine (n + 1) (.tup ps) ↔ ps.length ≤ 10000000 ∧ ∀ q, q ∈ ps → Fine n q := Iff.rfl
@[simp] theorem fine_fz (n : Nat) (ps : List P) : Fine (n + 1) (.fz ps) ↔ ps.length ≤ 10000000 ∧ ∀ q, q ∈ ps → Fine n q := Iff.rfl
def Rep (w : W) (p : P) : Prop := w = .im p ∨ ∃ ps, p = .fz ps ∧ w = .lst (ps.map .im)
theorem Rep.im (p : P) : Rep (.im p) p := .inl rfl
theorem Rep.lst (ps : List P) : Rep (.lst (ps.map .im)) (.fz ps) := .inr ⟨ps, rfl, rfl⟩
theorem allTrue (n : Nat) : ((List.range n).map fun _ => true).all id = true := by simp
/-- a loop that draws: what holds is kept -/
theorem forV_keep {α β : Type} {J kill : List Nat} {t : VTn} {b : VS} {el : α → W} {emb : β → Vs} {ok : β → Prop} : ∀ (xs : List α) (b0 : β) (s : Vs), ok b0 → alive s J = true → wipeV s kill = emb b0 →
    (∀ c x, x ∈ xs → ok c → ∃ s2 c', (turnV t b (el x) (emb c)).on s2 ∧ alive s2 J = true ∧ wipeV s2 kill = emb c' ∧ ok c') → ∃ c, forV J kill t b (xs.map el) s = .nx (emb c) ∧ ok c
  | [], b0, s, o, al, e, h => ⟨b0, by rw [List.map_nil, forV_nil al, e], o⟩
  | x :: xs, b0, s, o, al, e, h => by
    obtain ⟨s2, c', e2, al2, w2, o2⟩ := h b0 x (by simp) o
    rw [List.map_cons, forV_cons al (by rw [e]; exact e2)]
    exact forV_keep xs c' s2 o2 al2 w2 fun c y hy oc => h c y (List.mem_cons_of_mem _ hy) oc
/-- a comprehension that draws -/
theorem lcV_ex {α β γ : Type} {J own : List Nat} {t : VTn} {fe : VE} {el : α → W} {emb : β → Vs} {out : γ → W} {ok : β → Prop} {good : γ → Prop} : ∀ (xs : List α) (b : β) (s : Vs), ok b → alive s J = true → wipeV s own = emb b →
    (∀ c x, x ∈ xs → ok c → ∃ s1 s2 y c', t (el x) (emb c) = some s1 ∧ fe s1 = .ok (out y) s2 ∧ wipeV s2 own = emb c' ∧ alive (wipeV s2 own) J = true ∧ ok c' ∧ good y) → (∀ c, wipeV (emb c) own = emb c) →
    ∃ (zs : List γ) (c : β), lcV J own t qYes fe (xs.map el) s = .ok (zs.map out) (emb c) ∧ ok c ∧ zs.length = xs.length ∧ ∀ z, z ∈ zs → good z
  | [], b, s, o, al, e, h, hw => ⟨[], b, by rw [List.map_nil, lcV, if_pos al, e]; rfl, o, rfl, fun _ x => by simp at x⟩
  | x :: xs, b, s, o, al, e, h, hw => by
    obtain ⟨s1, s2, y, c', e1, e2, e3, al2, o2, g⟩ := h b x (by simp) o
    obtain ⟨zs, c, ih, oc, l, gs⟩ := lcV_ex xs c' (wipeV s2 own) o2 al2 (by rw [e3]; exact hw _) (fun c y hy oc => h c y (List.mem_cons_of_mem _ hy) oc) hw
    refine ⟨y :: zs, c, ?_, oc, by simp [l], fun z hz => ?_⟩
    · rw [List.map_cons, lcV, if_pos al, e, e1]
      simp only [qYes_run, e2, ih]
      rfl
    · rcases List.mem_cons.mp hz with rfl | hz
      · exact g
      · exact gs z hz
/-! ## x in xs -/
def flP : W → Option V
  | .im .non => some .non
  | .im (.bl b) => some (.bl b)
  | .im (.int i) => some (.int i)
  | .im (.str x) => some (.str x)
  | _ => none
theorem flP_rel {h : Hb} {Z G : St} {w : W} {u : U} {v : V} (r : RW h Z w u G) (e : flP w = some v) : flU u = some v := by
  have r : Rd h Z w u := ⟨G, r⟩
  unfold flP at e
  split at e
  · rw [r.non]; exact e
  · rw [r.bl]; exact e
  · rw [r.int]; exact e
  · rw [r.str]; exact e
  · cases e
theorem flPs_rel {h : Hb} {Z : St} : ∀ {ws : List W} {us : List U} {G : St} {vs : List V}, RWs h Z ws us G → mapO flP ws = some vs → mapO flU us = some vs
  | [], us, G, vs, r, e => by rw [r.nil_inv]; exact e
  | w :: ws, us, G, vs, r, e => by
    obtain ⟨u, q, F1, F2, rfl, d, s1, s2, a, b⟩ := r.cons_inv
    simp only [mapO] at e ⊢
    split at e
    · rename_i y ys e1 e2
      rw [flP_rel a e1, flPs_rel b e2]; exact e
    · cases e
def qIn (neg : Bool) : W → W → Option W := fun x y => match flP x, (seqP y).bind (mapO flP) with
  | some v, some vs => some (.im (.bl (if neg then !L2.inV v vs else L2.inV v vs)))
  | _, _ => none
theorem ov_in {neg : Bool} : OpV2 (vIn neg) (qIn neg) := by
  intro h Z w1 w2 u1 u2 x zl r1 r2 e
  unfold qIn at e
  split at e
  · rename_i v vs e1 e2
    cases e
    obtain ⟨ws, e3, e4⟩ := Option.bind_eq_some_iff.mp e2
    obtain ⟨us, G, e5, q, _⟩ := seqP_rel r2 e3
    obtain ⟨G1, r1⟩ := r1
    unfold vIn
    simp only [flP_rel r1 e1, e5, Option.bind_some, flPs_rel q e4]
    exact gro_im (rp_bl _)
  · cases e
@[simp] theorem flP_int (i : Int) : flP (.im (.int i)) = some (.int i) := rfl
@[simp] theorem flP_str (i : Str) : flP (.im (.str i)) = some (.str i) := rfl
theorem mapO_ints (xs : List Int) : mapO flP (xs.map fun x => .im (.int x)) = some (xs.map .int) := by
  induction xs with
  | nil => rfl
  | cons x xs ih => simp [mapO, ih]
theorem inV_ints (x : Int) (xs : List Int) : L2.inV (.int x) (xs.map .int) = decide (x ∈ xs) := by
  unfold L2.inV
  rw [List.any_map]
  apply Bool.eq_iff_iff.mpr
  simp [L2.eqV]
@[simp] theorem qIn_run (neg : Bool) (x y : W) : qIn neg x y = (match flP x, (seqP y).bind (mapO flP) with | some v, some vs => some (.im (.bl (if neg then !L2.inV v vs else L2.inV v vs))) | _, _ => none) := rfl
/-! ## displays with *xs -/
def aqS2 (ws ys : List W) (s : Vs) : VR (List W) := .ok (ws ++ ys) s
def aqS1 (gs : VA) (d : Hd) (s : Vs) : VR (List W) := match (rd s d).bind seqP with
  | some ws => if (imL ws).isSome then (gs s).bind (aqS2 ws) else .bad
  | none => .bad
def aqStar (g : VH) (gs : VA) : VA := fun s => (g s).bind (aqS1 gs)
theorem sq_star {M1 M2 I1 J1 : List Nat} {fa : Ev} {fs : Ea} {g : VH} {gs : VA} (a : SVH M1 I1 J1 fa g) (b : SVA M2 fs gs) : SVA (M1 ++ M2) (aStar fa fs) (aqStar g gs) := by
  refine ⟨fun s σ h Z A rs o => ?_⟩
  refine (Po.bind0 (M2 := M2 ++ []) (r2 := RWsr) (kR := aS1 fs σ) (kV := aqS1 gs) o (a.run s σ h Z A rs o) fun u d h1 Z1 A1 F1 s1 _ r1 rs1 o1 t1 => ?_).wid (by simp)
  unfold aqS1
  split
  · rename_i ws e
    obtain ⟨w, e1, e2⟩ := Option.bind_eq_some_iff.mp e
    split
    · rename_i il
      obtain ⟨ps, il⟩ := Option.isSome_iff_exists.mp il
      obtain ⟨us, G, e3, q, _⟩ := seqP_rel (RH.rd r1 rs1 e1) e2
      have q := q.im il
      unfold aS1
      rw [e3]
      refine Po.beside (kR := aS2 us) (kV := aqS2 ws) o1 (b.run s1 σ h1 Z1 A1 rs1 (ok_no o1)) fun ys wy h2 Z2 A2 F2 s2 _ r2 rs2 o2 d kb kz zz t2 => ?_
      have r2 : RWs h2 Z2 wy ys F2 := r2
      have q2 := (RPs.frame kz zz ps q).ws
      rw [← imL_eq il] at q2
      exact Po.ok (F1 := F2) (show RWs h2 Z2 (ws ++ wy) (us ++ ys) F2 from (RWs.append (fun _ x => x.elim) q2 r2).mono fun c x => x.elim False.elim id) (fun _ => .inl) rs2 o2
    · trivial
  · trivial
@[simp] theorem aqStar_run (g : VH) (gs : VA) (s : Vs) : aqStar g gs s = (g s).bind (aqS1 gs) := rfl
@[simp] theorem aqS1_run (gs : VA) (d : Hd) (s : Vs) : aqS1 gs d s = (match (rd s d).bind seqP with | some ws => if (imL ws).isSome then (gs s).bind (aqS2 ws) else .bad | none => .bad) := rfl
@[simp] theorem aqS2_run (ws ys : List W) (s : Vs) : aqS2 ws ys s = .ok (ws ++ ys) s := rfl
theorem ixN_last (n : Nat) : L2.ixN (n + 1) (-1) = some n := by
  unfold L2.ixN
  rw [if_neg (by omega), if_pos (by omega)]
  congr 1; omega
@[simp] theorem ixL_last (j : Nat) (p : List Nat) (ws : List W) (x : W) (s : Vs) : ixL j p (ws ++ [x]) (-1) s = ixR j p ws.length x s := ixL_at (by rw [List.length_append]; exact ixN_last _) (by simp)
@[simp] theorem putL_last (j : Nat) (p : List Nat) (w w0 : W) (ws : List W) (x : W) (s : Vs) : putL j p w (-1) (ws ++ [x]) w0 s = .nx (s.set j (some (setP w0 p (.lst (ws ++ [w]))))) := by
  unfold putL
  rw [List.length_append, show [x].length = 1 from rfl, ixN_last]
  simp
@[simp] theorem atI_lastx {α : Type} (xs : List α) (x : α) : L2.atI (xs ++ [x]) (-1) = some x := by
  unfold L2.atI
  rw [List.length_append, show [x].length = 1 from rfl, ixN_last]
  simp
/-- a fold with the turn's number -/
theorem forV_foldN {α β : Type} {J kill : List Nat} {t : VTn} {b : VS} {el : α → W} {emb : β → Vs} {step : β → α → β} : ∀ (xs : List α) (ok : Nat → β → Prop) (b0 : β) (s : Vs), ok 0 b0 → alive s J = true → wipeV s kill = emb b0 →
    (∀ (i : Nat) c x, xs[i]? = some x → ok i c → ∃ s2, (turnV t b (el x) (emb c)).on s2 ∧ alive s2 J = true ∧ wipeV s2 kill = emb (step c x) ∧ ok (i + 1) (step c x)) → forV J kill t b (xs.map el) s = .nx (emb (xs.foldl step b0)) ∧ ok xs.length (xs.foldl step b0)
  | [], ok, b0, s, o, al, e, h => ⟨by rw [List.map_nil, forV_nil al, e]; rfl, o⟩
  | x :: xs, ok, b0, s, o, al, e, h => by
    obtain ⟨s2, e2, al2, w2, o2⟩ := h 0 b0 x rfl o
    rw [List.map_cons, forV_cons al (by rw [e]; exact e2)]
    exact forV_foldN xs (fun i => ok (i + 1)) (step b0 x) s2 o2 al2 w2 fun i c y hy oc => h (i + 1) c y (by simpa using hy) oc
@[simp] theorem isEmpty_snoc {α : Type} (xs : List α) (x : α) : (xs ++ [x]).isEmpty = false := by cases xs <;> rfl
@[simp] theorem imL_append (a b : List W) : imL (a ++ b) = (imL a).bind fun x => (imL b).map fun y => x ++ y := by
  induction a with
  | nil => simp
  | cons w a ih =>
    cases w with
    | im p =>
      simp only [List.cons_append, imL_cons, ih]
      cases imL a with
      | none => rfl
      | some x => cases imL b <;> rfl
    | _ => rfl
@[simp] theorem imL_reverse (a : List W) : imL a.reverse = (imL a).map List.reverse := by
  cases h : imL a with
  | some ps => rw [imL_rev h]; rfl
  | none =>
    cases h2 : imL a.reverse with
    | none => rfl
    | some ps => have := imL_rev h2; rw [List.reverse_reverse, h] at this; cases this
@[simp] theorem imL_replicate (n : Nat) (p : P) : imL (List.replicate n (.im p)) = some (List.replicate n p) := by
  have := imL_map (List.replicate n p)
  rwa [List.map_replicate] at this
/-- a loop that draws, with the turn's number -/
theorem forV_keepN {α β : Type} {J kill : List Nat} {t : VTn} {b : VS} {el : α → W} {emb : β → Vs} : ∀ (xs : List α) (ok : Nat → β → Prop) (b0 : β) (s : Vs), ok 0 b0 → alive s J = true → wipeV s kill = emb b0 →
    (∀ (i : Nat) c x, xs[i]? = some x → ok i c → ∃ s2 c', (turnV t b (el x) (emb c)).on s2 ∧ alive s2 J = true ∧ wipeV s2 kill = emb c' ∧ ok (i + 1) c') → ∃ c, forV J kill t b (xs.map el) s = .nx (emb c) ∧ ok xs.length c
  | [], ok, b0, s, o, al, e, h => ⟨b0, by rw [List.map_nil, forV_nil al, e], o⟩
  | x :: xs, ok, b0, s, o, al, e, h => by
    obtain ⟨s2, c', e2, al2, w2, o2⟩ := h 0 b0 x rfl o
    rw [List.map_cons, forV_cons al (by rw [e]; exact e2)]
    exact forV_keepN xs (fun i => ok (i + 1)) c' s2 o2 al2 w2 fun i c y hy oc => h (i + 1) c y (by simpa using hy) oc
end Lz
namespace Lz
open PySem PySem.Spec PyProof.Rows L2
/-! # exception classes: the facts of the written part put together -/
section
variable {K : PySem.W.Frag}
theorem exm1 {D C : Addr} {b : Bool} (h1 : PySem.W.subIn K (.ref C) (.type "BaseException") = some true) (h2 : PySem.W.isClsIn K C = true) (h3 : PySem.W.typeIn K (.ref C) = some (.type "type")) (h4 : PySem.W.subIn K (.ref D) (.ref C) = some b) : PySem.W.exmOne K (.ref D) (.ref C) = some b := by
  have e1 : (PySem.W.subIn K (.ref C) (.type "BaseException") == some true) = true := by rw [h1]; rfl
  have e2 : ((PySem.W.clsIn K C).isSome && PySem.W.typeIn K (.ref C) == some (.type "type")) = true := by
    have h2' : (PySem.W.clsIn K C).isSome = true := h2
    rw [h2', h3]; rfl
  show (if (PySem.W.subIn K (.ref C) (.type "BaseException") == some true) = true then (if ((PySem.W.clsIn K C).isSome && PySem.W.typeIn K (.ref C) == some (.type "type")) = true then PySem.W.subIn K (.ref D) (.ref C) else none) else none) = some b
  rw [if_pos e1, if_pos e2]
  exact h4
theorem cls_at {C : Addr} {nm q : Str} {N : Addr} {bs bm : List Value} {sn : List Str} {sub : List Value} {ab : Bool} {col : Option Bool} {dd : Option Addr} {m0 m1 m2 m3 m5 : Option Value} {nw : String}
    (xl : K.lookup C = some (PySem.excClassObj nm q C N bs bm true sn sub ab col dd m0 m1 m2 m3 m5 nw)) : ∃ cd, PySem.W.clsIn K C = some cd ∧ cd.mro = .ref C :: bm := by
  unfold PySem.W.clsIn
  rw [xl]
  exact ⟨_, rfl, rfl⟩
theorem sup_at {C D : Addr} {bm : List Value} {v : Value} (h1 : ∃ cd, PySem.W.clsIn K C = some cd ∧ cd.mro = .ref C :: .ref D :: bm) (h2 : ∃ cd, PySem.W.clsIn K D = some cd ∧ cd.mro = .ref D :: bm)
    (h3 : PySem.W.findIn K (.ref D) "__init__" = some (some v)) : PySem.W.ks_superIn K C C "__init__" = some (some v) := by
  obtain ⟨cd, e1, e2⟩ := h1
  obtain ⟨dd, e3, e4⟩ := h2
  unfold PySem.W.ks_superIn
  rw [e1]
  show PySem.W.alongIn K "__init__" ((cd.mro.dropWhile (· != .ref C)).drop 1) = _
  rw [e2]
  have : (List.dropWhile (· != Value.ref C) (Value.ref C :: Value.ref D :: bm)).drop 1 = Value.ref D :: bm := by
    rw [List.dropWhile_cons]
    simp
  rw [this, ← e4]
  unfold PySem.W.findIn at h3
  unfold PySem.W.clsIn at e3
  split at e3
  · rename_i ho
    cases e3
    simp only [ho] at h3
    exact h3
  · cases e3
theorem sp_true {W : Wd} {r : GC} {a : Addr} {ns : List Int} {H : Hp} {Q : VK} {E : XK} (hO : Only H) (hS : SqL W.K H a (ns.map V.int)) {h' : Hb} (hr : r [.ref 0] [.fro (ns.map U.int)] = .ok (.bl true) h') (hq : ∀ H', Q (.bl true) H') :
    spOf W 1 r [.ref a] H Q E := by
  obtain ⟨h0, m, us, h, h1, h2, h3⟩ := sp_law (W := W) (r := r) hO hS hr
  refine ⟨rfl, [a], [.ref 0], [.fro (ns.map U.int)], ?_, .cons (by unfold RV; exact ⟨a, rfl, rfl⟩) .nil, ?_⟩
  · refine ⟨rfl, fun i j b h1 h2 n1 n2 => ?_, fun i o b h1 h2 => ?_⟩
    · have hi : i = 0 := by
        cases i with
        | zero => rfl
        | succ i => simp at h1
      subst hi
      exact absurd rfl (n1 (ns.map U.int))
    · have hi : i = 0 := by
        cases i with
        | zero => rfl
        | succ i => simp at h1
      subst hi
      simp at h1 h2
      subst h1 h2
      refine ⟨ns.map V.int, ?_, ints_rv ns⟩
      rcases hS with (hS | ⟨o, hS⟩) | hS
      · rcases hO a with z | ⟨o, xs, z⟩
        · rw [z] at hS; cases hS
        · rw [z] at hS; cases hS
      · exact .inl ⟨o, hS⟩
      · exact .inr hS
  · rw [hr]
    intro m' H' v _ _ rv
    unfold RV at rv
    subst rv
    exact hq H'
/-- the law's promise -/
def spTrue (K : PySem.W.Frag) (r : GC) : Sp := fun vs H Q E => ∃ (a : Addr) (ns : List Int), vs = [.ref a] ∧ Only H ∧ SqL K H a (ns.map V.int) ∧ (∃ h', r [.ref 0] [.fro (ns.map U.int)] = .ok (.bl true) h') ∧ ∀ H', Q (.bl true) H'
theorem sp_true' {W : Wd} {r : GC} : ∀ vs H Q E, spTrue W.K r vs H Q E → spOf W 1 r vs H Q E := fun vs H Q E h => by
  obtain ⟨a, ns, rfl, hO, hS, ⟨h', hr⟩, hq⟩ := h
  exact sp_true hO hS hr hq
theorem g_exc0 {W : Wd} {P : Program} {w : World} {mg : Str → Option Value} {base : Heap} {k c : Nat} {x : Str} {C : Addr} (hC : W.ca c = C) (hn : c < W.n) (hm : mg x = some (.ref C)) (h : X0 W.K C) : GOk W P w mg base k x (.exc c none) := by
  subst hC; exact ⟨hn, hm, h⟩
theorem g_excX {W : Wd} {P : Program} {w : World} {mg : Str → Option Value} {base : Heap} {c n : Nat} {x : Str} {C : Addr} {as : List (Str × Nat)} (hC : W.ca c = C) (hn : c < W.n) (hm : mg x = some (.ref C)) (h : XI P w W.K mg base 1 C n as) : GOk W P w mg base 2 x (.exc c (some (n, as))) := by
  subst hC; exact ⟨hn, hm, 1, Nat.le_refl _, h⟩
end
@[simp] theorem enW_tup (d : Hd) (ps : List P) : enW d (.im (.tup ps)) = some ((enP ps).map .im) := rfl
/-! # more -/
theorem cutTo {α : Type} {xs : List α} {k : Nat} (h : k ≤ xs.length) : cutU xs none (some (k : Int)) = xs.take k := by
  unfold cutU
  simp only [HT.sIx_none, HT.sIx_nat]
  simp [Nat.min_eq_left h]
theorem cutFrom {α : Type} {xs : List α} {k : Nat} (h : k ≤ xs.length) : cutU xs (some (k : Int)) none = xs.drop k := by
  unfold cutU
  simp only [HT.sIx_none, HT.sIx_nat]
  simp [Nat.min_eq_left h]
  exact List.take_of_length_le (by simp)

theorem zpP_cons (p q : P) (ps qs : List P) : zpP (p :: ps) (q :: qs) = .tup [p, q] :: zpP ps qs := by
  unfold zpP
  rw [List.length_cons, List.length_cons, Nat.succ_min_succ, List.range_succ_eq_map, List.map_cons, List.map_map]
  rfl
theorem forV_wipe {J kill : List Nat} {t : VTn} {b : VS} {s s' : Vs} (h1 : alive s J = true) (h2 : alive s' J = true) (h3 : wipeV s kill = wipeV s' kill) : ∀ l, forV J kill t b l s = forV J kill t b l s'
  | [] => by rw [forV_nil h1, forV_nil h2, h3]
  | x :: l => by rw [forV, forV, if_pos h1, if_pos h2, h3]
def enF : Nat → List P → List P
  | _, [] => []
  | i, p :: ps => .tup [.int (i : Nat), p] :: enF (i + 1) ps
theorem enP_F (ps : List P) : enP ps = enF 0 ps := by
  have : ∀ (ps : List P) (i : Nat), (List.range ps.length).map (fun k => P.tup [.int ((i + k : Nat) : Int), ps.getD k .non]) = enF i ps := by
    intro ps
    induction ps with
    | nil => intro i; rfl
    | cons p ps ih =>
      intro i
      rw [List.length_cons, List.range_succ_eq_map, List.map_cons, List.map_map, enF, ← ih (i + 1)]
      congr 1
      refine List.map_congr_left fun k _ => ?_
      show P.tup [.int ((i + (k + 1) : Nat) : Int), _] = P.tup [.int ((i + 1 + k : Nat) : Int), _]
      rw [show i + (k + 1) = i + 1 + k by omega]
      rfl
  have h := this ps 0
  unfold enP
  simpa using h
/-! # raise and try run -/
section
variable {s : Vs} {x : VEx}
@[simp] theorem vRaiseX_run (c n : Nat) (as : List (Str × Nat)) (g : VA) : vRaiseX c n as g s = (g s).thn (vRzk c n as) := rfl
@[simp] theorem vRzk_run (c n : Nat) (as : List (Str × Nat)) (ws : List W) : vRzk c n as ws s = (match imL ws with | some ps => if ps.length = n ∧ n ≤ 1000 then .ex ⟨c, xNs as, xPs as ps⟩ s else .bad | none => .bad) := rfl
@[simp] theorem vRaise0_run (c : Nat) (g : VA) : vRaise0 c g s = (g s).thn (vRz0k c) := rfl
@[simp] theorem vRz0k_run (c : Nat) (ws : List W) : vRz0k c ws s = if ws.length ≤ 10000000 then .ex ⟨c, [], []⟩ s else .bad := rfl
@[simp] theorem vTry_run (sub : Nat → Nat → Bool) (n : Nat) (b : VS) (l : List (Nat × Option Nat × (VEx → VS))) : vTry sub n b l s = trykV sub n l (b s) := rfl
variable {sub : Nat → Nat → Bool} {n : Nat} {l : List (Nat × Option Nat × (VEx → VS))}
@[simp] theorem trykV_nx : trykV sub n l (.nx s) = .nx s := rfl
@[simp] theorem trykV_rt (w : W) : trykV sub n l (.rt w s) = .rt w s := rfl
@[simp] theorem trykV_bk : trykV sub n l (.bk s) = .bk s := rfl
@[simp] theorem trykV_ct : trykV sub n l (.ct s) = .ct s := rfl
@[simp] theorem trykV_ex : trykV sub n l (.ex x s) = catchV sub n l x s := rfl
@[simp] theorem catchV_nil : catchV sub n [] x s = .ex x s := rfl
@[simp] theorem catchV_cons (c : Nat) (i : Option Nat) (g : VEx → VS) : catchV sub n ((c, i, g) :: l) x s = if x.c < n ∧ c < n then (if sub x.c c = true then suiteV i g x s else catchV sub n l x s) else .bad := rfl
@[simp] theorem suiteV_run (i : Option Nat) (g : VEx → VS) : suiteV i g x s = if inS i s.length = true then (g x (goneV i s)).gone i else .bad := rfl
@[simp] theorem inS_no (k : Nat) : inS none k = true := rfl
@[simp] theorem inS_so (i k : Nat) : inS (some i) k = decide (i < k) := rfl
@[simp] theorem goneV_no : goneV none s = s := rfl
@[simp] theorem goneV_so (i : Nat) : goneV (some i) s = s.set i none := rfl
@[simp] theorem gone_nx (i : Option Nat) : (VSR.nx s).gone i = .nx (goneV i s) := rfl
@[simp] theorem gone_bk (i : Option Nat) : (VSR.bk s).gone i = .bk (goneV i s) := rfl
@[simp] theorem gone_ct (i : Option Nat) : (VSR.ct s).gone i = .ct (goneV i s) := rfl
@[simp] theorem gone_rt (i : Option Nat) (w : W) : (VSR.rt w s).gone i = .rt w s := rfl
@[simp] theorem vuRet_run (g : XP) : vuRet g x s = (match g x with | some p => .rt (.im p) s | none => .bad) := rfl
@[simp] theorem vuSt_run (v : VS) : vuSt v x s = v s := rfl
@[simp] theorem pCon_run (p : P) : pCon p x = some p := rfl
@[simp] theorem pNil_run : pNil x = some [] := rfl
@[simp] theorem pCons_run (f : XP) (g : VEx → Option (List P)) : pCons f g x = (match f x, g x with | some p, some ps => some (p :: ps) | _, _ => none) := rfl
@[simp] theorem pTup_run (g : VEx → Option (List P)) : pTup g x = (match g x with | some ps => if ps.length ≤ 10000000 then some (.tup ps) else none | none => none) := rfl
@[simp] theorem pAt_run (n : Nat) (ats : List Str) (f : Str) : pAt n ats f x = if x.c < n ∧ f ∈ ats then lkP f x.ns x.ps else none := rfl
@[simp] theorem lkP_cons (f k : Str) (ks : List Str) (p : P) (ps : List P) : lkP f (k :: ks) (p :: ps) = if f = k then some p else lkP f ks ps := rfl
@[simp] theorem xNs_one (f : Str) (k : Nat) : xNs [(f, k)] = [f] := rfl
@[simp] theorem xPs_one (f : Str) (k : Nat) (ps : List P) : xPs [(f, k)] ps = [ps.getD k .non] := rfl
end
end Lz
namespace Lz
theorem so_ne {K L : List Nat} {i : Nat} (h : i ∉ K ++ L) : ∀ j, some i = some j → ∀ k, k ∈ K ∨ k ∈ L → k ≠ j := fun j e k hk z => by
  cases e
  subst z
  exact h (List.mem_append.mpr hk)
end Lz
namespace Lz
open PySem PySem.Spec PyProof.Rows L2
/-! # rows of ints are compared -/
theorem toDi : ∀ (xs : List Int) (n : Nat), mapO (P.toD n) (xs.map P.int) = some (xs.map PyData.int)
  | [], n => rfl
  | x :: xs, n => by
    have e : P.toD n (.int x) = some (.int x) := by cases n <;> rfl
    simp [mapO, toDi xs n, e]
theorem layi : ∀ xs : List Int, PyData.canLayAll0 (xs.map PyData.int) = true ∧ PyData.depthAll (xs.map PyData.int) = 0
  | [] => ⟨rfl, rfl⟩
  | x :: xs => by
    obtain ⟨h1, h2⟩ := layi xs
    simp [PyData.canLayAll0, PyData.canLay0, PyData.depthAll, PyData.depth, h1, h2]
theorem eqvi : ∀ xs ys : List Int, PyData.eqvAll (xs.map PyData.int) (ys.map PyData.int) = decide (xs = ys)
  | [], [] => by simp [PyData.eqvAll]
  | x :: xs, [] => by simp [PyData.eqvAll]
  | [], y :: ys => by simp [PyData.eqvAll]
  | x :: xs, y :: ys => by
    simp only [List.map_cons, PyData.eqvAll, eqvi xs ys, PyData.eqv]
    by_cases h : x = y <;> by_cases h2 : xs = ys <;> simp [h, h2]
theorem eqTi (xs ys : List Int) : eqP (.tup (xs.map .int)) (.tup (ys.map .int)) = some (decide (xs = ys)) := by
  have d : ∀ xs : List Int, P.toD 60 (.tup (xs.map .int)) = some (.tuple (xs.map PyData.int)) := fun xs => by
    show (mapO (P.toD 59) (xs.map P.int)).map PyData.tuple = _
    rw [toDi]; rfl
  have s : ∀ xs : List Int, SeqAt.shaped (.tuple (xs.map PyData.int)) = true := fun xs => by
    obtain ⟨h1, h2⟩ := layi xs
    have c : PyData.canLay0 (.tuple (xs.map PyData.int)) = true := by simp [PyData.canLay0, h1]
    simp [SeqAt.shaped, c, PyData.depth, h2]
  show eqDeep _ _ = _
  unfold eqDeep
  simp only [d, s, and_self, if_true]
  rw [PyData.eqv, eqvi]
theorem eqLi (xs ys : List Int) : eqP (.fz (xs.map .int)) (.fz (ys.map .int)) = some (decide (xs = ys)) := by
  have d : ∀ xs : List Int, P.toD 60 (.fz (xs.map .int)) = some (.list (xs.map PyData.int)) := fun xs => by
    show (mapO (P.toD 59) (xs.map P.int)).map PyData.list = _
    rw [toDi]; rfl
  have s : ∀ xs : List Int, SeqAt.shaped (.list (xs.map PyData.int)) = true := fun xs => by
    obtain ⟨h1, h2⟩ := layi xs
    have c : PyData.canLay0 (.list (xs.map PyData.int)) = true := by simp [PyData.canLay0, h1]
    simp [SeqAt.shaped, c, PyData.depth, h2]
  show eqDeep _ _ = _
  unfold eqDeep
  simp only [d, s, and_self, if_true]
  rw [PyData.eqv, eqvi]
theorem qNeTi (xs ys : List Int) : qNe (.im (.tup (xs.map .int))) (.im (.tup (ys.map .int))) = some (.im (.bl (!decide (xs = ys)))) := by
  unfold qNe
  show (eqP (.tup (xs.map .int)) (.tup (ys.map .int))).map _ = _
  rw [eqTi]; rfl
def rgF : Nat → Nat → List W
  | _, 0 => []
  | i, n + 1 => .im (.int (i : Nat)) :: rgF (i + 1) n
theorem rgW_F : ∀ (n i : Nat), rgW (i : Int) n = rgF i n := by
  intro n
  induction n with
  | zero => intro i; rfl
  | succ n ih =>
    intro i
    rw [rgF, ← ih (i + 1)]
    unfold rgW
    rw [List.range_succ_eq_map, List.map_cons, List.map_map]
    congr 1
    · refine List.map_congr_left fun k _ => ?_
      show W.im (.int ((i : Int) + ((k + 1 : Nat) : Int))) = W.im (.int (((i + 1 : Nat) : Int) + (k : Int)))
      congr 2
      omega
theorem rgF_len : ∀ (n i : Nat), (rgF i n).length = n
  | 0, _ => rfl
  | n + 1, i => by simp [rgF, rgF_len n]
end Lz
namespace Lz
open PySem PySem.Spec PyProof.Rows L2
theorem forV_nxt {J kill : List Nat} {t : VTn} {b : VS} {w : W} {ws : List W} {s s2 s3 : Vs} (al : alive s J = true) (e : (turnV t b w (wipeV s kill)).on s2) (a2 : alive s2 J = true) (a3 : alive s3 J = true) (h : wipeV s2 kill = wipeV s3 kill) : forV J kill t b (w :: ws) s = forV J kill t b ws s3 := by
  rw [forV_cons al e, forV_wipe a2 a3 h]
end Lz
namespace Lz
theorem on_of {r : VSR} {s : Vs} (e : r = .nx s) : r.on s := .inl e
end Lz
namespace Lz
open PySem PySem.Spec PyProof.Rows L2
/-! # list(range(..)), tuple(range(..)) -/
noncomputable def qRgE (t : Bool) (i j : Int) : Option W := cIf (RgOk i j) (some (if t = true then .im (.tup ((rgI i j).map .int)) else .lst ((rgI i j).map fun k => .im (.int k)))) none
noncomputable def qRgv1 (t : Bool) : W → Option W := fun x => match x with
  | .im (.int j) => qRgE t 0 j
  | _ => none
noncomputable def qRgv2 (t : Bool) : W → W → Option W := fun x y => match x, y with
  | .im (.int i), .im (.int j) => qRgE t i j
  | _, _ => none
theorem rgE_gro {h : Hb} {Z : St} {t : Bool} {i j : Int} {x : W} (zl : ∀ a, Z a → a < h.length) (e : qRgE t i j = some x) : Gro h Z x (rgK t i j h) := by
  obtain ⟨ok, e⟩ := cIf_some e
  cases e
  unfold rgK
  rw [if_pos ok]
  cases t with
  | true => exact gro_im (rp_tup rps_ints)
  | false =>
    have r : RPs h Z ((rgI i j).map P.int) ((rgI i j).map U.int) := rps_ints
    have := r.ws
    rw [List.map_map] at this
    exact gro_lst (G := No) zl this (ps := (rgI i j).map P.int) (by have := imL_map ((rgI i j).map P.int); rw [List.map_map] at this; exact this)
theorem ov_rg1 (t : Bool) : OpV1 (vRg1 t) (qRgv1 t) := by
  intro h Z w u x zl r e
  unfold qRgv1 at e
  split at e
  · rw [r.int]; exact rgE_gro zl e
  · cases e
theorem ov_rg2 (t : Bool) : OpV2 (vRg2 t) (qRgv2 t) := by
  intro h Z w1 w2 u1 u2 x zl r1 r2 e
  unfold qRgv2 at e
  split at e
  · rw [r1.int, r2.int]; exact rgE_gro zl e
  · cases e
theorem qRgv1_l {j : Int} (ok : RgOk 0 j) : qRgv1 false (.im (.int j)) = some (.lst ((rgI 0 j).map fun k => .im (.int k))) := cIf_pos ok _ _
theorem qRgv1_t {j : Int} (ok : RgOk 0 j) : qRgv1 true (.im (.int j)) = some (.im (.tup ((rgI 0 j).map .int))) := cIf_pos ok _ _
theorem qRgv2_l {i j : Int} (ok : RgOk i j) : qRgv2 false (.im (.int i)) (.im (.int j)) = some (.lst ((rgI i j).map fun k => .im (.int k))) := cIf_pos ok _ _
theorem qRgv2_t {i j : Int} (ok : RgOk i j) : qRgv2 true (.im (.int i)) (.im (.int j)) = some (.im (.tup ((rgI i j).map .int))) := cIf_pos ok _ _
end Lz
namespace Lz
open PySem PySem.Spec PyProof.Rows L2
theorem vWhile_wipe {kill : List Nat} {c : VB} {b : VS} {s s' : Vs} (h : wipeV s kill = wipeV s' kill) : vWhile kill c b s = vWhile kill c b s' := by
  have e : ∀ n, whileNV kill c b n s = whileNV kill c b n s' := fun n => by
    cases n with
    | zero => rfl
    | succ n => simp only [whileNV, h]
  by_cases hx : ∃ n r, whileNV kill c b n s = some r
  · obtain ⟨n, r, e1⟩ := hx
    rw [vWhile_of e1, vWhile_of (by rw [← e]; exact e1)]
  · have hy : ¬ ∃ n r, whileNV kill c b n s' = some r := fun ⟨n, r, e1⟩ => hx ⟨n, r, by rw [e]; exact e1⟩
    unfold vWhile
    rw [dif_neg hx, dif_neg hy]
end Lz
namespace Lz
open PySem PySem.Spec PyProof.Rows L2
open Classical
/-! # a[i], b[j] = x, y : of ints -/
def vSwapk (ga gi gb gj : VH) (w : W) (s : Vs) : VSR := match w with
  | .im (.tup [.int x, .int y]) => vSeq (vPut (qCon (.int x)) ga gi) (vPut (qCon (.int y)) gb gj) s
  | _ => .bad
def vSwap (x : VE) (ga gi gb gj : VH) : VS := fun s => (x s).thn (vSwapk ga gi gb gj)
section
variable {K L M M1 M2 M3 M4 I1 J1 I2 J2 I3 J3 I4 J4 : List Nat} {fe fa fi fb fj : Ev}
theorem ss_swap' {x : VE} {ga gi gb gj : VH} (e : SVE M fe x) (a : SVH M1 I1 J1 fa ga) (i : SVH M2 I2 J2 fi gi) (b : SVH M3 I3 J3 fb gb) (j : SVH M4 I4 J4 fj gj)
    (h1 : ∀ i, i ∈ I1 → i ∉ M2) (h2 : ∀ i, i ∈ I3 → i ∉ M4) (hl : ∀ i, i ∈ L → i ∉ M) (l1 : ∀ i, i ∈ L → i ∉ M1) (l2 : ∀ i, i ∈ L → i ∉ M2) (l3 : ∀ i, i ∈ L → i ∉ M3) (l4 : ∀ i, i ∈ L → i ∉ M4) (j1 : ∀ i, i ∈ L → i ∉ J1) (j3 : ∀ i, i ∈ L → i ∉ J3) :
    SVS K L (sAsg fe (gTp 2 (gsCons (gIx pIx fa fi) (gsCons (gIx pIx fb fj) gsNil)))) (vSwap x ga gi gb gj) := by
  refine ⟨fun s σ h Z A rs o => PoS.ahead o (e.run s σ h Z A rs o) hl fun u w h1' Z1 A1 F1 s1 r rs1 o1 => ?_⟩
  unfold vSwapk
  split
  · rename_i p q
    have r : RW h1' Z1 (.im (.tup [.int p, .int q])) u F1 := r
    obtain ⟨us, rfl, r2⟩ := r.im_inv.tup_inv
    obtain ⟨u1, q1, rfl, ra, rb⟩ := r2.cons_inv
    obtain ⟨u2, q2, rfl, rc, rd⟩ := rb.cons_inv
    rw [rd.nil_inv]
    have e1 : u1 = .int p := by unfold RP at ra; exact ra
    have e2 : u2 = .int q := by unfold RP at rc; exact rc
    subst e1
    subst e2
    have e0 : sAsgk (gTp 2 (gsCons (gIx pIx fa fi) (gsCons (gIx pIx fb fj) gsNil))) σ (.tup [.int p, .int q]) h1' = sSeq (sAsg (eCon (.int p)) (gIx pIx fa fi)) (sAsg (eCon (.int q)) (gIx pIx fb fj)) σ h1' := by
      show (gIx pIx fa fi (.int p) σ h1').thn (gsCons (gIx pIx fb fj) gsNil [.int q]) = (gIx pIx fa fi (.int p) σ h1').thn (sAsg (eCon (.int q)) (gIx pIx fb fj))
      cases gIx pIx fa fi (.int p) σ h1' with
      | nx s2 h2 =>
        show (gIx pIx fb fj (.int q) s2 h2).thn (gsNil []) = gIx pIx fb fj (.int q) s2 h2
        cases gIx pIx fb fj (.int q) s2 h2 <;> rfl
      | rt _ _ => rfl
      | bk _ _ => rfl
      | ct _ _ => rfl
      | ex _ _ _ => rfl
      | bad => rfl
    rw [e0]
    have z1 := ss_put' (K := K) (L := L) (sv_con (.int p) rfl rfl) a i h1 (fun _ _ x => by cases x) l1 l2 j1
    have z2 := ss_put' (K := K) (L := L) (sv_con (.int q) rfl rfl) b j h2 (fun _ _ x => by cases x) l3 l4 j3
    exact PoS.forget o1 ((ss_seq' z1 z2).run s1 σ h1' Z1 A1 rs1 (ok_no o1))
  · trivial
end
@[simp] theorem vSwap_run (x : VE) (ga gi gb gj : VH) (s : Vs) : vSwap x ga gi gb gj s = (x s).thn (vSwapk ga gi gb gj) := rfl
@[simp] theorem vSwapk_run (ga gi gb gj : VH) (x y : Int) (s : Vs) : vSwapk ga gi gb gj (.im (.tup [.int x, .int y])) s = vSeq (vPut (qCon (.int x)) ga gi) (vPut (qCon (.int y)) gb gj) s := rfl
end Lz
namespace Lz
open PySem PySem.Spec PyProof.Rows PySem.W L2
/-! # sorted, min, max of tuples of ints and texts; min, max of three ints -/
def Ce.p : Ce → P
  | .i k => .int k
  | .s x => .str x
def rowP (r : List Ce) : P := .tup (r.map Ce.p)
def ceP : P → Option Ce
  | .int k => some (.i k)
  | .str x => some (.s x)
  | _ => none
def rowOfP : W → Option (List Ce)
  | .im (.tup (u :: us)) => mapO ceP (u :: us)
  | _ => none
theorem ceP_eq {u : P} {c : Ce} (h : ceP u = some c) : u = c.p := by
  unfold ceP at h
  split at h <;> first | (cases h; rfl) | cases h
theorem ceU_u (c : Ce) : ceU c.u = some c := by cases c <;> rfl
theorem ceP_p (c : Ce) : ceP c.p = some c := by cases c <;> rfl
theorem mapO_map {α β : Type} {f : α → Option β} {g : β → α} (hf : ∀ y, f (g y) = some y) : ∀ ys : List β, mapO f (ys.map g) = some ys
  | [] => rfl
  | y :: ys => by simp only [List.map_cons, mapO, hf, mapO_map hf ys]
theorem rowOf_row {r : List Ce} (h : r ≠ []) : rowOf (rowU r) = some r := by
  cases r with
  | nil => exact absurd rfl h
  | cons c r =>
    show mapO ceU (c.u :: r.map Ce.u) = _
    rw [← List.map_cons]; exact mapO_map ceU_u _
theorem rowOfP_row {r : List Ce} (h : r ≠ []) : rowOfP (.im (rowP r)) = some r := by
  cases r with
  | nil => exact absurd rfl h
  | cons c r =>
    show mapO ceP (c.p :: r.map Ce.p) = _
    rw [← List.map_cons]; exact mapO_map ceP_p _
theorem rowOfP_eq {w : W} {r : List Ce} (h : rowOfP w = some r) : w = .im (rowP r) ∧ r ≠ [] := by
  unfold rowOfP at h
  split at h
  · have := mapO_eq (g := Ce.p) (fun _ _ => ceP_eq) h
    refine ⟨by rw [rowP, ← this], ?_⟩
    rintro rfl
    cases this
  · cases h
theorem rps_ces {h : Hb} {Z : St} : ∀ r : List Ce, RPs h Z (r.map Ce.p) (r.map Ce.u)
  | [] => .nil
  | .i k :: r => .cons (rp_int k) (rps_ces r)
  | .s x :: r => .cons (by show RP h Z (.str x) (.str x); unfold RP; rfl) (rps_ces r)
theorem rp_row {h : Hb} {Z : St} (r : List Ce) : RP h Z (rowP r) (rowU r) := rp_tup (rps_ces r)
theorem rps_inv {h : Hb} {Z : St} : ∀ {r : List Ce} {us : List U}, RPs h Z (r.map Ce.p) us → us = r.map Ce.u
  | [], _, q => q.nil_inv
  | c :: r, _, q => by
    obtain ⟨u, x, rfl, a, b⟩ := q.cons_inv
    rw [rps_inv b]
    cases c with
    | i k =>
      have a : RP h Z (.int k) u := a
      unfold RP at a; rw [a]; rfl
    | s x =>
      have a : RP h Z (.str x) u := a
      unfold RP at a; rw [a]; rfl
theorem rows_rel {h : Hb} {Z : St} : ∀ {ws : List W} {us : List U} {G : St} {rs : List (List Ce)}, RWs h Z ws us G → mapO rowOfP ws = some rs → us = rs.map rowU ∧ mapO rowOf us = some rs
  | [], us, G, rs, r, e => by rw [r.nil_inv]; cases e; exact ⟨rfl, rfl⟩
  | w :: ws, us, G, rs, r, e => by
    obtain ⟨u, q, F1, F2, rfl, d, s1, s2, a, b⟩ := r.cons_inv
    simp only [mapO] at e
    split at e
    · rename_i y zs e1 e2
      cases e
      obtain ⟨h1, h2⟩ := rows_rel b e2
      obtain ⟨rfl, hne⟩ := rowOfP_eq e1
      obtain ⟨us, rfl, q2⟩ := RP.tup_inv a.im_inv
      have h3 : U.tup us = rowU y := by rw [rps_inv q2]; rfl
      rw [h3]
      exact ⟨by rw [h1]; rfl, by simp only [mapO, rowOf_row hne, h2]⟩
    · cases e
theorem rps_rows {h : Hb} {Z : St} : ∀ rs : List (List Ce), RPs h Z (rs.map rowP) (rs.map rowU)
  | [] => .nil
  | r :: rs => .cons (rp_row r) (rps_rows rs)
def k3 (f : Int → Int → Int → Int) (best : List (List Ce) → Option (List Ce)) : List W → Option W
  | [.im (.int i), .im (.int j), .im (.int k)] => some (.im (.int (f i j k)))
  | [x] => (((lstP x).bind (mapO rowOfP)).bind fun rs => if alkC rs = true then best rs else none).map fun r => .im (rowP r)
  | _ => none
def kMinX (ws : List W) : Option W := match kMin ws with
  | some x => some x
  | none => k3 mi3 minC ws
def kMaxX (ws : List W) : Option W := match kMax ws with
  | some x => some x
  | none => k3 mx3 maxC ws
/-- no list of numbers and no list of pairs -/
def noPr : List (List Ce) → Bool
  | [.i _, .i _] :: rs => noPr rs
  | [] => false
  | _ => true
def kSrtC : List W → Option W
  | [x] => ((lstP x).bind (mapO rowOfP)).bind fun rs => if alkC rs = true ∧ noPr rs = true then some (.lst ((sortC rs).map fun r => .im (rowP r))) else none
  | _ => none
def kSrtX (ws : List W) : Option W := match kSrt ws with
  | some x => some x
  | none => kSrtC ws
theorem orC_l {g g2 : GC} {us : List U} {h : Hb} {x : U} {h' : Hb} (e : g us h = .ok x h') : orC g g2 us h = .ok x h' := by unfold orC; rw [e]
theorem orC_r {g g2 : GC} {us : List U} {h : Hb} (e : g us h = .bad) : orC g g2 us h = g2 us h := by unfold orC; rw [e]
theorem gro_or {h : Hb} {Z : St} {x : W} {g g2 : GC} {us : List U} (q : Gro h Z x (g us h)) : Gro h Z x (orC g g2 us h) := by
  cases e : g us h with
  | ok y h' => rw [orC_l e, ← e]; exact q
  | ex y h' =>
    have : orC g g2 us h = g us h := by unfold orC; rw [e]
    rw [this]; exact q
  | bad =>
    rw [e] at q
    obtain ⟨_, _, _, q, _⟩ := q
    cases q
theorem ints_rows (r : List Ce) (rs : List (List Ce)) : intsU ((r :: rs).map rowU) = none := rfl
theorem ov_3 {f : Int → Int → Int → Int} {best : List (List Ce) → Option (List Ce)} {g : GC} (hb : best [] = none) (g3 : ∀ i j k h, g [.int i, .int j, .int k] h = .bad) (gl : ∀ x h us, lstU h x = some us → us ≠ [] → intsU us = none → g [x] h = .bad) {h : Hb} {Z : St} {ws : List W} {us : List U} {x : W} (zl : ∀ a, Z a → a < h.length) (r : Rds h Z ws us) (e : k3 f best ws = some x) : Gro h Z x (orC g (orC (c3 f) (cBestC best)) us h) := by
  unfold k3 at e
  split at e
  · obtain ⟨u, q, rfl, a, b⟩ := r.cons_inv
    obtain ⟨v, w, rfl, b1, b2⟩ := b.two
    rw [a.int, b1.int, b2.int, orC_r (g3 _ _ _ _), orC_l (show c3 f _ h = .ok (.int (f _ _ _)) h from rfl)]
    cases e; exact gro_im (rp_int _)
  · obtain ⟨u, rfl, a⟩ := r.one
    simp only [Option.map_eq_some_iff, Option.bind_eq_some_iff] at e
    obtain ⟨r0, ⟨rs, ⟨ws, e1, e2⟩, e4⟩, rfl⟩ := e
    split at e4
    · rename_i hal
      obtain ⟨us, G, e3, q⟩ := lstP_rel a e1
      obtain ⟨h1, h2⟩ := rows_rel q e2
      have ne : rs ≠ [] := by rintro rfl; rw [hb] at e4; cases e4
      have hu : us ≠ [] ∧ intsU us = none := by
        cases rs with
        | nil => exact absurd rfl ne
        | cons r rs => rw [h1]; exact ⟨by simp, rfl⟩
      have hc : cBestC best [u] h = .ok (rowU r0) h := by simp only [cBestC, e3, Option.bind_some, h2, hal, if_true, e4]
      have h3 : c3 f [u] h = .bad := by unfold c3; split <;> first | (rename_i hh; cases hh) | rfl
      rw [orC_r (gl _ _ _ e3 hu.1 hu.2), orC_r h3, hc]
      exact gro_im (rp_row r0)
    · cases e4
  · cases e
theorem ov_minX : OpVs cMinX kMinX := by
  intro h Z ws us x zl r e
  unfold kMinX at e
  split at e
  · rename_i y hy; cases e; exact gro_or (ov_min h Z ws us _ zl r hy)
  · exact ov_3 rfl (fun _ _ _ _ => rfl) (fun x h us e1 e2 e3 => by
      unfold cMin
      split
      · rename_i hh; cases hh
      · rename_i y hh; cases hh; rw [e1, Option.bind_some, e3]
      · rfl) zl r e
theorem ov_maxX : OpVs cMaxX kMaxX := by
  intro h Z ws us x zl r e
  unfold kMaxX at e
  split at e
  · rename_i y hy; cases e; exact gro_or (ov_max h Z ws us _ zl r hy)
  · exact ov_3 rfl (fun _ _ _ _ => rfl) (fun x h us e1 e2 e3 => by
      unfold cMax
      split
      · rename_i hh; cases hh
      · rename_i y hh; cases hh; rw [e1, Option.bind_some, e3]
      · rfl) zl r e
theorem noPr_U : ∀ {rs : List (List Ce)}, noPr rs = true → pairsU (rs.map rowU) = none ∧ rs ≠ []
  | [], h => by simp [noPr] at h
  | r :: rs, h => by
    refine ⟨?_, by simp⟩
    unfold noPr at h
    split at h
    · rename_i a b rs' hh
      cases hh
      obtain ⟨h1, h2⟩ := noPr_U h
      show pairsU (U.tup [.int a, .int b] :: rs.map rowU) = none
      unfold pairsU
      rw [h1]; rfl
    · rename_i hh; cases hh
    · rename_i h2 h3
      show pairsU (rowU r :: rs.map rowU) = none
      unfold pairsU
      split
      · rename_i q; cases q
      · rename_i a b r' q
        injection q with q1 q2
        unfold rowU at q1
        injection q1 with q1
        match r, q1 with
        | [.i a', .i b'], q1 => exact absurd rfl (h2 a' b' rs)
      · rfl
theorem ov_srtX : OpVs cSrtX kSrtX := by
  intro h Z ws us x zl r e
  unfold kSrtX at e
  split at e
  · rename_i y hy; cases e; exact gro_or (ov_srt h Z ws us _ zl r hy)
  · unfold kSrtC at e
    split at e
    · obtain ⟨u, rfl, a⟩ := r.one
      simp only [Option.bind_eq_some_iff] at e
      obtain ⟨rs, ⟨ws, e1, e2⟩, e4⟩ := e
      split at e4
      · rename_i hal
        cases e4
        obtain ⟨us, G, e3, q⟩ := lstP_rel a e1
        obtain ⟨h1, h2⟩ := rows_rel q e2
        obtain ⟨np, ne⟩ := noPr_U hal.2
        have hi : intsU us = none := by
          cases rs with
          | nil => exact absurd rfl ne
          | cons r rs => rw [h1]; rfl
        have h3 : cSrt [u] h = .bad := by simp only [cSrt, e3, hi]; rw [h1, np]
        have hc : cSortC [u] h = .ok (.ref h.length) (h ++ [.lst ((sortC rs).map rowU)]) := by simp only [cSortC, e3, Option.bind_some, h2, hal.1, if_true]
        unfold cSrtX
        rw [orC_r h3, hc]
        have q := (rps_rows (h := h) (Z := Z) (sortC rs)).ws
        rw [List.map_map] at q
        exact gro_lst zl q (ps := (sortC rs).map rowP) (imL_map' _ _)
      · cases e4
    · cases e
/-! run lemmas -/
@[simp] theorem kMaxX_2 (i j : Int) : kMaxX [.im (.int i), .im (.int j)] = some (.im (.int (if j > i then j else i))) := rfl
@[simp] theorem kMinX_2 (i j : Int) : kMinX [.im (.int i), .im (.int j)] = some (.im (.int (if j < i then j else i))) := rfl
@[simp] theorem kMaxX_3 (i j k : Int) : kMaxX [.im (.int i), .im (.int j), .im (.int k)] = some (.im (.int (mx3 i j k))) := rfl
@[simp] theorem kMinX_3 (i j k : Int) : kMinX [.im (.int i), .im (.int j), .im (.int k)] = some (.im (.int (mi3 i j k))) := rfl
@[simp] theorem kMaxX_l (ws : List W) : kMaxX [.lst ws] = (match ((intsP ws).bind maxI).map fun k => W.im (.int k) with
    | some x => some x
    | none => k3 mx3 maxC [.lst ws]) := rfl
@[simp] theorem kMinX_l (ws : List W) : kMinX [.lst ws] = (match ((intsP ws).bind minI).map fun k => W.im (.int k) with
    | some x => some x
    | none => k3 mi3 minC [.lst ws]) := rfl
@[simp] theorem kSrtX_run (x : W) : kSrtX [x] = (match (match lstP x with
    | some ws => match intsP ws with
      | some bs => some (.lst ((sortI bs).map fun b => .im (.int b)))
      | none => (pairsP ws).map fun ps => .lst ((sortP ps).map fun p => .im (prP p))
    | none => none : Option W) with
    | some x => some x
    | none => kSrtC [x]) := rfl
theorem mi3_eq (a b c : Int) : mi3 a b c = min a (min b c) := by unfold mi3; repeat' split
                                                                 all_goals omega
theorem mx3_eq (a b c : Int) : mx3 a b c = max a (max b c) := by unfold mx3; repeat' split
                                                                 all_goals omega
/-- rows of ints -/
def sortR (rs : List (List Int)) : List (List Int) := rs.mergeSort fun a b => decide (a ≤ b)
def iR (r : List Int) : List Ce := r.map .i
theorem iR_p (r : List Int) : rowP (iR r) = .tup (r.map .int) := by unfold rowP iR; rw [List.map_map]; rfl
theorem iR_d (r : List Int) : (iR r).map Ce.d = r.map .int := by unfold iR; rw [List.map_map]; rfl
theorem ltC_i (a b : List Int) : ltC (iR a) (iR b) = decide (a < b) := by
  unfold ltC rowD
  rw [iR_d, iR_d, dataLt_tuple]
  exact dataLt_ints a b
theorem sortC_i (rs : List (List Int)) : sortC (rs.map iR) = (sortR rs).map iR := by
  unfold sortC sortR
  refine (List.map_mergeSort (f := iR) (fun a _ b _ => ?_)).symm
  rw [ltC_i]
  by_cases h : b < a
  · have h' : ¬ a ≤ b := fun r => List.not_lt.mpr r h
    simp [h, h']
  · have h' : a ≤ b := List.not_lt.mp h
    simp [h, h']
theorem alk_i (rs : List (List Int)) : alkC (rs.map iR) = true := by
  unfold alkC
  refine List.all_eq_true.mpr fun a ha => List.all_eq_true.mpr fun b hb => ?_
  obtain ⟨x, _, rfl⟩ := List.mem_map.mp ha
  obtain ⟨y, _, rfl⟩ := List.mem_map.mp hb
  rw [iR_d, iR_d]
  exact alike_ints x y
theorem noPr_i {rs : List (List Int)} (hn : rs ≠ []) (h : ∀ r, r ∈ rs → r.length ≠ 2) : noPr (rs.map iR) = true := by
  cases rs with
  | nil => exact absurd rfl hn
  | cons r rs =>
    have := h r List.mem_cons_self
    match r, this with
    | [], _ => rfl
    | [_], _ => rfl
    | [_, _], h => exact absurd rfl h
    | _ :: _ :: _ :: _, _ => rfl
theorem rowsP_i {rs : List (List Int)} (h : ∀ r, r ∈ rs → r ≠ []) : mapO rowOfP (rs.map fun r => .im (.tup (r.map .int))) = some (rs.map iR) := by
  induction rs with
  | nil => rfl
  | cons r rs ih =>
    have h1 : rowOfP (.im (.tup (r.map .int))) = some (iR r) := by
      rw [← iR_p]; exact rowOfP_row (by have := h r List.mem_cons_self; cases r <;> simp [iR] at *)
    simp only [List.map_cons, mapO, h1, ih fun q hq => h q (List.mem_cons_of_mem _ hq)]
theorem kSrtX_rows {rs : List (List Int)} (h : ∀ r, r ∈ rs → 3 ≤ r.length) : kSrtX [.lst (rs.map fun r => .im (.tup (r.map .int)))] = some (.lst ((sortR rs).map fun r => .im (.tup (r.map .int)))) := by
  cases rs with
  | nil => simp [kSrtX, kSrt, lstP, intsP, sortI, sortR]
  | cons r0 rs0 =>
    have hn : (r0 :: rs0) ≠ [] := by simp
    have h3 := h r0 List.mem_cons_self
    generalize e : r0 :: rs0 = rs at *
    have i0 : intsP (rs.map fun r => .im (.tup (r.map .int))) = none := by subst e; rfl
    have p0 : pairsP (rs.map fun r => .im (.tup (r.map .int))) = none := by
      subst e
      match r0, h3 with
      | a :: b :: c :: r, _ => rfl
    have r1 := rowsP_i (rs := rs) fun r hr => by have := h r hr; intro z; subst z; simp at this
    have a1 := alk_i rs
    have n1 := noPr_i hn fun r hr => by have := h r hr; omega
    have s1 : kSrtC [.lst (rs.map fun r => .im (.tup (r.map .int)))] = some (.lst ((sortR rs).map fun r => .im (.tup (r.map .int)))) := by
      unfold kSrtC
      simp only [lstP, Option.bind_some, r1, a1, n1, and_self, if_true, sortC_i, List.map_map]
      congr 3
      funext r
      show W.im (rowP (iR r)) = _
      rw [iR_p]
    rw [kSrtX_run]
    show (match (match intsP _ with | some bs => _ | none => _ : Option W) with | some x => some x | none => _) = _
    rw [i0]
    show (match ((pairsP _).map _ : Option W) with | some x => some x | none => _) = _
    rw [p0]
    exact s1
theorem sortR_pw (rs : List (List Int)) : (sortR rs).Pairwise (· ≤ ·) :=
  (List.pairwise_mergeSort (le := fun a b : List Int => decide (a ≤ b)) (fun a b c h1 h2 => by simp only [decide_eq_true_eq] at *; exact List.le_trans h1 h2) (fun a b => by simp only [Bool.or_eq_true, decide_eq_true_eq]; exact List.le_total a b) rs).imp fun h => by simpa using h
theorem sortR_perm (rs : List (List Int)) : (sortR rs).Perm rs := List.mergeSort_perm _ _
end Lz
namespace My
open PySem PySem.Spec PyProof.Rows L2 Lz
def topS (i : Nat) : Stmt := PySem.Challenge.pw_quaybest_k11_earliest_starts.main.body.getD i (.Pass ⟨0, 0, 0, 0⟩)
def xn : Nat := 0
def xats : List Str := []
def xsub : Nat → Nat → Bool := fun d c => decide ((d, c) ∈ ([] : List (Nat × Nat)))
@[simp] theorem xn_is : xn = 0 := rfl
@[simp] theorem xats_is : xats = ([] : List Str) := rfl
/-! is_sharing -/
abbrev s_is_sharing : Stmt := topS 1
def N_is_sharing : List Str := ["ship", "other"]
theorem sc_is_sharing : FnScope N_is_sharing ["ship", "other"] (defScope s_is_sharing) := ⟨rfl, rfl, rfl, by decide +kernel, rfl, by decide +kernel, by decide +kernel⟩
noncomputable def b_is_sharing : Sv :=
  (sRet (eAnd (e2 vLt (e2 vIx (eVar 0) (eCon (.int 0))) (e2 vAdd (e2 vIx (eVar 1) (eCon (.int 0))) (e2 vIx (eVar 1) (eCon (.int 1))))) (e2 vLt (e2 vIx (eVar 1) (eCon (.int 0))) (e2 vAdd (e2 vIx (eVar 0) (eCon (.int 0))) (e2 vIx (eVar 0) (eCon (.int 1)))))))
noncomputable def r_is_sharing : GC := runDef 2 2 b_is_sharing
noncomputable def c_is_sharing : Lz.Ctx := ⟨N_is_sharing, defScope s_is_sharing, N_is_sharing, [], xsub, xn, xats⟩
theorem e_is_sharing : blockC (compS 20 (c_is_sharing)) (defBody s_is_sharing) = some (b_is_sharing) := by kernel_rfl
/-! starts -/
abbrev s_starts : Stmt := topS 2
def N_starts : List Str := ["ships", "found", "number", "ship", "start", "earlier"]
theorem sc_starts : FnScope N_starts ["ships"] (defScope s_starts) := ⟨rfl, rfl, rfl, by decide +kernel, rfl, by decide +kernel, by decide +kernel⟩
noncomputable def b_starts : Sv :=
  (sSeq
   (sSet 1 (eLst aNil))
  (sSeq
   (sFor (iEn (eVar 0)) (gN (nTp 2 (nsCons (nNm 2) (nsCons (nNm 3) nsNil))))
     (sSeq
      (sSet 4 (e2 vIx (eVar 3) (eCon (.int 2))))
     (sSeq
      (sFor (iRg1 (aCons (eVar 2) aNil)) (gN (nNm 5))
        (sIf (bTru (eC r_is_sharing (aCons (e2 vIx (eVar 0) (eVar 5)) (aCons (eVar 3) aNil))))
          (sSet 4 (eC cMaxX (aCons (eVar 4) (aCons (e2 vAdd (e2 vIx (eVar 1) (eVar 5)) (e2 vIx (e2 vIx (eVar 0) (eVar 5)) (eCon (.int 3)))) aNil))))
          sNil))
     (sExp (eM mAppend (eVar 1) (aCons (eVar 4) aNil))))))
  (sRet (eC cTup (aCons (eVar 1) aNil)))))
noncomputable def r_starts : GC := runDef 6 1 b_starts
noncomputable def c_starts : Lz.Ctx := ⟨N_starts, defScope s_starts, N_starts, [("is_sharing", .fn r_is_sharing 2 []), ("enumerate", .bt), ("max", .bt), ("range", .bt), ("tuple", .bt)], xsub, xn, xats⟩
theorem e_starts : blockC (compS 20 (c_starts)) (defBody s_starts) = some (b_starts) := by kernel_rfl
/-! critical_chain -/
abbrev s_critical_chain : Stmt := topS 3
def N_critical_chain : List Str := ["ships", "number", "told", "found", "last", "earlier"]
theorem sc_critical_chain : FnScope N_critical_chain ["ships", "number"] (defScope s_critical_chain) := ⟨rfl, rfl, rfl, by decide +kernel, rfl, by decide +kernel, by decide +kernel⟩
noncomputable def b_critical_chain : Sv :=
  (sSeq
   (sSet 2 (eC r_starts (aCons (eVar 0) aNil)))
  (sSeq
   (sSet 3 (eLst (aCons (eVar 1) aNil)))
  (sSeq
   (sWhile (asB (e2 vGt (e2 vIx (eVar 2) (e2 vIx (eVar 3) (e1 vNeg (eCon (.int 1))))) (e2 vIx (e2 vIx (eVar 0) (e2 vIx (eVar 3) (e1 vNeg (eCon (.int 1))))) (eCon (.int 2)))))
     (sSeq
      (sSet 4 (e2 vIx (eVar 3) (e1 vNeg (eCon (.int 1)))))
     (sFor (iRg1 (aCons (eVar 4) aNil)) (gN (nNm 5))
       (sIf (bAnd (bTru (eC r_is_sharing (aCons (e2 vIx (eVar 0) (eVar 5)) (aCons (e2 vIx (eVar 0) (eVar 4)) aNil)))) (asB (e2 vEq (e2 vAdd (e2 vIx (eVar 2) (eVar 5)) (e2 vIx (e2 vIx (eVar 0) (eVar 5)) (eCon (.int 3)))) (e2 vIx (eVar 2) (eVar 4)))))
         (sSeq
          (sExp (eM mAppend (eVar 3) (aCons (eVar 5) aNil)))
         sBrk)
         sNil))))
  (sSeq
   (sExp (eM mReverse (eVar 3) aNil))
  (sRet (eC cTup (aCons (eVar 3) aNil)))))))
noncomputable def r_critical_chain : GC := runDef 6 2 b_critical_chain
noncomputable def c_critical_chain : Lz.Ctx := ⟨N_critical_chain, defScope s_critical_chain, N_critical_chain, [("is_sharing", .fn r_is_sharing 2 []), ("starts", .fn r_starts 1 []), ("range", .bt), ("tuple", .bt)], xsub, xn, xats⟩
theorem e_critical_chain : blockC (compS 20 (c_critical_chain)) (defBody s_critical_chain) = some (b_critical_chain) := by kernel_rfl
/-! free_bollards -/
abbrev s_free_bollards : Stmt := topS 4
def N_free_bollards : List Str := ["bollards", "ships", "minute", "told", "ship", "lying", "found", "at", "number"]
theorem sc_free_bollards : FnScope N_free_bollards ["bollards", "ships", "minute"] (defScope s_free_bollards) := ⟨rfl, rfl, rfl, by decide +kernel, rfl, by decide +kernel, by decide +kernel⟩
noncomputable def b_free_bollards : Sv :=
  (sSeq
   (sSet 3 (eC r_starts (aCons (eVar 1) aNil)))
  (sSeq
   (sSet 5 (eLc (iEn (eVar 1)) (nTp 2 (nsCons (nNm 8) (nsCons (nNm 4) nsNil))) [8, 4] (asB (eChain vLe vLt (e2 vIx (eVar 3) (eVar 8)) (eVar 2) (e2 vAdd (e2 vIx (eVar 3) (eVar 8)) (e2 vIx (eVar 4) (eCon (.int 3)))))) (eC cTup (aCons (eVar 4) aNil))))
  (sSeq
   (sSet 6 (eLst aNil))
  (sSeq
   (sSet 7 (eCon (.int 0)))
  (sSeq
   (sFor (iSeq (eC cSrtX (aCons (eVar 5) aNil))) (gN (nNm 4))
     (sSeq
      (sIf (asB (e2 vGt (e2 vIx (eVar 4) (eCon (.int 0))) (eVar 7)))
        (sExp (eM mAppend (eVar 6) (aCons (eTup (aCons (eVar 7) (aCons (e2 vSub (e2 vIx (eVar 4) (eCon (.int 0))) (eCon (.int 1))) aNil))) aNil)))
        sNil)
     (sSet 7 (eC cMaxX (aCons (eVar 7) (aCons (e2 vAdd (e2 vIx (eVar 4) (eCon (.int 0))) (e2 vIx (eVar 4) (eCon (.int 1)))) aNil))))))
  (sSeq
   (sIf (asB (e2 vLt (eVar 7) (eVar 0)))
     (sExp (eM mAppend (eVar 6) (aCons (eTup (aCons (eVar 7) (aCons (e2 vSub (eVar 0) (eCon (.int 1))) aNil))) aNil)))
     sNil)
  (sRet (eC cTup (aCons (eVar 6) aNil)))))))))
noncomputable def r_free_bollards : GC := runDef 9 3 b_free_bollards
noncomputable def c_free_bollards : Lz.Ctx := ⟨N_free_bollards, defScope s_free_bollards, N_free_bollards, [("starts", .fn r_starts 1 []), ("enumerate", .bt), ("max", .bt), ("sorted", .bt), ("tuple", .bt)], xsub, xn, xats⟩
theorem e_free_bollards : blockC (compS 20 (c_free_bollards)) (defBody s_free_bollards) = some (b_free_bollards) := by kernel_rfl
/-! _law_pool -/
abbrev s_law_pool : Stmt := topS 6
def N_law_pool : List Str := ["_law_script", "_law_cell"]
theorem sc_law_pool : FnScope N_law_pool ["_law_script"] (defScope s_law_pool) := ⟨rfl, rfl, rfl, by decide +kernel, rfl, by decide +kernel, by decide +kernel⟩
noncomputable def b_law_pool : Sv :=
  (sRet (eLst (aCons (eLc (iSeq (eVar 0)) (nNm 1) [1] bYes (eIf (asB (e2 vGe (eVar 1) (eCon (.int 0)))) (e2 vMul (eCon (.int 2)) (eVar 1)) (e2 vSub (e2 vMul (e1 vNeg (eCon (.int 2))) (eVar 1)) (eCon (.int 1))))) (aCons (eCon (.int 0)) (aCons (eCon (.int 0)) (aCons (eCon (.int 17)) aNil))))))
noncomputable def r_law_pool : GC := runDef 2 1 b_law_pool
noncomputable def c_law_pool : Lz.Ctx := ⟨N_law_pool, defScope s_law_pool, N_law_pool, [], xsub, xn, xats⟩
theorem e_law_pool : blockC (compS 20 (c_law_pool)) (defBody s_law_pool) = some (b_law_pool) := by kernel_rfl
/-! _law_take -/
abbrev s_law_take : Stmt := topS 7
def N_law_take : List Str := ["_law_pool_here", "_law_many", "_law_digit", "_law_cell", "_law_mixed"]
theorem sc_law_take : FnScope N_law_take ["_law_pool_here", "_law_many"] (defScope s_law_take) := ⟨rfl, rfl, rfl, by decide +kernel, rfl, by decide +kernel, by decide +kernel⟩
noncomputable def b_law_take (r : GC) : Sv :=
  (sSeq
   (sIf (asB (e2 vGt (e2 vIx (eVar 0) (eCon (.int 2))) (eCon (.int 0))))
     (sSeq
      (sSet 2 (e2 vMod (eC cInt (aCons (e2 vIx (eVar 0) (eCon (.int 2))) aNil)) (eVar 1)))
     (sSeq
      (sAsg (e2 vDiv (e2 vIx (eVar 0) (eCon (.int 2))) (eVar 1)) (gIx pIx (eVar 0) (eCon (.int 2))))
     (sRet (eVar 2))))
     sNil)
  (sSeq
   (sSet 3 (eCon (.int 0)))
  (sSeq
   (sIf (asB (e2 vLt (e2 vIx (eVar 0) (eCon (.int 1))) (eC cLen (aCons (e2 vIx (eVar 0) (eCon (.int 0))) aNil))))
     (sSet 3 (e2 vIx (e2 vIx (eVar 0) (eCon (.int 0))) (e2 vIx (eVar 0) (eCon (.int 1)))))
     sNil)
  (sSeq
   (sAsg (e2 vAdd (e2 vIx (eVar 0) (eCon (.int 1))) (eCon (.int 1))) (gIx pIx (eVar 0) (eCon (.int 1))))
  (sSeq
   (sIf (asB (e2 vGe (eVar 3) (e2 vPow (eCon (.int 10)) (eCon (.int 18)))))
     (sSeq
      (sAsg (e2 vDiv (eVar 3) (eCon (.int 2))) (gIx pIx (eVar 0) (eCon (.int 2))))
     (sRet (eC r (aCons (eVar 0) (aCons (eVar 1) aNil)))))
     sNil)
  (sSeq
   (sAsg (e2 vMod (eC cInt (aCons (e2 vAdd (e2 vAdd (e2 vMul (e2 vIx (eVar 0) (eCon (.int 3))) (eCon (.int 48271))) (e2 vMul (eVar 3) (eCon (.int 69621)))) (e2 vMul (e2 vIx (eVar 0) (eCon (.int 1))) (eCon (.int 613)))) aNil)) (eCon (.int 2147483647))) (gIx pIx (eVar 0) (eCon (.int 3))))
  (sSeq
   (sSet 4 (e2 vMod (eC cInt (aCons (e2 vAdd (e2 vAdd (e2 vMul (e2 vIx (eVar 0) (eCon (.int 3))) (e2 vIx (eVar 0) (eCon (.int 3)))) (e2 vMul (e2 vIx (eVar 0) (eCon (.int 3))) (eCon (.int 7919)))) (eCon (.int 104729))) aNil)) (eCon (.int 1000000007))))
  (sRet (e2 vMod (eC cInt (aCons (e2 vDiv (eVar 4) (eCon (.int 3))) aNil)) (eVar 1))))))))))
noncomputable def r_law_take : Nat → GC
  | 0 => noRun
  | n + 1 => runDef 5 2 (b_law_take (r_law_take n))
noncomputable def c_law_take (r : GC) : Lz.Ctx := ⟨N_law_take, defScope s_law_take, N_law_take, [("_law_take", .fn r 2 []), ("int", .bt), ("len", .bt)], xsub, xn, xats⟩
theorem e_law_take (r : GC) : blockC (compS 20 (c_law_take r)) (defBody s_law_take) = some (b_law_take r) := by kernel_rfl
/-! _law_is_integer -/
abbrev s_law_is_integer : Stmt := topS 8
def N_law_is_integer : List Str := ["_law_actual"]
theorem sc_law_is_integer : FnScope N_law_is_integer ["_law_actual"] (defScope s_law_is_integer) := ⟨rfl, rfl, rfl, by decide +kernel, rfl, by decide +kernel, by decide +kernel⟩
noncomputable def b_law_is_integer : Sv :=
  (sRet (eAnd (e1 (isiU "int") (eVar 0)) (eNot (e1 (isiU "bool") (eVar 0)))))
noncomputable def r_law_is_integer : GC := runDef 1 1 b_law_is_integer
noncomputable def c_law_is_integer : Lz.Ctx := ⟨N_law_is_integer, defScope s_law_is_integer, N_law_is_integer, [("bool", .bt), ("int", .bt), ("isinstance", .bt)], xsub, xn, xats⟩
theorem e_law_is_integer : blockC (compS 20 (c_law_is_integer)) (defBody s_law_is_integer) = some (b_law_is_integer) := by kernel_rfl
/-! _law_same -/
abbrev s_law_same : Stmt := topS 9
def N_law_same : List Str := ["_law_actual", "_law_due", "_law_k"]
theorem sc_law_same : FnScope N_law_same ["_law_actual", "_law_due"] (defScope s_law_same) := ⟨rfl, rfl, rfl, by decide +kernel, rfl, by decide +kernel, by decide +kernel⟩
noncomputable def b_law_same (r : GC) : Sv :=
  (sSeq
   (sIf (bTru (e1 (isiU "tuple") (eVar 1)))
     (sSeq
      (sIf (bOr (bNot (bTru (e1 (isiU "tuple") (eVar 0)))) (asB (e2 vNe (eC cLen (aCons (eVar 0) aNil)) (eC cLen (aCons (eVar 1) aNil)))))
        (sRet (eCon (.bl false)))
        sNil)
     (sRet (eC cAll (aCons (eLc (iRg1 (aCons (eC cLen (aCons (eVar 1) aNil)) aNil)) (nNm 2) [2] bYes (eC r (aCons (e2 vIx (eVar 0) (eVar 2)) (aCons (e2 vIx (eVar 1) (eVar 2)) aNil)))) aNil))))
     sNil)
  (sSeq
   (sIf (bTru (e1 (isiU "list") (eVar 1)))
     (sSeq
      (sIf (bOr (bNot (bTru (e1 (isiU "list") (eVar 0)))) (asB (e2 vNe (eC cLen (aCons (eVar 0) aNil)) (eC cLen (aCons (eVar 1) aNil)))))
        (sRet (eCon (.bl false)))
        sNil)
     (sRet (eC cAll (aCons (eLc (iRg1 (aCons (eC cLen (aCons (eVar 1) aNil)) aNil)) (nNm 2) [2] bYes (eC r (aCons (e2 vIx (eVar 0) (eVar 2)) (aCons (e2 vIx (eVar 1) (eVar 2)) aNil)))) aNil))))
     sNil)
  (sSeq
   (sIf (asB (e2 vIs (eVar 1) (eCon .non)))
     (sRet (e2 vIs (eVar 0) (eCon .non)))
     sNil)
  (sSeq
   (sIf (bTru (e1 (isiU "bool") (eVar 1)))
     (sRet (eAnd (e1 (isiU "bool") (eVar 0)) (e2 vEq (eVar 0) (eVar 1))))
     sNil)
  (sSeq
   (sIf (bTru (e1 (isiU "str") (eVar 1)))
     (sRet (eAnd (e1 (isiU "str") (eVar 0)) (e2 vEq (eVar 0) (eVar 1))))
     sNil)
  (sRet (eAnd (eC r_law_is_integer (aCons (eVar 0) aNil)) (e2 vEq (eVar 0) (eVar 1)))))))))
noncomputable def r_law_same : Nat → GC
  | 0 => noRun
  | n + 1 => runDef 3 2 (b_law_same (r_law_same n))
noncomputable def c_law_same (r : GC) : Lz.Ctx := ⟨N_law_same, defScope s_law_same, N_law_same, [("_law_is_integer", .fn r_law_is_integer 1 []), ("_law_same", .fn r 2 []), ("all", .bt), ("bool", .bt), ("isinstance", .bt), ("len", .bt), ("list", .bt), ("range", .bt), ("str", .bt), ("tuple", .bt)], xsub, xn, xats⟩
theorem e_law_same (r : GC) : blockC (compS 20 (c_law_same r)) (defBody s_law_same) = some (b_law_same r) := by kernel_rfl
/-! _law_pick -/
abbrev s_law_pick : Stmt := topS 10
def N_law_pick : List Str := ["_law_pool_here", "_law_rows"]
theorem sc_law_pick : FnScope N_law_pick ["_law_pool_here", "_law_rows"] (defScope s_law_pick) := ⟨rfl, rfl, rfl, by decide +kernel, rfl, by decide +kernel, by decide +kernel⟩
noncomputable def b_law_pick : Sv :=
  (sRet (e2 vIx (eVar 1) (eC (r_law_take 3) (aCons (eVar 0) (aCons (eC cLen (aCons (eVar 1) aNil)) aNil)))))
noncomputable def r_law_pick : GC := runDef 2 2 b_law_pick
noncomputable def c_law_pick : Lz.Ctx := ⟨N_law_pick, defScope s_law_pick, N_law_pick, [("_law_take", .fn (r_law_take 3) 2 []), ("len", .bt)], xsub, xn, xats⟩
theorem e_law_pick : blockC (compS 20 (c_law_pick)) (defBody s_law_pick) = some (b_law_pick) := by kernel_rfl
/-! _law_ships -/
abbrev s_law_ships : Stmt := topS 11
def N_law_ships : List Str := ["_law_pool_here", "_law_bollards", "_law_many", "_law_ships_here", "_law_k", "_law_position", "_law_length"]
theorem sc_law_ships : FnScope N_law_ships ["_law_pool_here", "_law_bollards", "_law_many"] (defScope s_law_ships) := ⟨rfl, rfl, rfl, by decide +kernel, rfl, by decide +kernel, by decide +kernel⟩
noncomputable def b_law_ships : Sv :=
  (sSeq
   (sSet 3 (eLst aNil))
  (sSeq
   (sFor (iRg1 (aCons (eC (r_law_take 3) (aCons (eVar 0) (aCons (e2 vAdd (eVar 2) (eCon (.int 1))) aNil))) aNil)) (gN (nNm 4))
     (sSeq
      (sSet 5 (eC (r_law_take 3) (aCons (eVar 0) (aCons (eVar 1) aNil))))
     (sSeq
      (sSet 6 (e2 vAdd (eCon (.int 1)) (eC (r_law_take 3) (aCons (eVar 0) (aCons (e2 vSub (eVar 1) (eVar 5)) aNil)))))
     (sExp (eM mAppend (eVar 3) (aCons (eTup (aCons (eVar 5) (aCons (eVar 6) (aCons (eC (r_law_take 3) (aCons (eVar 0) (aCons (e2 vIx (eTup (aCons (eCon (.int 4)) (aCons (eCon (.int 25)) (aCons (eCon (.int 1000)) aNil)))) (eC (r_law_take 3) (aCons (eVar 0) (aCons (eCon (.int 3)) aNil)))) aNil))) (aCons (e2 vAdd (eCon (.int 1)) (eC (r_law_take 3) (aCons (eVar 0) (aCons (eCon (.int 12)) aNil)))) aNil))))) aNil))))))
  (sRet (eVar 3))))
noncomputable def r_law_ships : GC := runDef 7 3 b_law_ships
noncomputable def c_law_ships : Lz.Ctx := ⟨N_law_ships, defScope s_law_ships, N_law_ships, [("_law_take", .fn (r_law_take 3) 2 []), ("range", .bt)], xsub, xn, xats⟩
theorem e_law_ships : blockC (compS 20 (c_law_ships)) (defBody s_law_ships) = some (b_law_ships) := by kernel_rfl
/-! _law_shares -/
abbrev s_law_shares : Stmt := topS 12
def N_law_shares : List Str := ["_law_one", "_law_other"]
theorem sc_law_shares : FnScope N_law_shares ["_law_one", "_law_other"] (defScope s_law_shares) := ⟨rfl, rfl, rfl, by decide +kernel, rfl, by decide +kernel, by decide +kernel⟩
noncomputable def b_law_shares : Sv :=
  (sRet (e2 vLt (eC cMaxX (aCons (e2 vIx (eVar 0) (eCon (.int 0))) (aCons (e2 vIx (eVar 1) (eCon (.int 0))) aNil))) (eC cMinX (aCons (e2 vAdd (e2 vIx (eVar 0) (eCon (.int 0))) (e2 vIx (eVar 0) (eCon (.int 1)))) (aCons (e2 vAdd (e2 vIx (eVar 1) (eCon (.int 0))) (e2 vIx (eVar 1) (eCon (.int 1)))) aNil)))))
noncomputable def r_law_shares : GC := runDef 2 2 b_law_shares
noncomputable def c_law_shares : Lz.Ctx := ⟨N_law_shares, defScope s_law_shares, N_law_shares, [("max", .bt), ("min", .bt)], xsub, xn, xats⟩
theorem e_law_shares : blockC (compS 20 (c_law_shares)) (defBody s_law_shares) = some (b_law_shares) := by kernel_rfl
/-! _law_starts -/
abbrev s_law_starts : Stmt := topS 13
def N_law_starts : List Str := ["_law_ships_here", "_law_found", "_law_k", "_law_left", "_law_j"]
theorem sc_law_starts : FnScope N_law_starts ["_law_ships_here"] (defScope s_law_starts) := ⟨rfl, rfl, rfl, by decide +kernel, rfl, by decide +kernel, by decide +kernel⟩
noncomputable def b_law_starts : Sv :=
  (sSeq
   (sSet 1 (eLst aNil))
  (sSeq
   (sFor (iRg1 (aCons (eC cLen (aCons (eVar 0) aNil)) aNil)) (gN (nNm 2))
     (sSeq
      (sSet 3 (eLc (iRg1 (aCons (eVar 2) aNil)) (nNm 4) [4] (bTru (eC r_law_shares (aCons (e2 vIx (eVar 0) (eVar 4)) (aCons (e2 vIx (eVar 0) (eVar 2)) aNil)))) (e2 vAdd (e2 vIx (eVar 1) (eVar 4)) (e2 vIx (e2 vIx (eVar 0) (eVar 4)) (eCon (.int 3))))))
     (sExp (eM mAppend (eVar 1) (aCons (eC cMaxX (aCons (e2 vAdd (eLst (aCons (e2 vIx (e2 vIx (eVar 0) (eVar 2)) (eCon (.int 2))) aNil)) (eVar 3)) aNil)) aNil)))))
  (sRet (eVar 1))))
noncomputable def r_law_starts : GC := runDef 5 1 b_law_starts
noncomputable def c_law_starts : Lz.Ctx := ⟨N_law_starts, defScope s_law_starts, N_law_starts, [("_law_shares", .fn r_law_shares 2 []), ("len", .bt), ("max", .bt), ("range", .bt)], xsub, xn, xats⟩
theorem e_law_starts : blockC (compS 20 (c_law_starts)) (defBody s_law_starts) = some (b_law_starts) := by kernel_rfl
/-! _law_chain -/
abbrev s_law_chain : Stmt := topS 14
def N_law_chain : List Str := ["_law_ships_here", "_law_number", "_law_told", "_law_ahead", "_law_j"]
theorem sc_law_chain : FnScope N_law_chain ["_law_ships_here", "_law_number"] (defScope s_law_chain) := ⟨rfl, rfl, rfl, by decide +kernel, rfl, by decide +kernel, by decide +kernel⟩
noncomputable def b_law_chain (r : GC) : Sv :=
  (sSeq
   (sSet 2 (eC r_law_starts (aCons (eVar 0) aNil)))
  (sSeq
   (sIf (asB (e2 vEq (e2 vIx (eVar 2) (eVar 1)) (e2 vIx (e2 vIx (eVar 0) (eVar 1)) (eCon (.int 2)))))
     (sRet (eTup (aCons (eVar 1) aNil)))
     sNil)
  (sSeq
   (sSet 3 (eLc (iRg1 (aCons (eVar 1) aNil)) (nNm 4) [4] (bAnd (bTru (eC r_law_shares (aCons (e2 vIx (eVar 0) (eVar 4)) (aCons (e2 vIx (eVar 0) (eVar 1)) aNil)))) (asB (e2 vEq (e2 vAdd (e2 vIx (eVar 2) (eVar 4)) (e2 vIx (e2 vIx (eVar 0) (eVar 4)) (eCon (.int 3)))) (e2 vIx (eVar 2) (eVar 1))))) (eVar 4)))
  (sRet (e2 vAdd (eC r (aCons (eVar 0) (aCons (e2 vIx (eVar 3) (eCon (.int 0))) aNil))) (eTup (aCons (eVar 1) aNil)))))))
noncomputable def r_law_chain : Nat → GC
  | 0 => noRun
  | n + 1 => runDef 5 2 (b_law_chain (r_law_chain n))
noncomputable def c_law_chain (r : GC) : Lz.Ctx := ⟨N_law_chain, defScope s_law_chain, N_law_chain, [("_law_chain", .fn r 2 []), ("_law_shares", .fn r_law_shares 2 []), ("_law_starts", .fn r_law_starts 1 []), ("range", .bt)], xsub, xn, xats⟩
theorem e_law_chain (r : GC) : blockC (compS 20 (c_law_chain r)) (defBody s_law_chain) = some (b_law_chain r) := by kernel_rfl
/-! _law_free -/
abbrev s_law_free : Stmt := topS 15
def N_law_free : List Str := ["_law_bollards", "_law_ships_here", "_law_minute", "_law_told", "_law_found", "_law_bollard", "_law_is_free", "_law_k"]
theorem sc_law_free : FnScope N_law_free ["_law_bollards", "_law_ships_here", "_law_minute"] (defScope s_law_free) := ⟨rfl, rfl, rfl, by decide +kernel, rfl, by decide +kernel, by decide +kernel⟩
noncomputable def b_law_free : Sv :=
  (sSeq
   (sSet 3 (eC r_law_starts (aCons (eVar 1) aNil)))
  (sSeq
   (sSet 4 (eLst aNil))
  (sSeq
   (sFor (iRg1 (aCons (eVar 0) aNil)) (gN (nNm 5))
     (sSeq
      (sSet 6 (eCon (.bl true)))
     (sSeq
      (sFor (iRg1 (aCons (eC cLen (aCons (eVar 1) aNil)) aNil)) (gN (nNm 7))
        (sIf (bAnd (asB (eChain vLe vLt (e2 vIx (e2 vIx (eVar 1) (eVar 7)) (eCon (.int 0))) (eVar 5) (e2 vAdd (e2 vIx (e2 vIx (eVar 1) (eVar 7)) (eCon (.int 0))) (e2 vIx (e2 vIx (eVar 1) (eVar 7)) (eCon (.int 1)))))) (asB (eChain vLe vLt (e2 vIx (eVar 3) (eVar 7)) (eVar 2) (e2 vAdd (e2 vIx (eVar 3) (eVar 7)) (e2 vIx (e2 vIx (eVar 1) (eVar 7)) (eCon (.int 3)))))))
          (sSet 6 (eCon (.bl false)))
          sNil))
     (sIf (bAnd (bTru (eVar 6)) (bAnd (bTru (eVar 4)) (asB (e2 vEq (e2 vIx (e2 vIx (eVar 4) (e1 vNeg (eCon (.int 1)))) (eCon (.int 1))) (e2 vSub (eVar 5) (eCon (.int 1)))))))
       (sAsg (eTup (aCons (e2 vIx (e2 vIx (eVar 4) (e1 vNeg (eCon (.int 1)))) (eCon (.int 0))) (aCons (eVar 5) aNil))) (gIx pIx (eVar 4) (e1 vNeg (eCon (.int 1)))))
       (sIf (bTru (eVar 6))
         (sExp (eM mAppend (eVar 4) (aCons (eTup (aCons (eVar 5) (aCons (eVar 5) aNil))) aNil)))
         sNil)))))
  (sRet (eC cTup (aCons (eVar 4) aNil))))))
noncomputable def r_law_free : GC := runDef 8 3 b_law_free
noncomputable def c_law_free : Lz.Ctx := ⟨N_law_free, defScope s_law_free, N_law_free, [("_law_starts", .fn r_law_starts 1 []), ("len", .bt), ("range", .bt), ("tuple", .bt)], xsub, xn, xats⟩
theorem e_law_free : blockC (compS 20 (c_law_free)) (defBody s_law_free) = some (b_law_free) := by kernel_rfl
/-! _law_greatest -/
abbrev s_law_greatest : Stmt := topS 16
def N_law_greatest : List Str := ["_law_ships_here", "_law_number", "_law_best", "_law_j"]
theorem sc_law_greatest : FnScope N_law_greatest ["_law_ships_here", "_law_number"] (defScope s_law_greatest) := ⟨rfl, rfl, rfl, by decide +kernel, rfl, by decide +kernel, by decide +kernel⟩
noncomputable def b_law_greatest (r : GC) : Sv :=
  (sSeq
   (sSet 2 (e2 vIx (e2 vIx (eVar 0) (eVar 1)) (eCon (.int 2))))
  (sSeq
   (sFor (iRg1 (aCons (eVar 1) aNil)) (gN (nNm 3))
     (sIf (bTru (eC r_law_shares (aCons (e2 vIx (eVar 0) (eVar 3)) (aCons (e2 vIx (eVar 0) (eVar 1)) aNil))))
       (sSet 2 (eC cMaxX (aCons (eVar 2) (aCons (e2 vAdd (eC r (aCons (eVar 0) (aCons (eVar 3) aNil))) (e2 vIx (e2 vIx (eVar 0) (eVar 3)) (eCon (.int 3)))) aNil))))
       sNil))
  (sRet (eVar 2))))
noncomputable def r_law_greatest : Nat → GC
  | 0 => noRun
  | n + 1 => runDef 4 2 (b_law_greatest (r_law_greatest n))
noncomputable def c_law_greatest (r : GC) : Lz.Ctx := ⟨N_law_greatest, defScope s_law_greatest, N_law_greatest, [("_law_greatest", .fn r 2 []), ("_law_shares", .fn r_law_shares 2 []), ("max", .bt), ("range", .bt)], xsub, xn, xats⟩
theorem e_law_greatest (r : GC) : blockC (compS 20 (c_law_greatest r)) (defBody s_law_greatest) = some (b_law_greatest r) := by kernel_rfl
/-! _law_exchanged -/
abbrev s_law_exchanged : Stmt := topS 17
def N_law_exchanged : List Str := ["_law_pool_here", "_law_ships_here", "_law_k", "_law_told"]
theorem sc_law_exchanged : FnScope N_law_exchanged ["_law_pool_here", "_law_ships_here"] (defScope s_law_exchanged) := ⟨rfl, rfl, rfl, by decide +kernel, rfl, by decide +kernel, by decide +kernel⟩
noncomputable def b_law_exchanged : Sv :=
  (sSeq
   (sIf (asB (e2 vLt (eC cLen (aCons (eVar 1) aNil)) (eCon (.int 2))))
     (sRet (eCon (.bl true)))
     sNil)
  (sSeq
   (sSet 2 (eC (r_law_take 3) (aCons (eVar 0) (aCons (e2 vSub (eC cLen (aCons (eVar 1) aNil)) (eCon (.int 1))) aNil))))
  (sSeq
   (sIf (bTru (eC r_law_shares (aCons (e2 vIx (eVar 1) (eVar 2)) (aCons (e2 vIx (eVar 1) (e2 vAdd (eVar 2) (eCon (.int 1)))) aNil))))
     (sRet (eCon (.bl true)))
     sNil)
  (sSeq
   (sSet 3 (eC cLst (aCons (eC r_starts (aCons (eVar 1) aNil)) aNil)))
  (sSeq
   (sAsg (eTup (aCons (e2 vIx (eVar 3) (e2 vAdd (eVar 2) (eCon (.int 1)))) (aCons (e2 vIx (eVar 3) (eVar 2)) aNil))) (gTp 2 (gsCons (gIx pIx (eVar 3) (eVar 2)) (gsCons (gIx pIx (eVar 3) (e2 vAdd (eVar 2) (eCon (.int 1)))) gsNil))))
  (sRet (eC (r_law_same 8) (aCons (eC r_starts (aCons (e2 vAdd (e2 vAdd (eSl (eVar 1) oNo (oSo (eVar 2))) (eLst (aCons (e2 vIx (eVar 1) (e2 vAdd (eVar 2) (eCon (.int 1)))) (aCons (e2 vIx (eVar 1) (eVar 2)) aNil)))) (eSl (eVar 1) (oSo (e2 vAdd (eVar 2) (eCon (.int 2)))) oNo)) aNil)) (aCons (eC cTup (aCons (eVar 3) aNil)) aNil)))))))))
noncomputable def r_law_exchanged : GC := runDef 4 2 b_law_exchanged
noncomputable def c_law_exchanged : Lz.Ctx := ⟨N_law_exchanged, defScope s_law_exchanged, N_law_exchanged, [("_law_same", .fn (r_law_same 8) 2 []), ("_law_shares", .fn r_law_shares 2 []), ("_law_take", .fn (r_law_take 3) 2 []), ("starts", .fn r_starts 1 []), ("len", .bt), ("list", .bt), ("tuple", .bt)], xsub, xn, xats⟩
theorem e_law_exchanged : blockC (compS 20 (c_law_exchanged)) (defBody s_law_exchanged) = some (b_law_exchanged) := by kernel_rfl
/-! law -/
abbrev s_law : Stmt := topS 18
def N_law : List Str := ["_law_script", "_law_pool_here", "_law_bollards", "_law_ships_here", "_law_due", "_law_k", "_law_cut", "_law_turned", "_law_later", "_law_minute", "_law_one", "_law_start"]
theorem sc_law : FnScope N_law ["_law_script"] (defScope s_law) := ⟨rfl, rfl, rfl, by decide +kernel, rfl, by decide +kernel, by decide +kernel⟩
noncomputable def b_law : Sv :=
  (sSeq
   (sSet 1 (eC r_law_pool (aCons (eVar 0) aNil)))
  (sSeq
   (sSet 2 (e2 vAdd (eCon (.int 1)) (eC (r_law_take 3) (aCons (eVar 1) (aCons (eCon (.int 40)) aNil)))))
  (sSeq
   (sSet 3 (eC r_law_ships (aCons (eVar 1) (aCons (eVar 2) (aCons (eCon (.int 10)) aNil)))))
  (sSeq
   (sSet 4 (eC r_law_starts (aCons (eVar 3) aNil)))
  (sSeq
   (sIf (bOr (bNot (bTru (eC (r_law_same 8) (aCons (eC r_starts (aCons (eVar 3) aNil)) (aCons (eC cTup (aCons (eVar 4) aNil)) aNil))))) (bNot (bTru (eC (r_law_same 8) (aCons (eC r_starts (aCons (eC cTup (aCons (eVar 3) aNil)) aNil)) (aCons (eC cTup (aCons (eVar 4) aNil)) aNil))))))
     (sRet (eCon (.bl false)))
     sNil)
  (sSeq
   (sFor (iRg1 (aCons (eC cLen (aCons (eVar 3) aNil)) aNil)) (gN (nNm 5))
     (sIf (bOr (bNot (bTru (eC (r_law_same 8) (aCons (eC r_critical_chain (aCons (eVar 3) (aCons (eVar 5) aNil))) (aCons (eC (r_law_chain 12) (aCons (eVar 3) (aCons (eVar 5) aNil))) aNil))))) (asB (e2 vNe (e2 vIx (eVar 4) (eVar 5)) (eC (r_law_greatest 12) (aCons (eVar 3) (aCons (eVar 5) aNil))))))
       (sRet (eCon (.bl false)))
       sNil))
  (sSeq
   (sSet 6 (eC (r_law_take 3) (aCons (eVar 1) (aCons (e2 vAdd (eC cLen (aCons (eVar 3) aNil)) (eCon (.int 1))) aNil))))
  (sSeq
   (sIf (bOr (bNot (bTru (eC (r_law_same 8) (aCons (eC r_starts (aCons (eSl (eVar 3) oNo (oSo (eVar 6))) aNil)) (aCons (eC cTup (aCons (eSl (eVar 4) oNo (oSo (eVar 6))) aNil)) aNil))))) (bNot (bTru (eC r_law_exchanged (aCons (eVar 1) (aCons (eVar 3) aNil))))))
     (sRet (eCon (.bl false)))
     sNil)
  (sSeq
   (sSet 7 (eLc (iSeq (eVar 3)) (nNm 10) [10] bYes (eTup (aCons (e2 vSub (e2 vSub (eVar 2) (e2 vIx (eVar 10) (eCon (.int 0)))) (e2 vIx (eVar 10) (eCon (.int 1)))) (aCons (e2 vIx (eVar 10) (eCon (.int 1))) (aCons (e2 vIx (eVar 10) (eCon (.int 2))) (aCons (e2 vIx (eVar 10) (eCon (.int 3))) aNil)))))))
  (sSeq
   (sSet 8 (eLc (iSeq (eVar 3)) (nNm 10) [10] bYes (eTup (aCons (e2 vIx (eVar 10) (eCon (.int 0))) (aCons (e2 vIx (eVar 10) (eCon (.int 1))) (aCons (e2 vAdd (e2 vIx (eVar 10) (eCon (.int 2))) (eVar 6)) (aCons (e2 vIx (eVar 10) (eCon (.int 3))) aNil)))))))
  (sSeq
   (sIf (bOr (bNot (bTru (eC (r_law_same 8) (aCons (eC r_starts (aCons (eVar 7) aNil)) (aCons (eC cTup (aCons (eVar 4) aNil)) aNil))))) (bNot (bTru (eC (r_law_same 8) (aCons (eC r_starts (aCons (eVar 8) aNil)) (aCons (eC cTup (aCons (eLc (iSeq (eVar 4)) (nNm 11) [11] bYes (e2 vAdd (eVar 11) (eVar 6))) aNil)) aNil))))))
     (sRet (eCon (.bl false)))
     sNil)
  (sSeq
   (sFor (iRg1 (aCons (eCon (.int 3)) aNil)) (gN (nNm 5))
     (sSeq
      (sSet 9 (eC (r_law_take 3) (aCons (eVar 1) (aCons (eCon (.int 40)) aNil))))
     (sSeq
      (sIf (bTru (eVar 4))
        (sSet 9 (e2 vAdd (e2 vSub (e2 vAdd (eC r_law_pick (aCons (eVar 1) (aCons (eVar 4) aNil))) (eC (r_law_take 3) (aCons (eVar 1) (aCons (eCon (.int 3)) aNil)))) (eCon (.int 1))) (e2 vMul (eC (r_law_take 3) (aCons (eVar 1) (aCons (eCon (.int 2)) aNil))) (eC (r_law_take 3) (aCons (eVar 1) (aCons (eCon (.int 12)) aNil))))))
        sNil)
     (sIf (bNot (bTru (eC (r_law_same 8) (aCons (eC r_free_bollards (aCons (eVar 2) (aCons (eVar 3) (aCons (eC cMaxX (aCons (eCon (.int 0)) (aCons (eVar 9) aNil))) aNil)))) (aCons (eC r_law_free (aCons (eVar 2) (aCons (eVar 3) (aCons (eC cMaxX (aCons (eCon (.int 0)) (aCons (eVar 9) aNil))) aNil)))) aNil)))))
       (sRet (eCon (.bl false)))
       sNil))))
  (sRet (eCon (.bl true)))))))))))))))
noncomputable def r_law : GC := runDef 12 1 b_law
noncomputable def c_law : Lz.Ctx := ⟨N_law, defScope s_law, N_law, [("_law_chain", .fn (r_law_chain 12) 2 []), ("_law_exchanged", .fn r_law_exchanged 2 []), ("_law_free", .fn r_law_free 3 []), ("_law_greatest", .fn (r_law_greatest 12) 2 []), ("_law_pick", .fn r_law_pick 2 []), ("_law_pool", .fn r_law_pool 1 []), ("_law_same", .fn (r_law_same 8) 2 []), ("_law_ships", .fn r_law_ships 3 []), ("_law_starts", .fn r_law_starts 1 []), ("_law_take", .fn (r_law_take 3) 2 []), ("critical_chain", .fn r_critical_chain 2 []), ("free_bollards", .fn r_free_bollards 3 []), ("starts", .fn r_starts 1 []), ("len", .bt), ("max", .bt), ("range", .bt), ("tuple", .bt)], xsub, xn, xats⟩
theorem e_law : blockC (compS 20 (c_law)) (defBody s_law) = some (b_law) := by kernel_rfl
/-! is_sharing: 0=ship 1=other -/
noncomputable def vb_is_sharing : VS :=
  (vRet (qeAnd (qOp2 qLt (hIx (hVar 0) (hE (qCon (.int 0)))) (hE (qOp2 qAdd (hIx (hVar 1) (hE (qCon (.int 0)))) (hIx (hVar 1) (hE (qCon (.int 1))))))) (qOp2 qLt (hIx (hVar 1) (hE (qCon (.int 0)))) (hE (qOp2 qAdd (hIx (hVar 0) (hE (qCon (.int 0)))) (hIx (hVar 0) (hE (qCon (.int 1)))))))))
noncomputable def v_is_sharing : VF := vRun 2 2 [true, true] vb_is_sharing
theorem av_is_sharing : ∀ ws, ws.length ≠ 2 → v_is_sharing ws = .bad := vRun_ar
theorem svb_is_sharing : SVS (idxT [true, true] 0) [] b_is_sharing vb_is_sharing := by
  unfold b_is_sharing vb_is_sharing 
  exact (ss_ret' (sv_and (sv_op2 ov_cmp (sv_hix (sv_hvar 0) (sv_he (sv_con (.int 0) rfl rfl)) (by decide)) (sv_he (sv_op2 ov_add (sv_hix (sv_hvar 1) (sv_he (sv_con (.int 0) rfl rfl)) (by decide)) (sv_hix (sv_hvar 1) (sv_he (sv_con (.int 1) rfl rfl)) (by decide)) (by decide))) (by decide)) (sv_op2 ov_cmp (sv_hix (sv_hvar 1) (sv_he (sv_con (.int 0) rfl rfl)) (by decide)) (sv_he (sv_op2 ov_add (sv_hix (sv_hvar 0) (sv_he (sv_con (.int 0) rfl rfl)) (by decide)) (sv_hix (sv_hvar 0) (sv_he (sv_con (.int 1) rfl rfl)) (by decide)) (by decide))) (by decide))) (by decide))
theorem sv_is_sharing : SVF 2 r_is_sharing v_is_sharing := vf_run' svb_is_sharing (by decide) rfl
/-! starts: 0=ships 1=found 2=number 3=ship 4=start 5=earlier -/
noncomputable def lb_starts_1 : VS :=
        (vIf (qTru (hE (qCall v_is_sharing (kCons (hIx (hVar 0) (hVar 5)) (kCons (hVar 3) kNil)))))
          (vSet 4 (qBi kMaxX (kCons (hVar 4) (kCons (hE (qOp2 qAdd (hIx (hVar 1) (hVar 5)) (hIx (hIx (hVar 0) (hVar 5)) (hE (qCon (.int 3)))))) kNil))))
          vNil)
noncomputable def lb_starts_2 : VS :=
     (vSeq
      (vSet 4 (qPk (hIx (hVar 3) (hE (qCon (.int 2))))))
     (vSeq
      (vFor [] [5] (qRg (aqCons (qVar 2) aqNil)) (tNm 5) lb_starts_1)
     (vExp (qM qAppend (hVar 1) (aqCons (qVar 4) aqNil)))))
noncomputable def vb_starts : VS :=
  (vSeq
   (vSet 1 (qLst aqNil))
  (vSeq
   (vFor [] [2, 3, 4, 5] (qEn (hE (qShr 0))) (tTp 2 (tsCons (tNm 2) (tsCons (tNm 3) tsNil))) lb_starts_2)
  (vRet (qBi kTup (kCons (hVar 1) kNil)))))
noncomputable def v_starts : VF := vRun 6 1 [true] vb_starts
theorem av_starts : ∀ ws, ws.length ≠ 1 → v_starts ws = .bad := vRun_ar
theorem svb_starts : SVS (idxT [true] 0) [] b_starts vb_starts := by
  unfold b_starts vb_starts lb_starts_2 lb_starts_1
  exact (ss_seq' (ss_set' (sv_lst sq_nil) (by decide) (or_app (by decide)))
  (ss_seq' (ss_for' (J := []) (kill := [2, 3, 4, 5]) (si_en' (sv_he (sv_shr 0))) (st_tp (sts_cons' (st_nm 2) (sts_cons' (st_nm 3) sts_nil')))
    (ss_seq' (ss_set' (sv_pk (sv_hix (sv_hvar 3) (sv_he (sv_con (.int 2) rfl rfl)) (by decide))) (by decide) (or_app (by decide)))
     (ss_seq' (ss_for' (J := []) (kill := [5]) (si_rg1' (sq_cons (sv_var 2) sq_nil) (aq_one (qVar 2))) (st_nm 5)
       (ss_if' (tb_tru (sv_he (sv_call sv_is_sharing (sk_cons (sv_hix (sv_hvar 0) (sv_hvar 5) (by decide)) (sk_cons (sv_hvar 3) sk_nil (by decide)) (by decide)) av_is_sharing))) (by decide)
         (ss_set' (sv_bi ov_maxX (sk_cons (sv_hvar 4) (sk_cons (sv_he (sv_op2 ov_add (sv_hix (sv_hvar 1) (sv_hvar 5) (by decide)) (sv_hix (sv_hix (sv_hvar 0) (sv_hvar 5) (by decide)) (sv_he (sv_con (.int 3) rfl rfl)) (by decide)) (by decide))) sk_nil (by decide)) (by decide))) (by decide) (or_app (by decide)))
         ss_nil') (by decide) (or_app3 (by decide)))
     (ss_exp' (sv_m mt_append (sv_hvar 1) (sq_cons (sv_var 4) sq_nil) (by decide)) (by decide)))) (by decide) (or_app3 (by decide)))
  (ss_ret' (sv_bi ov_tup (sk_cons (sv_hvar 1) sk_nil (by decide))) (by decide))))
theorem sv_starts : SVF 1 r_starts v_starts := vf_run' svb_starts (by decide) rfl
/-! critical_chain: 0=ships 1=number 2=told 3=found 4=last 5=earlier -/
noncomputable def lb_critical_chain_1 : VS :=
       (vIf (qbAnd (qTru (hE (qCall v_is_sharing (kCons (hIx (hVar 0) (hVar 5)) (kCons (hIx (hVar 0) (hVar 4)) kNil))))) (qasB (qOp2 qEq (hE (qOp2 qAdd (hIx (hVar 2) (hVar 5)) (hIx (hIx (hVar 0) (hVar 5)) (hE (qCon (.int 3)))))) (hIx (hVar 2) (hVar 4)))))
         (vSeq
          (vExp (qM qAppend (hVar 3) (aqCons (qVar 5) aqNil)))
         vBrk)
         vNil)
noncomputable def lb_critical_chain_2 : VS :=
     (vSeq
      (vSet 4 (qPk (hIx (hVar 3) (hE (qOp1 qNeg (hE (qCon (.int 1))))))))
     (vFor [] [5] (qRg (aqCons (qVar 4) aqNil)) (tNm 5) lb_critical_chain_1))
noncomputable def lw_critical_chain_1 : VB :=
(qasB (qOp2 qGt (hIx (hVar 2) (hIx (hVar 3) (hE (qOp1 qNeg (hE (qCon (.int 1))))))) (hIx (hIx (hVar 0) (hIx (hVar 3) (hE (qOp1 qNeg (hE (qCon (.int 1))))))) (hE (qCon (.int 2))))))
noncomputable def vb_critical_chain : VS :=
  (vSeq
   (vSet 2 (qCall v_starts (kCons (hVar 0) kNil)))
  (vSeq
   (vSet 3 (qLst (aqCons (qVar 1) aqNil)))
  (vSeq
   (vWhile [4, 5] lw_critical_chain_1 lb_critical_chain_2)
  (vSeq
   (vExp (qM qReverse (hVar 3) aqNil))
  (vRet (qBi kTup (kCons (hVar 3) kNil)))))))
noncomputable def v_critical_chain : VF := vRun 6 2 [true, true] vb_critical_chain
theorem av_critical_chain : ∀ ws, ws.length ≠ 2 → v_critical_chain ws = .bad := vRun_ar
theorem svb_critical_chain : SVS (idxT [true, true] 0) [] b_critical_chain vb_critical_chain := by
  unfold b_critical_chain vb_critical_chain lw_critical_chain_1 lb_critical_chain_2 lb_critical_chain_1
  exact (ss_seq' (ss_set' (sv_call sv_starts (sk_cons (sv_hvar 0) sk_nil (by decide)) av_starts) (by decide) (or_app (by decide)))
  (ss_seq' (ss_set' (sv_lst (sq_cons (sv_var 1) sq_nil)) (by decide) (or_app (by decide)))
  (ss_seq' (ss_while' (kill := [4, 5]) (tb_asB (sv_op2 ov_cmp (sv_hix (sv_hvar 2) (sv_hix (sv_hvar 3) (sv_he (sv_op1 ov_neg (sv_he (sv_con (.int 1) rfl rfl)))) (by decide)) (by decide)) (sv_hix (sv_hix (sv_hvar 0) (sv_hix (sv_hvar 3) (sv_he (sv_op1 ov_neg (sv_he (sv_con (.int 1) rfl rfl)))) (by decide)) (by decide)) (sv_he (sv_con (.int 2) rfl rfl)) (by decide)) (by decide)))
    (ss_seq' (ss_set' (sv_pk (sv_hix (sv_hvar 3) (sv_he (sv_op1 ov_neg (sv_he (sv_con (.int 1) rfl rfl)))) (by decide))) (by decide) (or_app (by decide)))
     (ss_for' (J := []) (kill := [5]) (si_rg1' (sq_cons (sv_var 4) sq_nil) (aq_one (qVar 4))) (st_nm 5)
      (ss_if' (tb_and (tb_tru (sv_he (sv_call sv_is_sharing (sk_cons (sv_hix (sv_hvar 0) (sv_hvar 5) (by decide)) (sk_cons (sv_hix (sv_hvar 0) (sv_hvar 4) (by decide)) sk_nil (by decide)) (by decide)) av_is_sharing))) (tb_asB (sv_op2 ov_eq (sv_he (sv_op2 ov_add (sv_hix (sv_hvar 2) (sv_hvar 5) (by decide)) (sv_hix (sv_hix (sv_hvar 0) (sv_hvar 5) (by decide)) (sv_he (sv_con (.int 3) rfl rfl)) (by decide)) (by decide))) (sv_hix (sv_hvar 2) (sv_hvar 4) (by decide)) (by decide)))) (by decide)
        (ss_seq' (ss_exp' (sv_m mt_append (sv_hvar 3) (sq_cons (sv_var 5) sq_nil) (by decide)) (by decide))
         ss_brk')
        ss_nil') (by decide) (or_app3 (by decide)))) (by decide))
  (ss_seq' (ss_exp' (sv_m mt_reverse (sv_hvar 3) sq_nil (by decide)) (by decide))
  (ss_ret' (sv_bi ov_tup (sk_cons (sv_hvar 3) sk_nil (by decide))) (by decide))))))
theorem sv_critical_chain : SVF 2 r_critical_chain v_critical_chain := vf_run' svb_critical_chain (by decide) rfl
/-! free_bollards: 0=bollards 1=ships 2=minute 3=told 4=ship 5=lying 6=found 7=at 8=number -/
noncomputable def le_free_bollards_1 : VE :=
  (qBi kTup (kCons (hVar 4) kNil))
noncomputable def lt_free_bollards_1 : VB :=
  (qasB (qChain qLe qLt (hIx (hVar 3) (hVar 8)) (hVar 2) (hE (qOp2 qAdd (hIx (hVar 3) (hVar 8)) (hIx (hVar 4) (hE (qCon (.int 3))))))))
noncomputable def lb_free_bollards_1 : VS :=
     (vSeq
      (vIf (qasB (qOp2 qGt (hIx (hVar 4) (hE (qCon (.int 0)))) (hVar 7)))
        (vExp (qM qAppend (hVar 6) (aqCons (qTup (aqCons (qVar 7) (aqCons (qOp2 qSub (hIx (hVar 4) (hE (qCon (.int 0)))) (hE (qCon (.int 1)))) aqNil))) aqNil)))
        vNil)
     (vSet 7 (qBi kMaxX (kCons (hVar 7) (kCons (hE (qOp2 qAdd (hIx (hVar 4) (hE (qCon (.int 0)))) (hIx (hVar 4) (hE (qCon (.int 1)))))) kNil)))))
noncomputable def vb_free_bollards : VS :=
  (vSeq
   (vSet 3 (qCall v_starts (kCons (hVar 1) kNil)))
  (vSeq
   (vSet 5 (qLc [1] [8, 4] (qEn (hVar 1)) (tTp 2 (tsCons (tNm 8) (tsCons (tNm 4) tsNil))) lt_free_bollards_1 le_free_bollards_1))
  (vSeq
   (vSet 6 (qLst aqNil))
  (vSeq
   (vSet 7 (qCon (.int 0)))
  (vSeq
   (vFor [] [4] (qit (hE (qBi kSrtX (kCons (hVar 5) kNil)))) (tNm 4) lb_free_bollards_1)
  (vSeq
   (vIf (qasB (qOp2 qLt (hVar 7) (hVar 0)))
     (vExp (qM qAppend (hVar 6) (aqCons (qTup (aqCons (qVar 7) (aqCons (qOp2 qSub (hVar 0) (hE (qCon (.int 1)))) aqNil))) aqNil)))
     vNil)
  (vRet (qBi kTup (kCons (hVar 6) kNil)))))))))
noncomputable def v_free_bollards : VF := vRun 9 3 [true, true, true] vb_free_bollards
theorem av_free_bollards : ∀ ws, ws.length ≠ 3 → v_free_bollards ws = .bad := vRun_ar
theorem svb_free_bollards : SVS (idxT [true, true, true] 0) [] b_free_bollards vb_free_bollards := by
  unfold b_free_bollards vb_free_bollards lb_free_bollards_1 lt_free_bollards_1 le_free_bollards_1
  exact (ss_seq' (ss_set' (sv_call sv_starts (sk_cons (sv_hvar 1) sk_nil (by decide)) av_starts) (by decide) (or_app (by decide)))
  (ss_seq' (ss_set' (sv_lc (J := [1]) (own := [8, 4]) (si_en' (sv_hvar 1)) (st_tp (sts_cons' (st_nm 8) (sts_cons' (st_nm 4) sts_nil'))) (tb_asB (sv_chain (cmp_cmp _) ov_cmp (sv_hix (sv_hvar 3) (sv_hvar 8) (by decide)) (sv_hvar 2) (sv_he (sv_op2 ov_add (sv_hix (sv_hvar 3) (sv_hvar 8) (by decide)) (sv_hix (sv_hvar 4) (sv_he (sv_con (.int 3) rfl rfl)) (by decide)) (by decide))) (by decide) (by decide))) (sv_bi ov_tup (sk_cons (sv_hvar 4) sk_nil (by decide))) (by decide) (and_app (by decide))) (by decide) (or_app (by decide)))
  (ss_seq' (ss_set' (sv_lst sq_nil) (by decide) (or_app (by decide)))
  (ss_seq' (ss_set' (sv_con (.int 0) rfl rfl) (by decide) (or_app (by decide)))
  (ss_seq' (ss_for' (J := []) (kill := [4]) (si_seq' (sv_he (sv_bi ov_srtX (sk_cons (sv_hvar 5) sk_nil (by decide))))) (st_nm 4)
    (ss_seq' (ss_if' (tb_asB (sv_op2 ov_cmp (sv_hix (sv_hvar 4) (sv_he (sv_con (.int 0) rfl rfl)) (by decide)) (sv_hvar 7) (by decide))) (by decide)
       (ss_exp' (sv_m mt_append (sv_hvar 6) (sq_cons (sv_tup (sq_cons (sv_var 7) (sq_cons (sv_op2 ov_sub (sv_hix (sv_hvar 4) (sv_he (sv_con (.int 0) rfl rfl)) (by decide)) (sv_he (sv_con (.int 1) rfl rfl)) (by decide)) sq_nil))) sq_nil) (by decide)) (by decide))
       ss_nil')
     (ss_set' (sv_bi ov_maxX (sk_cons (sv_hvar 7) (sk_cons (sv_he (sv_op2 ov_add (sv_hix (sv_hvar 4) (sv_he (sv_con (.int 0) rfl rfl)) (by decide)) (sv_hix (sv_hvar 4) (sv_he (sv_con (.int 1) rfl rfl)) (by decide)) (by decide))) sk_nil (by decide)) (by decide))) (by decide) (or_app (by decide)))) (by decide) (or_app3 (by decide)))
  (ss_seq' (ss_if' (tb_asB (sv_op2 ov_cmp (sv_hvar 7) (sv_hvar 0) (by decide))) (by decide)
    (ss_exp' (sv_m mt_append (sv_hvar 6) (sq_cons (sv_tup (sq_cons (sv_var 7) (sq_cons (sv_op2 ov_sub (sv_hvar 0) (sv_he (sv_con (.int 1) rfl rfl)) (by decide)) sq_nil))) sq_nil) (by decide)) (by decide))
    ss_nil')
  (ss_ret' (sv_bi ov_tup (sk_cons (sv_hvar 6) sk_nil (by decide))) (by decide))))))))
theorem sv_free_bollards : SVF 3 r_free_bollards v_free_bollards := vf_run' svb_free_bollards (by decide) rfl
/-! _law_pool: 0=law_script 1=law_cell -/
noncomputable def le_law_pool_1 : VE :=
  (qIf (qasB (qOp2 qGe (hVar 1) (hE (qCon (.int 0))))) (qOp2 qMul (hE (qCon (.int 2))) (hVar 1)) (qOp2 qSub (hE (qOp2 qMul (hE (qOp1 qNeg (hE (qCon (.int 2))))) (hVar 1))) (hE (qCon (.int 1)))))
noncomputable def vb_law_pool : VS :=
  (vRet (qLst (aqCons (qLc [0] [1] (qit (hVar 0)) (tNm 1) qYes le_law_pool_1) (aqCons (qCon (.int 0)) (aqCons (qCon (.int 0)) (aqCons (qCon (.int 17)) aqNil))))))
noncomputable def v_law_pool : VF := vRun 2 1 [true] vb_law_pool
theorem av_law_pool : ∀ ws, ws.length ≠ 1 → v_law_pool ws = .bad := vRun_ar
theorem svb_law_pool : SVS (idxT [true] 0) [] b_law_pool vb_law_pool := by
  unfold b_law_pool vb_law_pool le_law_pool_1
  exact (ss_ret' (sv_lst (sq_cons (sv_lc (J := [0]) (own := [1]) (si_seq' (sv_hvar 0)) (st_nm 1) tb_yes (sv_if (tb_asB (sv_op2 ov_cmp (sv_hvar 1) (sv_he (sv_con (.int 0) rfl rfl)) (by decide))) (sv_op2 ov_mul (sv_he (sv_con (.int 2) rfl rfl)) (sv_hvar 1) (by decide)) (sv_op2 ov_sub (sv_he (sv_op2 ov_mul (sv_he (sv_op1 ov_neg (sv_he (sv_con (.int 2) rfl rfl)))) (sv_hvar 1) (by decide))) (sv_he (sv_con (.int 1) rfl rfl)) (by decide))) (by decide) (and_app (by decide))) (sq_cons (sv_con (.int 0) rfl rfl) (sq_cons (sv_con (.int 0) rfl rfl) (sq_cons (sv_con (.int 17) rfl rfl) sq_nil))))) (by decide))
theorem sv_law_pool : SVF 1 r_law_pool v_law_pool := vf_run' svb_law_pool (by decide) rfl
/-! _law_take: 0=law_pool_here 1=law_many 2=law_digit 3=law_cell 4=law_mixed -/
noncomputable def vb_law_take (q : VF) : VS :=
  (vSeq
   (vIf (qasB (qOp2 qGt (hIx (hVar 0) (hE (qCon (.int 2)))) (hE (qCon (.int 0)))))
     (vSeq
      (vSet 2 (qOp2 qMod (hE (qBi kInt (kCons (hIx (hVar 0) (hE (qCon (.int 2)))) kNil))) (hVar 1)))
     (vSeq
      (vPut (qOp2 qDiv (hIx (hVar 0) (hE (qCon (.int 2)))) (hVar 1)) (hVar 0) (hE (qCon (.int 2))))
     (vRet (qVar 2))))
     vNil)
  (vSeq
   (vSet 3 (qCon (.int 0)))
  (vSeq
   (vIf (qasB (qOp2 qLt (hIx (hVar 0) (hE (qCon (.int 1)))) (hE (qBi kLen (kCons (hIx (hVar 0) (hE (qCon (.int 0)))) kNil)))))
     (vSet 3 (qPk (hIx (hIx (hVar 0) (hE (qCon (.int 0)))) (hIx (hVar 0) (hE (qCon (.int 1)))))))
     vNil)
  (vSeq
   (vPut (qOp2 qAdd (hIx (hVar 0) (hE (qCon (.int 1)))) (hE (qCon (.int 1)))) (hVar 0) (hE (qCon (.int 1))))
  (vSeq
   (vIf (qasB (qOp2 qGe (hVar 3) (hE (qOp2 qPow (hE (qCon (.int 10))) (hE (qCon (.int 18)))))))
     (vSeq
      (vPut (qOp2 qDiv (hVar 3) (hE (qCon (.int 2)))) (hVar 0) (hE (qCon (.int 2))))
     (vRet (qCall q (kCons (hVar 0) (kCons (hVar 1) kNil)))))
     vNil)
  (vSeq
   (vPut (qOp2 qMod (hE (qBi kInt (kCons (hE (qOp2 qAdd (hE (qOp2 qAdd (hE (qOp2 qMul (hIx (hVar 0) (hE (qCon (.int 3)))) (hE (qCon (.int 48271))))) (hE (qOp2 qMul (hVar 3) (hE (qCon (.int 69621))))))) (hE (qOp2 qMul (hIx (hVar 0) (hE (qCon (.int 1)))) (hE (qCon (.int 613))))))) kNil))) (hE (qCon (.int 2147483647)))) (hVar 0) (hE (qCon (.int 3))))
  (vSeq
   (vSet 4 (qOp2 qMod (hE (qBi kInt (kCons (hE (qOp2 qAdd (hE (qOp2 qAdd (hE (qOp2 qMul (hIx (hVar 0) (hE (qCon (.int 3)))) (hIx (hVar 0) (hE (qCon (.int 3)))))) (hE (qOp2 qMul (hIx (hVar 0) (hE (qCon (.int 3)))) (hE (qCon (.int 7919))))))) (hE (qCon (.int 104729))))) kNil))) (hE (qCon (.int 1000000007)))))
  (vRet (qOp2 qMod (hE (qBi kInt (kCons (hE (qOp2 qDiv (hVar 4) (hE (qCon (.int 3))))) kNil))) (hVar 1))))))))))
noncomputable def v_law_take : Nat → VF
  | 0 => vNo
  | n + 1 => vRun 5 2 [true, true] (vb_law_take (v_law_take n))
theorem av_law_take : ∀ n ws, ws.length ≠ 2 → v_law_take n ws = .bad
  | 0 => vNo_ar
  | _ + 1 => vRun_ar
theorem svb_law_take {r : GC} {q : VF} (hq : SVF 2 r q) (aq : ∀ ws, ws.length ≠ 2 → q ws = .bad) : SVS (idxT [true, true] 0) [] (b_law_take r) (vb_law_take q) := by
  unfold b_law_take vb_law_take 
  exact (ss_seq' (ss_if' (tb_asB (sv_op2 ov_cmp (sv_hix (sv_hvar 0) (sv_he (sv_con (.int 2) rfl rfl)) (by decide)) (sv_he (sv_con (.int 0) rfl rfl)) (by decide))) (by decide)
    (ss_seq' (ss_set' (sv_op2 ov_mod (sv_he (sv_bi ov_int (sk_cons (sv_hix (sv_hvar 0) (sv_he (sv_con (.int 2) rfl rfl)) (by decide)) sk_nil (by decide)))) (sv_hvar 1) (by decide)) (by decide) (or_app (by decide)))
     (ss_seq' (ss_put' (sv_op2 ov_div (sv_hix (sv_hvar 0) (sv_he (sv_con (.int 2) rfl rfl)) (by decide)) (sv_hvar 1) (by decide)) (sv_hvar 0) (sv_he (sv_con (.int 2) rfl rfl)) (by decide) (by decide) (by decide) (by decide) (by decide))
     (ss_ret' (sv_var 2) (by decide))))
    ss_nil')
  (ss_seq' (ss_set' (sv_con (.int 0) rfl rfl) (by decide) (or_app (by decide)))
  (ss_seq' (ss_if' (tb_asB (sv_op2 ov_cmp (sv_hix (sv_hvar 0) (sv_he (sv_con (.int 1) rfl rfl)) (by decide)) (sv_he (sv_bi ov_len (sk_cons (sv_hix (sv_hvar 0) (sv_he (sv_con (.int 0) rfl rfl)) (by decide)) sk_nil (by decide)))) (by decide))) (by decide)
    (ss_set' (sv_pk (sv_hix (sv_hix (sv_hvar 0) (sv_he (sv_con (.int 0) rfl rfl)) (by decide)) (sv_hix (sv_hvar 0) (sv_he (sv_con (.int 1) rfl rfl)) (by decide)) (by decide))) (by decide) (or_app (by decide)))
    ss_nil')
  (ss_seq' (ss_put' (sv_op2 ov_add (sv_hix (sv_hvar 0) (sv_he (sv_con (.int 1) rfl rfl)) (by decide)) (sv_he (sv_con (.int 1) rfl rfl)) (by decide)) (sv_hvar 0) (sv_he (sv_con (.int 1) rfl rfl)) (by decide) (by decide) (by decide) (by decide) (by decide))
  (ss_seq' (ss_if' (tb_asB (sv_op2 ov_cmp (sv_hvar 3) (sv_he (sv_op2 ov_pow (sv_he (sv_con (.int 10) rfl rfl)) (sv_he (sv_con (.int 18) rfl rfl)) (by decide))) (by decide))) (by decide)
    (ss_seq' (ss_put' (sv_op2 ov_div (sv_hvar 3) (sv_he (sv_con (.int 2) rfl rfl)) (by decide)) (sv_hvar 0) (sv_he (sv_con (.int 2) rfl rfl)) (by decide) (by decide) (by decide) (by decide) (by decide))
     (ss_ret' (sv_call hq (sk_cons (sv_hvar 0) (sk_cons (sv_hvar 1) sk_nil (by decide)) (by decide)) aq) (by decide)))
    ss_nil')
  (ss_seq' (ss_put' (sv_op2 ov_mod (sv_he (sv_bi ov_int (sk_cons (sv_he (sv_op2 ov_add (sv_he (sv_op2 ov_add (sv_he (sv_op2 ov_mul (sv_hix (sv_hvar 0) (sv_he (sv_con (.int 3) rfl rfl)) (by decide)) (sv_he (sv_con (.int 48271) rfl rfl)) (by decide))) (sv_he (sv_op2 ov_mul (sv_hvar 3) (sv_he (sv_con (.int 69621) rfl rfl)) (by decide))) (by decide))) (sv_he (sv_op2 ov_mul (sv_hix (sv_hvar 0) (sv_he (sv_con (.int 1) rfl rfl)) (by decide)) (sv_he (sv_con (.int 613) rfl rfl)) (by decide))) (by decide))) sk_nil (by decide)))) (sv_he (sv_con (.int 2147483647) rfl rfl)) (by decide)) (sv_hvar 0) (sv_he (sv_con (.int 3) rfl rfl)) (by decide) (by decide) (by decide) (by decide) (by decide))
  (ss_seq' (ss_set' (sv_op2 ov_mod (sv_he (sv_bi ov_int (sk_cons (sv_he (sv_op2 ov_add (sv_he (sv_op2 ov_add (sv_he (sv_op2 ov_mul (sv_hix (sv_hvar 0) (sv_he (sv_con (.int 3) rfl rfl)) (by decide)) (sv_hix (sv_hvar 0) (sv_he (sv_con (.int 3) rfl rfl)) (by decide)) (by decide))) (sv_he (sv_op2 ov_mul (sv_hix (sv_hvar 0) (sv_he (sv_con (.int 3) rfl rfl)) (by decide)) (sv_he (sv_con (.int 7919) rfl rfl)) (by decide))) (by decide))) (sv_he (sv_con (.int 104729) rfl rfl)) (by decide))) sk_nil (by decide)))) (sv_he (sv_con (.int 1000000007) rfl rfl)) (by decide)) (by decide) (or_app (by decide)))
  (ss_ret' (sv_op2 ov_mod (sv_he (sv_bi ov_int (sk_cons (sv_he (sv_op2 ov_div (sv_hvar 4) (sv_he (sv_con (.int 3) rfl rfl)) (by decide))) sk_nil (by decide)))) (sv_hvar 1) (by decide)) (by decide)))))))))
theorem sv_law_take : ∀ n, SVF 2 (r_law_take n) (v_law_take n)
  | 0 => vf_no
  | n + 1 => vf_run' (svb_law_take (sv_law_take n) (av_law_take n)) (by decide) rfl
/-! _law_is_integer: 0=law_actual -/
noncomputable def vb_law_is_integer : VS :=
  (vRet (qeAnd (qOp1 (qIsi "int") (hVar 0)) (qeNot (hE (qOp1 (qIsi "bool") (hVar 0))))))
noncomputable def v_law_is_integer : VF := vRun 1 1 [true] vb_law_is_integer
theorem av_law_is_integer : ∀ ws, ws.length ≠ 1 → v_law_is_integer ws = .bad := vRun_ar
theorem svb_law_is_integer : SVS (idxT [true] 0) [] b_law_is_integer vb_law_is_integer := by
  unfold b_law_is_integer vb_law_is_integer 
  exact (ss_ret' (sv_and (sv_op1 (ov_isi "int") (sv_hvar 0)) (sv_not (sv_he (sv_op1 (ov_isi "bool") (sv_hvar 0))))) (by decide))
theorem sv_law_is_integer : SVF 1 r_law_is_integer v_law_is_integer := vf_run' svb_law_is_integer (by decide) rfl
/-! _law_same: 0=law_actual 1=law_due 2=law_k -/
noncomputable def le_law_same_1 (q : VF) : VE :=
  (qCall q (kCons (hIx (hVar 0) (hVar 2)) (kCons (hIx (hVar 1) (hVar 2)) kNil)))
noncomputable def le_law_same_2 (q : VF) : VE :=
  (qCall q (kCons (hIx (hVar 0) (hVar 2)) (kCons (hIx (hVar 1) (hVar 2)) kNil)))
noncomputable def vb_law_same (q : VF) : VS :=
  (vSeq
   (vIf (qTru (hE (qOp1 (qIsi "tuple") (hVar 1))))
     (vSeq
      (vIf (qbOr (qbNot (qTru (hE (qOp1 (qIsi "tuple") (hVar 0))))) (qasB (qOp2 qNe (hE (qBi kLen (kCons (hVar 0) kNil))) (hE (qBi kLen (kCons (hVar 1) kNil))))))
        (vRet (qCon (.bl false)))
        vNil)
     (vRet (qBi kAll (kCons (hE (qLc [] [2] (qRg (aqCons (qBi kLen (kCons (hVar 1) kNil)) aqNil)) (tNm 2) qYes (le_law_same_1 q))) kNil))))
     vNil)
  (vSeq
   (vIf (qTru (hE (qOp1 (qIsi "list") (hVar 1))))
     (vSeq
      (vIf (qbOr (qbNot (qTru (hE (qOp1 (qIsi "list") (hVar 0))))) (qasB (qOp2 qNe (hE (qBi kLen (kCons (hVar 0) kNil))) (hE (qBi kLen (kCons (hVar 1) kNil))))))
        (vRet (qCon (.bl false)))
        vNil)
     (vRet (qBi kAll (kCons (hE (qLc [] [2] (qRg (aqCons (qBi kLen (kCons (hVar 1) kNil)) aqNil)) (tNm 2) qYes (le_law_same_2 q))) kNil))))
     vNil)
  (vSeq
   (vIf (qasB (qOp2 qIs (hVar 1) (hE (qCon .non))))
     (vRet (qOp2 qIs (hVar 0) (hE (qCon .non))))
     vNil)
  (vSeq
   (vIf (qTru (hE (qOp1 (qIsi "bool") (hVar 1))))
     (vRet (qeAnd (qOp1 (qIsi "bool") (hVar 0)) (qOp2 qEq (hVar 0) (hVar 1))))
     vNil)
  (vSeq
   (vIf (qTru (hE (qOp1 (qIsi "str") (hVar 1))))
     (vRet (qeAnd (qOp1 (qIsi "str") (hVar 0)) (qOp2 qEq (hVar 0) (hVar 1))))
     vNil)
  (vRet (qeAnd (qCall v_law_is_integer (kCons (hVar 0) kNil)) (qOp2 qEq (hVar 0) (hVar 1)))))))))
noncomputable def v_law_same : Nat → VF
  | 0 => vNo
  | n + 1 => vRun 3 2 [true, true] (vb_law_same (v_law_same n))
theorem av_law_same : ∀ n ws, ws.length ≠ 2 → v_law_same n ws = .bad
  | 0 => vNo_ar
  | _ + 1 => vRun_ar
theorem svb_law_same {r : GC} {q : VF} (hq : SVF 2 r q) (aq : ∀ ws, ws.length ≠ 2 → q ws = .bad) : SVS (idxT [true, true] 0) [] (b_law_same r) (vb_law_same q) := by
  unfold b_law_same vb_law_same le_law_same_2 le_law_same_1
  exact (ss_seq' (ss_if' (tb_tru (sv_he (sv_op1 (ov_isi "tuple") (sv_hvar 1)))) (by decide)
    (ss_seq' (ss_if' (tb_or (tb_not (tb_tru (sv_he (sv_op1 (ov_isi "tuple") (sv_hvar 0))))) (tb_asB (sv_op2 ov_ne (sv_he (sv_bi ov_len (sk_cons (sv_hvar 0) sk_nil (by decide)))) (sv_he (sv_bi ov_len (sk_cons (sv_hvar 1) sk_nil (by decide)))) (by decide)))) (by decide)
       (ss_ret' (sv_con (.bl false) rfl rfl) (by decide))
       ss_nil')
     (ss_ret' (sv_bi ov_all (sk_cons (sv_he (sv_lc (J := []) (own := [2]) (si_rg1' (sq_cons (sv_bi ov_len (sk_cons (sv_hvar 1) sk_nil (by decide))) sq_nil) (aq_one (qBi kLen (kCons (hVar 1) kNil)))) (st_nm 2) tb_yes (sv_call hq (sk_cons (sv_hix (sv_hvar 0) (sv_hvar 2) (by decide)) (sk_cons (sv_hix (sv_hvar 1) (sv_hvar 2) (by decide)) sk_nil (by decide)) (by decide)) aq) (by decide) (and_app (by decide)))) sk_nil (by decide))) (by decide)))
    ss_nil')
  (ss_seq' (ss_if' (tb_tru (sv_he (sv_op1 (ov_isi "list") (sv_hvar 1)))) (by decide)
    (ss_seq' (ss_if' (tb_or (tb_not (tb_tru (sv_he (sv_op1 (ov_isi "list") (sv_hvar 0))))) (tb_asB (sv_op2 ov_ne (sv_he (sv_bi ov_len (sk_cons (sv_hvar 0) sk_nil (by decide)))) (sv_he (sv_bi ov_len (sk_cons (sv_hvar 1) sk_nil (by decide)))) (by decide)))) (by decide)
       (ss_ret' (sv_con (.bl false) rfl rfl) (by decide))
       ss_nil')
     (ss_ret' (sv_bi ov_all (sk_cons (sv_he (sv_lc (J := []) (own := [2]) (si_rg1' (sq_cons (sv_bi ov_len (sk_cons (sv_hvar 1) sk_nil (by decide))) sq_nil) (aq_one (qBi kLen (kCons (hVar 1) kNil)))) (st_nm 2) tb_yes (sv_call hq (sk_cons (sv_hix (sv_hvar 0) (sv_hvar 2) (by decide)) (sk_cons (sv_hix (sv_hvar 1) (sv_hvar 2) (by decide)) sk_nil (by decide)) (by decide)) aq) (by decide) (and_app (by decide)))) sk_nil (by decide))) (by decide)))
    ss_nil')
  (ss_seq' (ss_if' (tb_asB (sv_op2 ov_is (sv_hvar 1) (sv_he (sv_con .non rfl rfl)) (by decide))) (by decide)
    (ss_ret' (sv_op2 ov_is (sv_hvar 0) (sv_he (sv_con .non rfl rfl)) (by decide)) (by decide))
    ss_nil')
  (ss_seq' (ss_if' (tb_tru (sv_he (sv_op1 (ov_isi "bool") (sv_hvar 1)))) (by decide)
    (ss_ret' (sv_and (sv_op1 (ov_isi "bool") (sv_hvar 0)) (sv_op2 ov_eq (sv_hvar 0) (sv_hvar 1) (by decide))) (by decide))
    ss_nil')
  (ss_seq' (ss_if' (tb_tru (sv_he (sv_op1 (ov_isi "str") (sv_hvar 1)))) (by decide)
    (ss_ret' (sv_and (sv_op1 (ov_isi "str") (sv_hvar 0)) (sv_op2 ov_eq (sv_hvar 0) (sv_hvar 1) (by decide))) (by decide))
    ss_nil')
  (ss_ret' (sv_and (sv_call sv_law_is_integer (sk_cons (sv_hvar 0) sk_nil (by decide)) av_law_is_integer) (sv_op2 ov_eq (sv_hvar 0) (sv_hvar 1) (by decide))) (by decide)))))))
theorem sv_law_same : ∀ n, SVF 2 (r_law_same n) (v_law_same n)
  | 0 => vf_no
  | n + 1 => vf_run' (svb_law_same (sv_law_same n) (av_law_same n)) (by decide) rfl
/-! _law_pick: 0=law_pool_here 1=law_rows -/
noncomputable def vb_law_pick : VS :=
  (vRet (qPk (hIx (hVar 1) (hE (qCall (v_law_take 3) (kCons (hVar 0) (kCons (hE (qBi kLen (kCons (hVar 1) kNil))) kNil)))))))
noncomputable def v_law_pick : VF := vRun 2 2 [true, true] vb_law_pick
theorem av_law_pick : ∀ ws, ws.length ≠ 2 → v_law_pick ws = .bad := vRun_ar
theorem svb_law_pick : SVS (idxT [true, true] 0) [] b_law_pick vb_law_pick := by
  unfold b_law_pick vb_law_pick 
  exact (ss_ret' (sv_pk (sv_hix (sv_hvar 1) (sv_he (sv_call (sv_law_take 3) (sk_cons (sv_hvar 0) (sk_cons (sv_he (sv_bi ov_len (sk_cons (sv_hvar 1) sk_nil (by decide)))) sk_nil (by decide)) (by decide)) (av_law_take 3))) (by decide))) (by decide))
theorem sv_law_pick : SVF 2 r_law_pick v_law_pick := vf_run' svb_law_pick (by decide) rfl
/-! _law_ships: 0=law_pool_here 1=law_bollards 2=law_many 3=law_ships_here 4=law_k 5=law_position 6=law_length -/
noncomputable def lb_law_ships_1 : VS :=
     (vSeq
      (vSet 5 (qCall (v_law_take 3) (kCons (hVar 0) (kCons (hVar 1) kNil))))
     (vSeq
      (vSet 6 (qOp2 qAdd (hE (qCon (.int 1))) (hE (qCall (v_law_take 3) (kCons (hVar 0) (kCons (hE (qOp2 qSub (hVar 1) (hVar 5))) kNil))))))
     (vExp (qM qAppend (hVar 3) (aqCons (qTup (aqCons (qVar 5) (aqCons (qVar 6) (aqCons (qCall (v_law_take 3) (kCons (hVar 0) (kCons (hIx (hE (qTup (aqCons (qCon (.int 4)) (aqCons (qCon (.int 25)) (aqCons (qCon (.int 1000)) aqNil))))) (hE (qCall (v_law_take 3) (kCons (hVar 0) (kCons (hE (qCon (.int 3))) kNil))))) kNil))) (aqCons (qOp2 qAdd (hE (qCon (.int 1))) (hE (qCall (v_law_take 3) (kCons (hVar 0) (kCons (hE (qCon (.int 12))) kNil))))) aqNil))))) aqNil)))))
noncomputable def vb_law_ships : VS :=
  (vSeq
   (vSet 3 (qLst aqNil))
  (vSeq
   (vFor [] [4, 5, 6] (qRg (aqCons (qCall (v_law_take 3) (kCons (hVar 0) (kCons (hE (qOp2 qAdd (hVar 2) (hE (qCon (.int 1))))) kNil))) aqNil)) (tNm 4) lb_law_ships_1)
  (vRet (qVar 3))))
noncomputable def v_law_ships : VF := vRun 7 3 [true, true, true] vb_law_ships
theorem av_law_ships : ∀ ws, ws.length ≠ 3 → v_law_ships ws = .bad := vRun_ar
theorem svb_law_ships : SVS (idxT [true, true, true] 0) [] b_law_ships vb_law_ships := by
  unfold b_law_ships vb_law_ships lb_law_ships_1
  exact (ss_seq' (ss_set' (sv_lst sq_nil) (by decide) (or_app (by decide)))
  (ss_seq' (ss_for' (J := []) (kill := [4, 5, 6]) (si_rg1' (sq_cons (sv_call (sv_law_take 3) (sk_cons (sv_hvar 0) (sk_cons (sv_he (sv_op2 ov_add (sv_hvar 2) (sv_he (sv_con (.int 1) rfl rfl)) (by decide))) sk_nil (by decide)) (by decide)) (av_law_take 3)) sq_nil) (aq_one (qCall (v_law_take 3) (kCons (hVar 0) (kCons (hE (qOp2 qAdd (hVar 2) (hE (qCon (.int 1))))) kNil))))) (st_nm 4)
    (ss_seq' (ss_set' (sv_call (sv_law_take 3) (sk_cons (sv_hvar 0) (sk_cons (sv_hvar 1) sk_nil (by decide)) (by decide)) (av_law_take 3)) (by decide) (or_app (by decide)))
     (ss_seq' (ss_set' (sv_op2 ov_add (sv_he (sv_con (.int 1) rfl rfl)) (sv_he (sv_call (sv_law_take 3) (sk_cons (sv_hvar 0) (sk_cons (sv_he (sv_op2 ov_sub (sv_hvar 1) (sv_hvar 5) (by decide))) sk_nil (by decide)) (by decide)) (av_law_take 3))) (by decide)) (by decide) (or_app (by decide)))
     (ss_exp' (sv_m mt_append (sv_hvar 3) (sq_cons (sv_tup (sq_cons (sv_var 5) (sq_cons (sv_var 6) (sq_cons (sv_call (sv_law_take 3) (sk_cons (sv_hvar 0) (sk_cons (sv_hix (sv_he (sv_tup (sq_cons (sv_con (.int 4) rfl rfl) (sq_cons (sv_con (.int 25) rfl rfl) (sq_cons (sv_con (.int 1000) rfl rfl) sq_nil))))) (sv_he (sv_call (sv_law_take 3) (sk_cons (sv_hvar 0) (sk_cons (sv_he (sv_con (.int 3) rfl rfl)) sk_nil (by decide)) (by decide)) (av_law_take 3))) (by decide)) sk_nil (by decide)) (by decide)) (av_law_take 3)) (sq_cons (sv_op2 ov_add (sv_he (sv_con (.int 1) rfl rfl)) (sv_he (sv_call (sv_law_take 3) (sk_cons (sv_hvar 0) (sk_cons (sv_he (sv_con (.int 12) rfl rfl)) sk_nil (by decide)) (by decide)) (av_law_take 3))) (by decide)) sq_nil))))) sq_nil) (by decide)) (by decide)))) (by decide) (or_app3 (by decide)))
  (ss_ret' (sv_var 3) (by decide))))
theorem sv_law_ships : SVF 3 r_law_ships v_law_ships := vf_run' svb_law_ships (by decide) rfl
/-! _law_shares: 0=law_one 1=law_other -/
noncomputable def vb_law_shares : VS :=
  (vRet (qOp2 qLt (hE (qBi kMaxX (kCons (hIx (hVar 0) (hE (qCon (.int 0)))) (kCons (hIx (hVar 1) (hE (qCon (.int 0)))) kNil)))) (hE (qBi kMinX (kCons (hE (qOp2 qAdd (hIx (hVar 0) (hE (qCon (.int 0)))) (hIx (hVar 0) (hE (qCon (.int 1)))))) (kCons (hE (qOp2 qAdd (hIx (hVar 1) (hE (qCon (.int 0)))) (hIx (hVar 1) (hE (qCon (.int 1)))))) kNil))))))
noncomputable def v_law_shares : VF := vRun 2 2 [true, true] vb_law_shares
theorem av_law_shares : ∀ ws, ws.length ≠ 2 → v_law_shares ws = .bad := vRun_ar
theorem svb_law_shares : SVS (idxT [true, true] 0) [] b_law_shares vb_law_shares := by
  unfold b_law_shares vb_law_shares 
  exact (ss_ret' (sv_op2 ov_cmp (sv_he (sv_bi ov_maxX (sk_cons (sv_hix (sv_hvar 0) (sv_he (sv_con (.int 0) rfl rfl)) (by decide)) (sk_cons (sv_hix (sv_hvar 1) (sv_he (sv_con (.int 0) rfl rfl)) (by decide)) sk_nil (by decide)) (by decide)))) (sv_he (sv_bi ov_minX (sk_cons (sv_he (sv_op2 ov_add (sv_hix (sv_hvar 0) (sv_he (sv_con (.int 0) rfl rfl)) (by decide)) (sv_hix (sv_hvar 0) (sv_he (sv_con (.int 1) rfl rfl)) (by decide)) (by decide))) (sk_cons (sv_he (sv_op2 ov_add (sv_hix (sv_hvar 1) (sv_he (sv_con (.int 0) rfl rfl)) (by decide)) (sv_hix (sv_hvar 1) (sv_he (sv_con (.int 1) rfl rfl)) (by decide)) (by decide))) sk_nil (by decide)) (by decide)))) (by decide)) (by decide))
theorem sv_law_shares : SVF 2 r_law_shares v_law_shares := vf_run' svb_law_shares (by decide) rfl
/-! _law_starts: 0=law_ships_here 1=law_found 2=law_k 3=law_left 4=law_j -/
noncomputable def le_law_starts_1 : VE :=
  (qOp2 qAdd (hIx (hVar 1) (hVar 4)) (hIx (hIx (hVar 0) (hVar 4)) (hE (qCon (.int 3)))))
noncomputable def lt_law_starts_1 : VB :=
  (qTru (hE (qCall v_law_shares (kCons (hIx (hVar 0) (hVar 4)) (kCons (hIx (hVar 0) (hVar 2)) kNil)))))
noncomputable def lb_law_starts_1 : VS :=
     (vSeq
      (vSet 3 (qLc [] [4] (qRg (aqCons (qVar 2) aqNil)) (tNm 4) lt_law_starts_1 le_law_starts_1))
     (vExp (qM qAppend (hVar 1) (aqCons (qBi kMaxX (kCons (hE (qOp2 qAdd (hE (qLst (aqCons (qPk (hIx (hIx (hVar 0) (hVar 2)) (hE (qCon (.int 2))))) aqNil))) (hVar 3))) kNil)) aqNil))))
noncomputable def vb_law_starts : VS :=
  (vSeq
   (vSet 1 (qLst aqNil))
  (vSeq
   (vFor [] [2, 3] (qRg (aqCons (qBi kLen (kCons (hVar 0) kNil)) aqNil)) (tNm 2) lb_law_starts_1)
  (vRet (qVar 1))))
noncomputable def v_law_starts : VF := vRun 5 1 [true] vb_law_starts
theorem av_law_starts : ∀ ws, ws.length ≠ 1 → v_law_starts ws = .bad := vRun_ar
theorem svb_law_starts : SVS (idxT [true] 0) [] b_law_starts vb_law_starts := by
  unfold b_law_starts vb_law_starts lb_law_starts_1 lt_law_starts_1 le_law_starts_1
  exact (ss_seq' (ss_set' (sv_lst sq_nil) (by decide) (or_app (by decide)))
  (ss_seq' (ss_for' (J := []) (kill := [2, 3]) (si_rg1' (sq_cons (sv_bi ov_len (sk_cons (sv_hvar 0) sk_nil (by decide))) sq_nil) (aq_one (qBi kLen (kCons (hVar 0) kNil)))) (st_nm 2)
    (ss_seq' (ss_set' (sv_lc (J := []) (own := [4]) (si_rg1' (sq_cons (sv_var 2) sq_nil) (aq_one (qVar 2))) (st_nm 4) (tb_tru (sv_he (sv_call sv_law_shares (sk_cons (sv_hix (sv_hvar 0) (sv_hvar 4) (by decide)) (sk_cons (sv_hix (sv_hvar 0) (sv_hvar 2) (by decide)) sk_nil (by decide)) (by decide)) av_law_shares))) (sv_op2 ov_add (sv_hix (sv_hvar 1) (sv_hvar 4) (by decide)) (sv_hix (sv_hix (sv_hvar 0) (sv_hvar 4) (by decide)) (sv_he (sv_con (.int 3) rfl rfl)) (by decide)) (by decide)) (by decide) (and_app (by decide))) (by decide) (or_app (by decide)))
     (ss_exp' (sv_m mt_append (sv_hvar 1) (sq_cons (sv_bi ov_maxX (sk_cons (sv_he (sv_op2 ov_add (sv_he (sv_lst (sq_cons (sv_pk (sv_hix (sv_hix (sv_hvar 0) (sv_hvar 2) (by decide)) (sv_he (sv_con (.int 2) rfl rfl)) (by decide))) sq_nil))) (sv_hvar 3) (by decide))) sk_nil (by decide))) sq_nil) (by decide)) (by decide))) (by decide) (or_app3 (by decide)))
  (ss_ret' (sv_var 1) (by decide))))
theorem sv_law_starts : SVF 1 r_law_starts v_law_starts := vf_run' svb_law_starts (by decide) rfl
/-! _law_chain: 0=law_ships_here 1=law_number 2=law_told 3=law_ahead 4=law_j -/
noncomputable def le_law_chain_1 (q : VF) : VE :=
  (qVar 4)
noncomputable def lt_law_chain_1 (q : VF) : VB :=
  (qbAnd (qTru (hE (qCall v_law_shares (kCons (hIx (hVar 0) (hVar 4)) (kCons (hIx (hVar 0) (hVar 1)) kNil))))) (qasB (qOp2 qEq (hE (qOp2 qAdd (hIx (hVar 2) (hVar 4)) (hIx (hIx (hVar 0) (hVar 4)) (hE (qCon (.int 3)))))) (hIx (hVar 2) (hVar 1)))))
noncomputable def vb_law_chain (q : VF) : VS :=
  (vSeq
   (vSet 2 (qCall v_law_starts (kCons (hVar 0) kNil)))
  (vSeq
   (vIf (qasB (qOp2 qEq (hIx (hVar 2) (hVar 1)) (hIx (hIx (hVar 0) (hVar 1)) (hE (qCon (.int 2))))))
     (vRet (qTup (aqCons (qVar 1) aqNil)))
     vNil)
  (vSeq
   (vSet 3 (qLc [] [4] (qRg (aqCons (qVar 1) aqNil)) (tNm 4) (lt_law_chain_1 q) (le_law_chain_1 q)))
  (vRet (qOp2 qAdd (hE (qCall q (kCons (hVar 0) (kCons (hIx (hVar 3) (hE (qCon (.int 0)))) kNil)))) (hE (qTup (aqCons (qVar 1) aqNil))))))))
noncomputable def v_law_chain : Nat → VF
  | 0 => vNo
  | n + 1 => vRun 5 2 [true, true] (vb_law_chain (v_law_chain n))
theorem av_law_chain : ∀ n ws, ws.length ≠ 2 → v_law_chain n ws = .bad
  | 0 => vNo_ar
  | _ + 1 => vRun_ar
theorem svb_law_chain {r : GC} {q : VF} (hq : SVF 2 r q) (aq : ∀ ws, ws.length ≠ 2 → q ws = .bad) : SVS (idxT [true, true] 0) [] (b_law_chain r) (vb_law_chain q) := by
  unfold b_law_chain vb_law_chain lt_law_chain_1 le_law_chain_1
  exact (ss_seq' (ss_set' (sv_call sv_law_starts (sk_cons (sv_hvar 0) sk_nil (by decide)) av_law_starts) (by decide) (or_app (by decide)))
  (ss_seq' (ss_if' (tb_asB (sv_op2 ov_eq (sv_hix (sv_hvar 2) (sv_hvar 1) (by decide)) (sv_hix (sv_hix (sv_hvar 0) (sv_hvar 1) (by decide)) (sv_he (sv_con (.int 2) rfl rfl)) (by decide)) (by decide))) (by decide)
    (ss_ret' (sv_tup (sq_cons (sv_var 1) sq_nil)) (by decide))
    ss_nil')
  (ss_seq' (ss_set' (sv_lc (J := []) (own := [4]) (si_rg1' (sq_cons (sv_var 1) sq_nil) (aq_one (qVar 1))) (st_nm 4) (tb_and (tb_tru (sv_he (sv_call sv_law_shares (sk_cons (sv_hix (sv_hvar 0) (sv_hvar 4) (by decide)) (sk_cons (sv_hix (sv_hvar 0) (sv_hvar 1) (by decide)) sk_nil (by decide)) (by decide)) av_law_shares))) (tb_asB (sv_op2 ov_eq (sv_he (sv_op2 ov_add (sv_hix (sv_hvar 2) (sv_hvar 4) (by decide)) (sv_hix (sv_hix (sv_hvar 0) (sv_hvar 4) (by decide)) (sv_he (sv_con (.int 3) rfl rfl)) (by decide)) (by decide))) (sv_hix (sv_hvar 2) (sv_hvar 1) (by decide)) (by decide)))) (sv_var 4) (by decide) (and_app (by decide))) (by decide) (or_app (by decide)))
  (ss_ret' (sv_op2 ov_add (sv_he (sv_call hq (sk_cons (sv_hvar 0) (sk_cons (sv_hix (sv_hvar 3) (sv_he (sv_con (.int 0) rfl rfl)) (by decide)) sk_nil (by decide)) (by decide)) aq)) (sv_he (sv_tup (sq_cons (sv_var 1) sq_nil))) (by decide)) (by decide)))))
theorem sv_law_chain : ∀ n, SVF 2 (r_law_chain n) (v_law_chain n)
  | 0 => vf_no
  | n + 1 => vf_run' (svb_law_chain (sv_law_chain n) (av_law_chain n)) (by decide) rfl
/-! _law_free: 0=law_bollards 1=law_ships_here 2=law_minute 3=law_told 4=law_found 5=law_bollard 6=law_is_free 7=law_k -/
noncomputable def lb_law_free_1 : VS :=
        (vIf (qbAnd (qasB (qChain qLe qLt (hIx (hIx (hVar 1) (hVar 7)) (hE (qCon (.int 0)))) (hVar 5) (hE (qOp2 qAdd (hIx (hIx (hVar 1) (hVar 7)) (hE (qCon (.int 0)))) (hIx (hIx (hVar 1) (hVar 7)) (hE (qCon (.int 1)))))))) (qasB (qChain qLe qLt (hIx (hVar 3) (hVar 7)) (hVar 2) (hE (qOp2 qAdd (hIx (hVar 3) (hVar 7)) (hIx (hIx (hVar 1) (hVar 7)) (hE (qCon (.int 3)))))))))
          (vSet 6 (qCon (.bl false)))
          vNil)
noncomputable def lb_law_free_2 : VS :=
     (vSeq
      (vSet 6 (qCon (.bl true)))
     (vSeq
      (vFor [] [7] (qRg (aqCons (qBi kLen (kCons (hVar 1) kNil)) aqNil)) (tNm 7) lb_law_free_1)
     (vIf (qbAnd (qTru (hVar 6)) (qbAnd (qTru (hVar 4)) (qasB (qOp2 qEq (hIx (hIx (hVar 4) (hE (qOp1 qNeg (hE (qCon (.int 1)))))) (hE (qCon (.int 1)))) (hE (qOp2 qSub (hVar 5) (hE (qCon (.int 1)))))))))
       (vPut (qTup (aqCons (qPk (hIx (hIx (hVar 4) (hE (qOp1 qNeg (hE (qCon (.int 1)))))) (hE (qCon (.int 0))))) (aqCons (qVar 5) aqNil))) (hVar 4) (hE (qOp1 qNeg (hE (qCon (.int 1))))))
       (vIf (qTru (hVar 6))
         (vExp (qM qAppend (hVar 4) (aqCons (qTup (aqCons (qVar 5) (aqCons (qVar 5) aqNil))) aqNil)))
         vNil))))
noncomputable def vb_law_free : VS :=
  (vSeq
   (vSet 3 (qCall v_law_starts (kCons (hVar 1) kNil)))
  (vSeq
   (vSet 4 (qLst aqNil))
  (vSeq
   (vFor [] [5, 6, 7] (qRg (aqCons (qVar 0) aqNil)) (tNm 5) lb_law_free_2)
  (vRet (qBi kTup (kCons (hVar 4) kNil))))))
noncomputable def v_law_free : VF := vRun 8 3 [true, true, true] vb_law_free
theorem av_law_free : ∀ ws, ws.length ≠ 3 → v_law_free ws = .bad := vRun_ar
theorem svb_law_free : SVS (idxT [true, true, true] 0) [] b_law_free vb_law_free := by
  unfold b_law_free vb_law_free lb_law_free_2 lb_law_free_1
  exact (ss_seq' (ss_set' (sv_call sv_law_starts (sk_cons (sv_hvar 1) sk_nil (by decide)) av_law_starts) (by decide) (or_app (by decide)))
  (ss_seq' (ss_set' (sv_lst sq_nil) (by decide) (or_app (by decide)))
  (ss_seq' (ss_for' (J := []) (kill := [5, 6, 7]) (si_rg1' (sq_cons (sv_var 0) sq_nil) (aq_one (qVar 0))) (st_nm 5)
    (ss_seq' (ss_set' (sv_con (.bl true) rfl rfl) (by decide) (or_app (by decide)))
     (ss_seq' (ss_for' (J := []) (kill := [7]) (si_rg1' (sq_cons (sv_bi ov_len (sk_cons (sv_hvar 1) sk_nil (by decide))) sq_nil) (aq_one (qBi kLen (kCons (hVar 1) kNil)))) (st_nm 7)
       (ss_if' (tb_and (tb_asB (sv_chain (cmp_cmp _) ov_cmp (sv_hix (sv_hix (sv_hvar 1) (sv_hvar 7) (by decide)) (sv_he (sv_con (.int 0) rfl rfl)) (by decide)) (sv_hvar 5) (sv_he (sv_op2 ov_add (sv_hix (sv_hix (sv_hvar 1) (sv_hvar 7) (by decide)) (sv_he (sv_con (.int 0) rfl rfl)) (by decide)) (sv_hix (sv_hix (sv_hvar 1) (sv_hvar 7) (by decide)) (sv_he (sv_con (.int 1) rfl rfl)) (by decide)) (by decide))) (by decide) (by decide))) (tb_asB (sv_chain (cmp_cmp _) ov_cmp (sv_hix (sv_hvar 3) (sv_hvar 7) (by decide)) (sv_hvar 2) (sv_he (sv_op2 ov_add (sv_hix (sv_hvar 3) (sv_hvar 7) (by decide)) (sv_hix (sv_hix (sv_hvar 1) (sv_hvar 7) (by decide)) (sv_he (sv_con (.int 3) rfl rfl)) (by decide)) (by decide))) (by decide) (by decide)))) (by decide)
         (ss_set' (sv_con (.bl false) rfl rfl) (by decide) (or_app (by decide)))
         ss_nil') (by decide) (or_app3 (by decide)))
     (ss_if' (tb_and (tb_tru (sv_hvar 6)) (tb_and (tb_tru (sv_hvar 4)) (tb_asB (sv_op2 ov_eq (sv_hix (sv_hix (sv_hvar 4) (sv_he (sv_op1 ov_neg (sv_he (sv_con (.int 1) rfl rfl)))) (by decide)) (sv_he (sv_con (.int 1) rfl rfl)) (by decide)) (sv_he (sv_op2 ov_sub (sv_hvar 5) (sv_he (sv_con (.int 1) rfl rfl)) (by decide))) (by decide))))) (by decide)
      (ss_put' (sv_tup (sq_cons (sv_pk (sv_hix (sv_hix (sv_hvar 4) (sv_he (sv_op1 ov_neg (sv_he (sv_con (.int 1) rfl rfl)))) (by decide)) (sv_he (sv_con (.int 0) rfl rfl)) (by decide))) (sq_cons (sv_var 5) sq_nil))) (sv_hvar 4) (sv_he (sv_op1 ov_neg (sv_he (sv_con (.int 1) rfl rfl)))) (by decide) (by decide) (by decide) (by decide) (by decide))
      (ss_if' (tb_tru (sv_hvar 6)) (by decide)
        (ss_exp' (sv_m mt_append (sv_hvar 4) (sq_cons (sv_tup (sq_cons (sv_var 5) (sq_cons (sv_var 5) sq_nil))) sq_nil) (by decide)) (by decide))
        ss_nil')))) (by decide) (or_app3 (by decide)))
  (ss_ret' (sv_bi ov_tup (sk_cons (sv_hvar 4) sk_nil (by decide))) (by decide)))))
theorem sv_law_free : SVF 3 r_law_free v_law_free := vf_run' svb_law_free (by decide) rfl
/-! _law_greatest: 0=law_ships_here 1=law_number 2=law_best 3=law_j -/
noncomputable def lb_law_greatest_1 (q : VF) : VS :=
     (vIf (qTru (hE (qCall v_law_shares (kCons (hIx (hVar 0) (hVar 3)) (kCons (hIx (hVar 0) (hVar 1)) kNil)))))
       (vSet 2 (qBi kMaxX (kCons (hVar 2) (kCons (hE (qOp2 qAdd (hE (qCall q (kCons (hVar 0) (kCons (hVar 3) kNil)))) (hIx (hIx (hVar 0) (hVar 3)) (hE (qCon (.int 3)))))) kNil))))
       vNil)
noncomputable def vb_law_greatest (q : VF) : VS :=
  (vSeq
   (vSet 2 (qPk (hIx (hIx (hVar 0) (hVar 1)) (hE (qCon (.int 2))))))
  (vSeq
   (vFor [] [3] (qRg (aqCons (qVar 1) aqNil)) (tNm 3) (lb_law_greatest_1 q))
  (vRet (qVar 2))))
noncomputable def v_law_greatest : Nat → VF
  | 0 => vNo
  | n + 1 => vRun 4 2 [true, true] (vb_law_greatest (v_law_greatest n))
theorem av_law_greatest : ∀ n ws, ws.length ≠ 2 → v_law_greatest n ws = .bad
  | 0 => vNo_ar
  | _ + 1 => vRun_ar
theorem svb_law_greatest {r : GC} {q : VF} (hq : SVF 2 r q) (aq : ∀ ws, ws.length ≠ 2 → q ws = .bad) : SVS (idxT [true, true] 0) [] (b_law_greatest r) (vb_law_greatest q) := by
  unfold b_law_greatest vb_law_greatest lb_law_greatest_1
  exact (ss_seq' (ss_set' (sv_pk (sv_hix (sv_hix (sv_hvar 0) (sv_hvar 1) (by decide)) (sv_he (sv_con (.int 2) rfl rfl)) (by decide))) (by decide) (or_app (by decide)))
  (ss_seq' (ss_for' (J := []) (kill := [3]) (si_rg1' (sq_cons (sv_var 1) sq_nil) (aq_one (qVar 1))) (st_nm 3)
    (ss_if' (tb_tru (sv_he (sv_call sv_law_shares (sk_cons (sv_hix (sv_hvar 0) (sv_hvar 3) (by decide)) (sk_cons (sv_hix (sv_hvar 0) (sv_hvar 1) (by decide)) sk_nil (by decide)) (by decide)) av_law_shares))) (by decide)
      (ss_set' (sv_bi ov_maxX (sk_cons (sv_hvar 2) (sk_cons (sv_he (sv_op2 ov_add (sv_he (sv_call hq (sk_cons (sv_hvar 0) (sk_cons (sv_hvar 3) sk_nil (by decide)) (by decide)) aq)) (sv_hix (sv_hix (sv_hvar 0) (sv_hvar 3) (by decide)) (sv_he (sv_con (.int 3) rfl rfl)) (by decide)) (by decide))) sk_nil (by decide)) (by decide))) (by decide) (or_app (by decide)))
      ss_nil') (by decide) (or_app3 (by decide)))
  (ss_ret' (sv_var 2) (by decide))))
theorem sv_law_greatest : ∀ n, SVF 2 (r_law_greatest n) (v_law_greatest n)
  | 0 => vf_no
  | n + 1 => vf_run' (svb_law_greatest (sv_law_greatest n) (av_law_greatest n)) (by decide) rfl
/-! _law_exchanged: 0=law_pool_here 1=law_ships_here 2=law_k 3=law_told -/
noncomputable def vb_law_exchanged : VS :=
  (vSeq
   (vIf (qasB (qOp2 qLt (hE (qBi kLen (kCons (hVar 1) kNil))) (hE (qCon (.int 2)))))
     (vRet (qCon (.bl true)))
     vNil)
  (vSeq
   (vSet 2 (qCall (v_law_take 3) (kCons (hVar 0) (kCons (hE (qOp2 qSub (hE (qBi kLen (kCons (hVar 1) kNil))) (hE (qCon (.int 1))))) kNil))))
  (vSeq
   (vIf (qTru (hE (qCall v_law_shares (kCons (hIx (hVar 1) (hVar 2)) (kCons (hIx (hVar 1) (hE (qOp2 qAdd (hVar 2) (hE (qCon (.int 1)))))) kNil)))))
     (vRet (qCon (.bl true)))
     vNil)
  (vSeq
   (vSet 3 (qBi kLst (kCons (hE (qCall v_starts (kCons (hVar 1) kNil))) kNil)))
  (vSeq
   (vSwap (qTup (aqCons (qPk (hIx (hVar 3) (hE (qOp2 qAdd (hVar 2) (hE (qCon (.int 1))))))) (aqCons (qPk (hIx (hVar 3) (hVar 2))) aqNil))) (hVar 3) (hVar 2) (hVar 3) (hE (qOp2 qAdd (hVar 2) (hE (qCon (.int 1))))))
  (vRet (qCall (v_law_same 8) (kCons (hE (qCall v_starts (kCons (hE (qOp2 qAdd (hE (qOp2 qAdd (hE (qSlc (hVar 1) qoNo (qoSo (qVar 2)))) (hE (qLst (aqCons (qPk (hIx (hVar 1) (hE (qOp2 qAdd (hVar 2) (hE (qCon (.int 1))))))) (aqCons (qPk (hIx (hVar 1) (hVar 2))) aqNil)))))) (hE (qSlc (hVar 1) (qoSo (qOp2 qAdd (hVar 2) (hE (qCon (.int 2))))) qoNo)))) kNil))) (kCons (hE (qBi kTup (kCons (hVar 3) kNil))) kNil)))))))))
noncomputable def v_law_exchanged : VF := vRun 4 2 [true, true] vb_law_exchanged
theorem av_law_exchanged : ∀ ws, ws.length ≠ 2 → v_law_exchanged ws = .bad := vRun_ar
theorem svb_law_exchanged : SVS (idxT [true, true] 0) [] b_law_exchanged vb_law_exchanged := by
  unfold b_law_exchanged vb_law_exchanged 
  exact (ss_seq' (ss_if' (tb_asB (sv_op2 ov_cmp (sv_he (sv_bi ov_len (sk_cons (sv_hvar 1) sk_nil (by decide)))) (sv_he (sv_con (.int 2) rfl rfl)) (by decide))) (by decide)
    (ss_ret' (sv_con (.bl true) rfl rfl) (by decide))
    ss_nil')
  (ss_seq' (ss_set' (sv_call (sv_law_take 3) (sk_cons (sv_hvar 0) (sk_cons (sv_he (sv_op2 ov_sub (sv_he (sv_bi ov_len (sk_cons (sv_hvar 1) sk_nil (by decide)))) (sv_he (sv_con (.int 1) rfl rfl)) (by decide))) sk_nil (by decide)) (by decide)) (av_law_take 3)) (by decide) (or_app (by decide)))
  (ss_seq' (ss_if' (tb_tru (sv_he (sv_call sv_law_shares (sk_cons (sv_hix (sv_hvar 1) (sv_hvar 2) (by decide)) (sk_cons (sv_hix (sv_hvar 1) (sv_he (sv_op2 ov_add (sv_hvar 2) (sv_he (sv_con (.int 1) rfl rfl)) (by decide))) (by decide)) sk_nil (by decide)) (by decide)) av_law_shares))) (by decide)
    (ss_ret' (sv_con (.bl true) rfl rfl) (by decide))
    ss_nil')
  (ss_seq' (ss_set' (sv_bi ov_lst (sk_cons (sv_he (sv_call sv_starts (sk_cons (sv_hvar 1) sk_nil (by decide)) av_starts)) sk_nil (by decide))) (by decide) (or_app (by decide)))
  (ss_seq' (ss_swap' (sv_tup (sq_cons (sv_pk (sv_hix (sv_hvar 3) (sv_he (sv_op2 ov_add (sv_hvar 2) (sv_he (sv_con (.int 1) rfl rfl)) (by decide))) (by decide))) (sq_cons (sv_pk (sv_hix (sv_hvar 3) (sv_hvar 2) (by decide))) sq_nil))) (sv_hvar 3) (sv_hvar 2) (sv_hvar 3) (sv_he (sv_op2 ov_add (sv_hvar 2) (sv_he (sv_con (.int 1) rfl rfl)) (by decide))) (by decide) (by decide) (by decide) (by decide) (by decide) (by decide) (by decide) (by decide) (by decide))
  (ss_ret' (sv_call (sv_law_same 8) (sk_cons (sv_he (sv_call sv_starts (sk_cons (sv_he (sv_op2 ov_add (sv_he (sv_op2 ov_add (sv_he (sv_sl (sv_hvar 1) so_no' (so_so' (sv_var 2)) (by decide))) (sv_he (sv_lst (sq_cons (sv_pk (sv_hix (sv_hvar 1) (sv_he (sv_op2 ov_add (sv_hvar 2) (sv_he (sv_con (.int 1) rfl rfl)) (by decide))) (by decide))) (sq_cons (sv_pk (sv_hix (sv_hvar 1) (sv_hvar 2) (by decide))) sq_nil)))) (by decide))) (sv_he (sv_sl (sv_hvar 1) (so_so' (sv_op2 ov_add (sv_hvar 2) (sv_he (sv_con (.int 2) rfl rfl)) (by decide))) so_no' (by decide))) (by decide))) sk_nil (by decide)) av_starts)) (sk_cons (sv_he (sv_bi ov_tup (sk_cons (sv_hvar 3) sk_nil (by decide)))) sk_nil (by decide)) (by decide)) (av_law_same 8)) (by decide)))))))
theorem sv_law_exchanged : SVF 2 r_law_exchanged v_law_exchanged := vf_run' svb_law_exchanged (by decide) rfl
/-! law: 0=law_script 1=law_pool_here 2=law_bollards 3=law_ships_here 4=law_due 5=law_k 6=law_cut 7=law_turned 8=law_later 9=law_minute 10=law_one 11=law_start -/
noncomputable def lb_law_1 : VS :=
     (vIf (qbOr (qbNot (qTru (hE (qCall (v_law_same 8) (kCons (hE (qCall v_critical_chain (kCons (hVar 3) (kCons (hVar 5) kNil)))) (kCons (hE (qCall (v_law_chain 12) (kCons (hVar 3) (kCons (hVar 5) kNil)))) kNil)))))) (qasB (qOp2 qNe (hIx (hVar 4) (hVar 5)) (hE (qCall (v_law_greatest 12) (kCons (hVar 3) (kCons (hVar 5) kNil)))))))
       (vRet (qCon (.bl false)))
       vNil)
noncomputable def le_law_1 : VE :=
  (qTup (aqCons (qOp2 qSub (hE (qOp2 qSub (hVar 2) (hIx (hVar 10) (hE (qCon (.int 0)))))) (hIx (hVar 10) (hE (qCon (.int 1))))) (aqCons (qPk (hIx (hVar 10) (hE (qCon (.int 1))))) (aqCons (qPk (hIx (hVar 10) (hE (qCon (.int 2))))) (aqCons (qPk (hIx (hVar 10) (hE (qCon (.int 3))))) aqNil)))))
noncomputable def le_law_2 : VE :=
  (qTup (aqCons (qPk (hIx (hVar 10) (hE (qCon (.int 0))))) (aqCons (qPk (hIx (hVar 10) (hE (qCon (.int 1))))) (aqCons (qOp2 qAdd (hIx (hVar 10) (hE (qCon (.int 2)))) (hVar 6)) (aqCons (qPk (hIx (hVar 10) (hE (qCon (.int 3))))) aqNil)))))
noncomputable def le_law_3 : VE :=
  (qOp2 qAdd (hVar 11) (hVar 6))
noncomputable def lb_law_2 : VS :=
     (vSeq
      (vSet 9 (qCall (v_law_take 3) (kCons (hVar 1) (kCons (hE (qCon (.int 40))) kNil))))
     (vSeq
      (vIf (qTru (hVar 4))
        (vSet 9 (qOp2 qAdd (hE (qOp2 qSub (hE (qOp2 qAdd (hE (qCall v_law_pick (kCons (hVar 1) (kCons (hVar 4) kNil)))) (hE (qCall (v_law_take 3) (kCons (hVar 1) (kCons (hE (qCon (.int 3))) kNil)))))) (hE (qCon (.int 1))))) (hE (qOp2 qMul (hE (qCall (v_law_take 3) (kCons (hVar 1) (kCons (hE (qCon (.int 2))) kNil)))) (hE (qCall (v_law_take 3) (kCons (hVar 1) (kCons (hE (qCon (.int 12))) kNil))))))))
        vNil)
     (vIf (qbNot (qTru (hE (qCall (v_law_same 8) (kCons (hE (qCall v_free_bollards (kCons (hVar 2) (kCons (hVar 3) (kCons (hE (qBi kMaxX (kCons (hE (qCon (.int 0))) (kCons (hVar 9) kNil)))) kNil))))) (kCons (hE (qCall v_law_free (kCons (hVar 2) (kCons (hVar 3) (kCons (hE (qBi kMaxX (kCons (hE (qCon (.int 0))) (kCons (hVar 9) kNil)))) kNil))))) kNil))))))
       (vRet (qCon (.bl false)))
       vNil)))
noncomputable def vb_law : VS :=
  (vSeq
   (vSet 1 (qCall v_law_pool (kCons (hVar 0) kNil)))
  (vSeq
   (vSet 2 (qOp2 qAdd (hE (qCon (.int 1))) (hE (qCall (v_law_take 3) (kCons (hVar 1) (kCons (hE (qCon (.int 40))) kNil))))))
  (vSeq
   (vSet 3 (qCall v_law_ships (kCons (hVar 1) (kCons (hVar 2) (kCons (hE (qCon (.int 10))) kNil)))))
  (vSeq
   (vSet 4 (qCall v_law_starts (kCons (hVar 3) kNil)))
  (vSeq
   (vIf (qbOr (qbNot (qTru (hE (qCall (v_law_same 8) (kCons (hE (qCall v_starts (kCons (hVar 3) kNil))) (kCons (hE (qBi kTup (kCons (hVar 4) kNil))) kNil)))))) (qbNot (qTru (hE (qCall (v_law_same 8) (kCons (hE (qCall v_starts (kCons (hE (qBi kTup (kCons (hVar 3) kNil))) kNil))) (kCons (hE (qBi kTup (kCons (hVar 4) kNil))) kNil)))))))
     (vRet (qCon (.bl false)))
     vNil)
  (vSeq
   (vFor [] [5] (qRg (aqCons (qBi kLen (kCons (hVar 3) kNil)) aqNil)) (tNm 5) lb_law_1)
  (vSeq
   (vSet 6 (qCall (v_law_take 3) (kCons (hVar 1) (kCons (hE (qOp2 qAdd (hE (qBi kLen (kCons (hVar 3) kNil))) (hE (qCon (.int 1))))) kNil))))
  (vSeq
   (vIf (qbOr (qbNot (qTru (hE (qCall (v_law_same 8) (kCons (hE (qCall v_starts (kCons (hE (qSlc (hVar 3) qoNo (qoSo (qVar 6)))) kNil))) (kCons (hE (qBi kTup (kCons (hE (qSlc (hVar 4) qoNo (qoSo (qVar 6)))) kNil))) kNil)))))) (qbNot (qTru (hE (qCall v_law_exchanged (kCons (hVar 1) (kCons (hVar 3) kNil)))))))
     (vRet (qCon (.bl false)))
     vNil)
  (vSeq
   (vSet 7 (qLc [3] [10] (qit (hVar 3)) (tNm 10) qYes le_law_1))
  (vSeq
   (vSet 8 (qLc [3] [10] (qit (hVar 3)) (tNm 10) qYes le_law_2))
  (vSeq
   (vIf (qbOr (qbNot (qTru (hE (qCall (v_law_same 8) (kCons (hE (qCall v_starts (kCons (hVar 7) kNil))) (kCons (hE (qBi kTup (kCons (hVar 4) kNil))) kNil)))))) (qbNot (qTru (hE (qCall (v_law_same 8) (kCons (hE (qCall v_starts (kCons (hVar 8) kNil))) (kCons (hE (qBi kTup (kCons (hE (qLc [4] [11] (qit (hVar 4)) (tNm 11) qYes le_law_3)) kNil))) kNil)))))))
     (vRet (qCon (.bl false)))
     vNil)
  (vSeq
   (vFor [] [5, 9] (qRg (aqCons (qCon (.int 3)) aqNil)) (tNm 5) lb_law_2)
  (vRet (qCon (.bl true)))))))))))))))
noncomputable def v_law : VF := vRun 12 1 [true] vb_law
theorem av_law : ∀ ws, ws.length ≠ 1 → v_law ws = .bad := vRun_ar
theorem svb_law : SVS (idxT [true] 0) [] b_law vb_law := by
  unfold b_law vb_law lb_law_2 le_law_3 le_law_2 le_law_1 lb_law_1
  exact (ss_seq' (ss_set' (sv_call sv_law_pool (sk_cons (sv_hvar 0) sk_nil (by decide)) av_law_pool) (by decide) (or_app (by decide)))
  (ss_seq' (ss_set' (sv_op2 ov_add (sv_he (sv_con (.int 1) rfl rfl)) (sv_he (sv_call (sv_law_take 3) (sk_cons (sv_hvar 1) (sk_cons (sv_he (sv_con (.int 40) rfl rfl)) sk_nil (by decide)) (by decide)) (av_law_take 3))) (by decide)) (by decide) (or_app (by decide)))
  (ss_seq' (ss_set' (sv_call sv_law_ships (sk_cons (sv_hvar 1) (sk_cons (sv_hvar 2) (sk_cons (sv_he (sv_con (.int 10) rfl rfl)) sk_nil (by decide)) (by decide)) (by decide)) av_law_ships) (by decide) (or_app (by decide)))
  (ss_seq' (ss_set' (sv_call sv_law_starts (sk_cons (sv_hvar 3) sk_nil (by decide)) av_law_starts) (by decide) (or_app (by decide)))
  (ss_seq' (ss_if' (tb_or (tb_not (tb_tru (sv_he (sv_call (sv_law_same 8) (sk_cons (sv_he (sv_call sv_starts (sk_cons (sv_hvar 3) sk_nil (by decide)) av_starts)) (sk_cons (sv_he (sv_bi ov_tup (sk_cons (sv_hvar 4) sk_nil (by decide)))) sk_nil (by decide)) (by decide)) (av_law_same 8))))) (tb_not (tb_tru (sv_he (sv_call (sv_law_same 8) (sk_cons (sv_he (sv_call sv_starts (sk_cons (sv_he (sv_bi ov_tup (sk_cons (sv_hvar 3) sk_nil (by decide)))) sk_nil (by decide)) av_starts)) (sk_cons (sv_he (sv_bi ov_tup (sk_cons (sv_hvar 4) sk_nil (by decide)))) sk_nil (by decide)) (by decide)) (av_law_same 8)))))) (by decide)
    (ss_ret' (sv_con (.bl false) rfl rfl) (by decide))
    ss_nil')
  (ss_seq' (ss_for' (J := []) (kill := [5]) (si_rg1' (sq_cons (sv_bi ov_len (sk_cons (sv_hvar 3) sk_nil (by decide))) sq_nil) (aq_one (qBi kLen (kCons (hVar 3) kNil)))) (st_nm 5)
    (ss_if' (tb_or (tb_not (tb_tru (sv_he (sv_call (sv_law_same 8) (sk_cons (sv_he (sv_call sv_critical_chain (sk_cons (sv_hvar 3) (sk_cons (sv_hvar 5) sk_nil (by decide)) (by decide)) av_critical_chain)) (sk_cons (sv_he (sv_call (sv_law_chain 12) (sk_cons (sv_hvar 3) (sk_cons (sv_hvar 5) sk_nil (by decide)) (by decide)) (av_law_chain 12))) sk_nil (by decide)) (by decide)) (av_law_same 8))))) (tb_asB (sv_op2 ov_ne (sv_hix (sv_hvar 4) (sv_hvar 5) (by decide)) (sv_he (sv_call (sv_law_greatest 12) (sk_cons (sv_hvar 3) (sk_cons (sv_hvar 5) sk_nil (by decide)) (by decide)) (av_law_greatest 12))) (by decide)))) (by decide)
      (ss_ret' (sv_con (.bl false) rfl rfl) (by decide))
      ss_nil') (by decide) (or_app3 (by decide)))
  (ss_seq' (ss_set' (sv_call (sv_law_take 3) (sk_cons (sv_hvar 1) (sk_cons (sv_he (sv_op2 ov_add (sv_he (sv_bi ov_len (sk_cons (sv_hvar 3) sk_nil (by decide)))) (sv_he (sv_con (.int 1) rfl rfl)) (by decide))) sk_nil (by decide)) (by decide)) (av_law_take 3)) (by decide) (or_app (by decide)))
  (ss_seq' (ss_if' (tb_or (tb_not (tb_tru (sv_he (sv_call (sv_law_same 8) (sk_cons (sv_he (sv_call sv_starts (sk_cons (sv_he (sv_sl (sv_hvar 3) so_no' (so_so' (sv_var 6)) (by decide))) sk_nil (by decide)) av_starts)) (sk_cons (sv_he (sv_bi ov_tup (sk_cons (sv_he (sv_sl (sv_hvar 4) so_no' (so_so' (sv_var 6)) (by decide))) sk_nil (by decide)))) sk_nil (by decide)) (by decide)) (av_law_same 8))))) (tb_not (tb_tru (sv_he (sv_call sv_law_exchanged (sk_cons (sv_hvar 1) (sk_cons (sv_hvar 3) sk_nil (by decide)) (by decide)) av_law_exchanged))))) (by decide)
    (ss_ret' (sv_con (.bl false) rfl rfl) (by decide))
    ss_nil')
  (ss_seq' (ss_set' (sv_lc (J := [3]) (own := [10]) (si_seq' (sv_hvar 3)) (st_nm 10) tb_yes (sv_tup (sq_cons (sv_op2 ov_sub (sv_he (sv_op2 ov_sub (sv_hvar 2) (sv_hix (sv_hvar 10) (sv_he (sv_con (.int 0) rfl rfl)) (by decide)) (by decide))) (sv_hix (sv_hvar 10) (sv_he (sv_con (.int 1) rfl rfl)) (by decide)) (by decide)) (sq_cons (sv_pk (sv_hix (sv_hvar 10) (sv_he (sv_con (.int 1) rfl rfl)) (by decide))) (sq_cons (sv_pk (sv_hix (sv_hvar 10) (sv_he (sv_con (.int 2) rfl rfl)) (by decide))) (sq_cons (sv_pk (sv_hix (sv_hvar 10) (sv_he (sv_con (.int 3) rfl rfl)) (by decide))) sq_nil))))) (by decide) (and_app (by decide))) (by decide) (or_app (by decide)))
  (ss_seq' (ss_set' (sv_lc (J := [3]) (own := [10]) (si_seq' (sv_hvar 3)) (st_nm 10) tb_yes (sv_tup (sq_cons (sv_pk (sv_hix (sv_hvar 10) (sv_he (sv_con (.int 0) rfl rfl)) (by decide))) (sq_cons (sv_pk (sv_hix (sv_hvar 10) (sv_he (sv_con (.int 1) rfl rfl)) (by decide))) (sq_cons (sv_op2 ov_add (sv_hix (sv_hvar 10) (sv_he (sv_con (.int 2) rfl rfl)) (by decide)) (sv_hvar 6) (by decide)) (sq_cons (sv_pk (sv_hix (sv_hvar 10) (sv_he (sv_con (.int 3) rfl rfl)) (by decide))) sq_nil))))) (by decide) (and_app (by decide))) (by decide) (or_app (by decide)))
  (ss_seq' (ss_if' (tb_or (tb_not (tb_tru (sv_he (sv_call (sv_law_same 8) (sk_cons (sv_he (sv_call sv_starts (sk_cons (sv_hvar 7) sk_nil (by decide)) av_starts)) (sk_cons (sv_he (sv_bi ov_tup (sk_cons (sv_hvar 4) sk_nil (by decide)))) sk_nil (by decide)) (by decide)) (av_law_same 8))))) (tb_not (tb_tru (sv_he (sv_call (sv_law_same 8) (sk_cons (sv_he (sv_call sv_starts (sk_cons (sv_hvar 8) sk_nil (by decide)) av_starts)) (sk_cons (sv_he (sv_bi ov_tup (sk_cons (sv_he (sv_lc (J := [4]) (own := [11]) (si_seq' (sv_hvar 4)) (st_nm 11) tb_yes (sv_op2 ov_add (sv_hvar 11) (sv_hvar 6) (by decide)) (by decide) (and_app (by decide)))) sk_nil (by decide)))) sk_nil (by decide)) (by decide)) (av_law_same 8)))))) (by decide)
    (ss_ret' (sv_con (.bl false) rfl rfl) (by decide))
    ss_nil')
  (ss_seq' (ss_for' (J := []) (kill := [5, 9]) (si_rg1' (sq_cons (sv_con (.int 3) rfl rfl) sq_nil) (aq_one (qCon (.int 3)))) (st_nm 5)
    (ss_seq' (ss_set' (sv_call (sv_law_take 3) (sk_cons (sv_hvar 1) (sk_cons (sv_he (sv_con (.int 40) rfl rfl)) sk_nil (by decide)) (by decide)) (av_law_take 3)) (by decide) (or_app (by decide)))
     (ss_seq' (ss_if' (tb_tru (sv_hvar 4)) (by decide)
       (ss_set' (sv_op2 ov_add (sv_he (sv_op2 ov_sub (sv_he (sv_op2 ov_add (sv_he (sv_call sv_law_pick (sk_cons (sv_hvar 1) (sk_cons (sv_hvar 4) sk_nil (by decide)) (by decide)) av_law_pick)) (sv_he (sv_call (sv_law_take 3) (sk_cons (sv_hvar 1) (sk_cons (sv_he (sv_con (.int 3) rfl rfl)) sk_nil (by decide)) (by decide)) (av_law_take 3))) (by decide))) (sv_he (sv_con (.int 1) rfl rfl)) (by decide))) (sv_he (sv_op2 ov_mul (sv_he (sv_call (sv_law_take 3) (sk_cons (sv_hvar 1) (sk_cons (sv_he (sv_con (.int 2) rfl rfl)) sk_nil (by decide)) (by decide)) (av_law_take 3))) (sv_he (sv_call (sv_law_take 3) (sk_cons (sv_hvar 1) (sk_cons (sv_he (sv_con (.int 12) rfl rfl)) sk_nil (by decide)) (by decide)) (av_law_take 3))) (by decide))) (by decide)) (by decide) (or_app (by decide)))
       ss_nil')
     (ss_if' (tb_not (tb_tru (sv_he (sv_call (sv_law_same 8) (sk_cons (sv_he (sv_call sv_free_bollards (sk_cons (sv_hvar 2) (sk_cons (sv_hvar 3) (sk_cons (sv_he (sv_bi ov_maxX (sk_cons (sv_he (sv_con (.int 0) rfl rfl)) (sk_cons (sv_hvar 9) sk_nil (by decide)) (by decide)))) sk_nil (by decide)) (by decide)) (by decide)) av_free_bollards)) (sk_cons (sv_he (sv_call sv_law_free (sk_cons (sv_hvar 2) (sk_cons (sv_hvar 3) (sk_cons (sv_he (sv_bi ov_maxX (sk_cons (sv_he (sv_con (.int 0) rfl rfl)) (sk_cons (sv_hvar 9) sk_nil (by decide)) (by decide)))) sk_nil (by decide)) (by decide)) (by decide)) av_law_free)) sk_nil (by decide)) (by decide)) (av_law_same 8))))) (by decide)
      (ss_ret' (sv_con (.bl false) rfl rfl) (by decide))
      ss_nil'))) (by decide) (or_app3 (by decide)))
  (ss_ret' (sv_con (.bl true) rfl rfl) (by decide))))))))))))))
theorem sv_law : SVF 1 r_law v_law := vf_run' svb_law (by decide) rfl
/-! ## ships -/
structure Sh where
  p : Int
  l : Int
  r : Int
  s : Int
def shr (a b : Sh) : Bool := decide (a.p < b.p + b.l ∧ b.p < a.p + a.l)
theorem shr_comm (a b : Sh) : shr a b = shr b a := by unfold shr; exact decide_eq_decide.mpr ⟨fun h => ⟨h.2, h.1⟩, fun h => ⟨h.2, h.1⟩⟩
abbrev Dn := List (Sh × Int)
def mxx (i j : Int) : Int := if j > i then j else i
def stp (x : Sh) (m : Int) (y : Sh × Int) : Int := if shr y.1 x then mxx m (y.2 + y.1.s) else m
def val (d : Dn) (x : Sh) : Int := d.foldl (stp x) x.r
def go : Dn → List Sh → Dn
  | d, [] => d
  | d, x :: xs => go (d ++ [(x, val d x)]) xs
def stz (ss : List Sh) : Dn := go [] ss
def sts (ss : List Sh) : List Int := (stz ss).map Prod.snd
theorem go_app : ∀ (a b : List Sh) (d : Dn), go d (a ++ b) = go (go d a) b
  | [], _, _ => rfl
  | x :: a, b, d => go_app a b _
theorem go_len : ∀ (b : List Sh) (d : Dn), (go d b).length = d.length + b.length
  | [], d => rfl
  | x :: b, d => by rw [go, go_len b]; simp; omega
theorem go_fst : ∀ (b : List Sh) (d : Dn), (go d b).map Prod.fst = d.map Prod.fst ++ b
  | [], d => by simp [go]
  | x :: b, d => by rw [go, go_fst b]; simp
theorem go_ext : ∀ (b : List Sh) (d : Dn), ∃ t, go d b = d ++ t
  | [], d => ⟨[], by simp [go]⟩
  | x :: b, d => by
    obtain ⟨t, e⟩ := go_ext b (d ++ [(x, val d x)])
    exact ⟨(x, val d x) :: t, by rw [go, e, List.append_assoc]; rfl⟩
theorem stz_len (ss : List Sh) : (stz ss).length = ss.length := by unfold stz; rw [go_len]; simp
theorem sts_len (ss : List Sh) : (sts ss).length = ss.length := by unfold sts; rw [List.length_map, stz_len]
theorem stz_fst (ss : List Sh) : (stz ss).map Prod.fst = ss := by unfold stz; rw [go_fst]; rfl
theorem stz_take (ss : List Sh) (k : Nat) : stz (ss.take k) = (stz ss).take k := by
  have e : ss.take k ++ ss.drop k = ss := List.take_append_drop ..
  have h : stz ss = go (stz (ss.take k)) (ss.drop k) := (congrArg stz e).symm.trans (by unfold stz; rw [go_app])
  obtain ⟨t, ht⟩ := go_ext (ss.drop k) (stz (ss.take k))
  by_cases hk : k ≤ ss.length
  · rw [h, ht, List.take_left' (by rw [stz_len, List.length_take]; omega)]
  · rw [List.take_of_length_le (show ss.length ≤ k by omega), List.take_of_length_le (by rw [stz_len]; omega)]
theorem sts_take (ss : List Sh) (k : Nat) : sts (ss.take k) = (sts ss).take k := by unfold sts; rw [stz_take, List.map_take]
theorem stz_snoc (a : List Sh) (x : Sh) : stz (a ++ [x]) = stz a ++ [(x, val (stz a) x)] := by unfold stz; rw [go_app]; rfl
/-- the start of a ship, from those ahead -/
theorem stz_get {ss : List Sh} {k : Nat} {x : Sh} (h : ss[k]? = some x) : (stz ss)[k]? = some (x, val ((stz ss).take k) x) := by
  obtain ⟨hk, hx⟩ := List.getElem?_eq_some_iff.mp h
  have e : (stz ss).take (k + 1) = (stz ss).take k ++ [(x, val ((stz ss).take k) x)] := by
    rw [← stz_take, ← stz_take, List.take_succ, h]
    exact stz_snoc _ _
  have h2 : ((stz ss).take (k + 1))[k]? = (stz ss)[k]? := by rw [List.getElem?_take]; simp
  rw [← h2, e, List.getElem?_append_right (by rw [List.length_take]; exact Nat.min_le_left _ _)]
  rw [List.length_take, stz_len, Nat.min_eq_left (by omega), Nat.sub_self]; rfl
theorem sts_get {ss : List Sh} {k : Nat} {x : Sh} (h : ss[k]? = some x) : (sts ss)[k]? = some (val ((stz ss).take k) x) := by
  unfold sts; rw [List.getElem?_map, stz_get h]; rfl
/-! val is a greatest -/
theorem mxx_l (i j : Int) : i ≤ mxx i j := by unfold mxx; split <;> omega
theorem mxx_r (i j : Int) : j ≤ mxx i j := by unfold mxx; split <;> omega
theorem mxx_or (i j : Int) : mxx i j = i ∨ mxx i j = j := by unfold mxx; split <;> simp
theorem fold_ge (x : Sh) : ∀ (d : Dn) (m : Int), m ≤ d.foldl (stp x) m
  | [], m => Int.le_refl _
  | y :: d, m => by
    refine Int.le_trans ?_ (fold_ge x d _)
    unfold stp; split
    · exact mxx_l _ _
    · exact Int.le_refl _
theorem fold_mem (x : Sh) : ∀ (d : Dn) (m : Int) (y : Sh × Int), y ∈ d → shr y.1 x = true → y.2 + y.1.s ≤ d.foldl (stp x) m
  | [], _, _, h, _ => by cases h
  | z :: d, m, y, h, hs => by
    rcases List.mem_cons.mp h with rfl | h
    · refine Int.le_trans ?_ (fold_ge x d _)
      unfold stp; rw [if_pos hs]; exact mxx_r _ _
    · exact fold_mem x d _ y h hs
theorem fold_or (x : Sh) : ∀ (d : Dn) (m : Int), d.foldl (stp x) m = m ∨ ∃ y, y ∈ d ∧ shr y.1 x = true ∧ d.foldl (stp x) m = y.2 + y.1.s
  | [], _ => .inl rfl
  | z :: d, m => by
    rcases fold_or x d (stp x m z) with h | ⟨y, hy, hs, e⟩
    · rw [List.foldl_cons, h]
      unfold stp
      by_cases hs : shr z.1 x = true
      · rw [if_pos hs]
        rcases mxx_or m (z.2 + z.1.s) with q | q
        · exact .inl q
        · exact .inr ⟨z, List.mem_cons_self, hs, q⟩
      · rw [if_neg hs]; exact .inl rfl
    · exact .inr ⟨y, List.mem_cons_of_mem _ hy, hs, e⟩
theorem val_perm {d d' : Dn} (h : d.Perm d') (x : Sh) : val d x = val d' x := by
  have key : ∀ {a b : Dn}, (∀ y, y ∈ a → y ∈ b) → val a x ≤ val b x := by
    intro a b hab
    rcases fold_or x a x.r with e | ⟨y, hy, hs, e⟩
    · unfold val; rw [e]; exact fold_ge x b _
    · unfold val; rw [e]; exact fold_mem x b _ y (hab y hy) hs
  exact Int.le_antisymm (key fun y hy => h.mem_iff.mp hy) (key fun y hy => h.mem_iff.mpr hy)
theorem go_perm : ∀ (b : List Sh) (d d' : Dn), d.Perm d' → d.length = d'.length → ∃ t, go d b = d ++ t ∧ go d' b = d' ++ t
  | [], d, d', _, _ => ⟨[], by simp [go], by simp [go]⟩
  | x :: b, d, d', h, hl => by
    have e := val_perm h x
    obtain ⟨t, e1, e2⟩ := go_perm b (d ++ [(x, val d x)]) (d' ++ [(x, val d' x)]) (by rw [e]; exact h.append_right _) (by simp [hl])
    exact ⟨(x, val d x) :: t, by rw [go, e1, List.append_assoc]; rfl, by rw [go, e2, List.append_assoc, e]; rfl⟩
theorem val_snoc_no {d : Dn} {x y : Sh} {t : Int} (h : shr y x = false) : val (d ++ [(y, t)]) x = val d x := by
  unfold val; rw [List.foldl_append]
  show stp x _ (y, t) = _
  unfold stp; rw [if_neg (by simp [h])]
/-- two neighbours that do not share change places -/
theorem sts_swap {a b : List Sh} {x y : Sh} (h : shr x y = false) : ∃ s tx ty t, s.length = a.length ∧ sts (a ++ x :: y :: b) = s ++ tx :: ty :: t ∧ sts (a ++ y :: x :: b) = s ++ ty :: tx :: t := by
  have h' : shr y x = false := by rw [shr_comm]; exact h
  obtain ⟨t, e1, e2⟩ := go_perm b (stz a ++ [(x, val (stz a) x)] ++ [(y, val (stz a) y)]) (stz a ++ [(y, val (stz a) y)] ++ [(x, val (stz a) x)]) (by rw [List.append_assoc, List.append_assoc]; exact List.Perm.append_left _ (List.Perm.swap ..)) (by simp)
  refine ⟨sts a, val (stz a) x, val (stz a) y, t.map Prod.snd, sts_len a, ?_, ?_⟩
  · have : stz (a ++ x :: y :: b) = stz a ++ [(x, val (stz a) x)] ++ [(y, val (stz a) y)] ++ t := by
      rw [← e1]; unfold stz; rw [go_app, go, go]; rw [val_snoc_no h]
    unfold sts; rw [this]; simp
  · have : stz (a ++ y :: x :: b) = stz a ++ [(y, val (stz a) y)] ++ [(x, val (stz a) x)] ++ t := by
      rw [← e2]; unfold stz; rw [go_app, go, go]; rw [val_snoc_no h']
    unfold sts; rw [this]; simp
/-- ships told otherwise -/
theorem fold_map {g : Sh → Sh} {c : Int} {x : Sh} (hg : ∀ a, shr (g a) (g x) = shr a x) (hs : ∀ a, (g a).s = a.s) : ∀ (d : Dn) (m : Int), (d.map fun y => (g y.1, y.2 + c)).foldl (stp (g x)) (m + c) = d.foldl (stp x) m + c
  | [], m => rfl
  | y :: d, m => by
    rw [List.map_cons, List.foldl_cons, List.foldl_cons, ← fold_map hg hs d]
    congr 1
    unfold stp
    rw [show shr (g y.1, y.2 + c).1 (g x) = shr y.1 x from hg y.1]
    by_cases h : shr y.1 x = true
    · rw [if_pos h, if_pos h]
      show mxx (m + c) (y.2 + c + (g y.1).s) = _
      rw [hs]; unfold mxx
      by_cases q : y.2 + y.1.s > m
      · rw [if_pos (by omega), if_pos q]; omega
      · rw [if_neg (by omega), if_neg q]
    · rw [if_neg h, if_neg h]
theorem go_map {g : Sh → Sh} {c : Int} (hg : ∀ a b, shr (g a) (g b) = shr a b) (hs : ∀ a, (g a).s = a.s) (hr : ∀ a, (g a).r = a.r + c) : ∀ (b : List Sh) (d : Dn), go (d.map fun y => (g y.1, y.2 + c)) (b.map g) = (go d b).map fun y => (g y.1, y.2 + c)
  | [], d => rfl
  | x :: b, d => by
    have e : val (d.map fun y => (g y.1, y.2 + c)) (g x) = val d x + c := by
      unfold val; rw [hr]; exact fold_map (fun a => hg a x) hs d x.r
    rw [List.map_cons, go, go, e, ← go_map hg hs hr b]
    simp
theorem sts_map {g : Sh → Sh} {c : Int} (hg : ∀ a b, shr (g a) (g b) = shr a b) (hs : ∀ a, (g a).s = a.s) (hr : ∀ a, (g a).r = a.r + c) (ss : List Sh) : sts (ss.map g) = (sts ss).map (· + c) := by
  have := go_map hg hs hr ss []
  unfold sts stz
  rw [List.map_nil] at this
  rw [this, List.map_map, List.map_map]; rfl
/-! ## free bollards -/
abbrev Fr := List (Int × Int)
def adn (F : Fr) (b : Int) : Fr := match F.getLast? with
  | none => F ++ [(b, b)]
  | some (a, e) => if e = b - 1 then F.dropLast ++ [(a, b)] else F ++ [(b, b)]
theorem adn_nil (b : Int) : adn [] b = [(b, b)] := rfl
theorem adn_snoc (G : Fr) (a e b : Int) : adn (G ++ [(a, e)]) b = if e = b - 1 then G ++ [(a, b)] else G ++ [(a, e)] ++ [(b, b)] := by
  unfold adn; rw [List.getLast?_concat, List.dropLast_concat]
def rn (f : Int → Bool) : Nat → Fr
  | 0 => []
  | n + 1 => if f n then adn (rn f n) n else rn f n
theorem rn_last {f : Int → Bool} : ∀ (n : Nat) (G : Fr) (a e : Int), rn f n = G ++ [(a, e)] → e < n ∧ f e = true
  | 0, G, a, e, h => by simp [rn] at h
  | n + 1, G, a, e, h => by
    rw [rn] at h
    by_cases hf : f n = true
    · rw [if_pos hf] at h
      have : e = n := by
        rcases List.eq_nil_or_concat (rn f n) with q | ⟨G', ⟨a', e'⟩, q⟩
        · rw [q, adn_nil] at h
          have := (List.append_inj' (s₁ := []) h rfl).2
          cases this; rfl
        · rw [q, List.concat_eq_append, adn_snoc] at h
          split at h
          · have := (List.append_inj' h rfl).2; cases this; rfl
          · have := (List.append_inj' h rfl).2; cases this; rfl
      subst this
      exact ⟨by omega, hf⟩
    · rw [if_neg hf] at h
      obtain ⟨a1, a2⟩ := rn_last n G a e h
      exact ⟨by omega, a2⟩
theorem rn_no {f : Int → Bool} {m : Nat} : ∀ (j : Nat), (∀ b : Nat, m ≤ b → b < m + j → f b = false) → rn f (m + j) = rn f m
  | 0, _ => rfl
  | j + 1, h => by
    rw [← Nat.add_assoc, rn, if_neg (by rw [h (m + j) (by omega) (by omega)]; simp)]
    exact rn_no j fun b h1 h2 => h b h1 (by omega)
theorem rn_gap {f : Int → Bool} {m : Nat} (h0 : m = 0 ∨ f ((m : Int) - 1) = false) : ∀ (j : Nat), (∀ b : Nat, m ≤ b → b < m + j + 1 → f b = true) → rn f (m + j + 1) = rn f m ++ [((m : Int), ((m + j : Nat) : Int))]
  | 0, h => by
    rw [Nat.add_zero, rn, if_pos (h m (by omega) (by omega))]
    rcases List.eq_nil_or_concat (rn f m) with q | ⟨G, ⟨a, e⟩, q⟩
    · rw [q, adn_nil]; rfl
    · rw [List.concat_eq_append] at q
      obtain ⟨h1, h2⟩ := rn_last m G a e q
      have ne : ¬ e = (m : Int) - 1 := fun he => by
        rcases h0 with rfl | h0
        · simp [rn] at q
        · rw [he, h0] at h2; cases h2
      rw [q, adn_snoc, if_neg ne, Nat.add_zero]
  | j + 1, h => by
    have ih := rn_gap h0 j fun b h1 h2 => h b h1 (by omega)
    rw [show m + (j + 1) + 1 = (m + j + 1) + 1 by omega, rn, if_pos (h (m + j + 1) (by omega) (by omega)), ih, adn_snoc, if_pos (by omega)]
    congr 3
def cov (L : List Sh) (b : Int) : Bool := L.any fun x => decide (x.p ≤ b ∧ b < x.p + x.l)
def swp (a : Fr × Int) (x : Sh) : Fr × Int := (if x.p > a.2 then a.1 ++ [(a.2, x.p - 1)] else a.1, mxx a.2 (x.p + x.l))
def swe (B : Int) (a : Fr × Int) : Fr := if a.2 < B then a.1 ++ [(a.2, B - 1)] else a.1
theorem sweep {f : Int → Bool} {B : Nat} : ∀ (xs : List Sh) (at' : Nat), (∀ x, x ∈ xs → 0 ≤ x.p ∧ 1 ≤ x.l ∧ x.p + x.l ≤ B) → xs.Pairwise (fun a b => a.p ≤ b.p) → at' ≤ B → (at' = 0 ∨ f ((at' : Int) - 1) = false) → (∀ b : Nat, at' ≤ b → f b = !cov xs b) →
    swe B (xs.foldl swp (rn f at', (at' : Int))) = rn f B
  | [], at', _, _, hB, h0, hc => by
    show (if (at' : Int) < B then _ else _) = _
    by_cases h : at' < B
    · rw [if_pos (by omega)]
      obtain ⟨j, rfl⟩ : ∃ j, B = at' + j + 1 := ⟨B - at' - 1, by omega⟩
      rw [rn_gap h0 j fun b h1 _ => by rw [hc b h1]; rfl]
      congr 3; omega
    · rw [if_neg (by omega), show B = at' by omega]; rfl
  | x :: xs, at', hx, hp, hB, h0, hc => by
    obtain ⟨p0, l1, pB⟩ := hx x List.mem_cons_self
    obtain ⟨hp1, hp2⟩ := List.pairwise_cons.mp hp
    have hx' : ∀ y, y ∈ xs → 0 ≤ y.p ∧ 1 ≤ y.l ∧ y.p + y.l ≤ B := fun y hy => hx y (List.mem_cons_of_mem _ hy)
    have cv : ∀ b : Int, x.p ≤ b → b < x.p + x.l → cov (x :: xs) b = true := fun b h1 h2 => by
      unfold cov; rw [List.any_cons, decide_eq_true ⟨h1, h2⟩]; rfl
    have cn : ∀ b : Int, x.p + x.l ≤ b → cov (x :: xs) b = cov xs b := fun b h1 => by
      unfold cov; rw [List.any_cons, decide_eq_false (by omega)]; rfl
    rw [List.foldl_cons]
    by_cases h : x.p > (at' : Int)
    · obtain ⟨j, hj⟩ : ∃ j : Nat, x.p = ((at' + j + 1 : Nat) : Int) := ⟨(x.p - at' - 1).toNat, by omega⟩
      obtain ⟨e, he⟩ : ∃ e : Nat, x.p + x.l = (e : Int) := ⟨(x.p + x.l).toNat, by omega⟩
      have g1 := rn_gap (f := f) h0 j fun b h1 h2 => by
        rw [hc b h1]
        have : cov (x :: xs) b = false := by
          unfold cov
          refine List.any_eq_false.mpr fun y hy => ?_
          have : x.p ≤ y.p := by
            rcases List.mem_cons.mp hy with rfl | hy
            · exact Int.le_refl _
            · exact hp1 y hy
          simp; omega
        rw [this]; rfl
      have g2 := rn_no (f := f) (m := at' + j + 1) (e - (at' + j + 1)) fun b h1 h2 => by
        rw [hc b (by omega), cv b (by omega) (by omega)]; rfl
      rw [show at' + j + 1 + (e - (at' + j + 1)) = e by omega, g1] at g2
      have ih := sweep (f := f) xs e hx' hp2 (by omega) (.inr (by
        have := hc (e - 1) (by omega)
        rw [show ((e : Int) - 1) = ((e - 1 : Nat) : Int) by omega, this, cv _ (by omega) (by omega)]; rfl)) fun b hb => by rw [hc b (by omega), cn b (by omega)]
      rw [g2] at ih
      rw [← ih]
      congr 2
      unfold swp
      rw [if_pos h, he]
      have m1 : mxx (at' : Int) e = e := by unfold mxx; rw [if_pos (by omega)]
      rw [m1, hj]
      congr 4; omega
    · by_cases h2 : x.p + x.l > (at' : Int)
      · obtain ⟨e, he⟩ : ∃ e : Nat, x.p + x.l = (e : Int) := ⟨(x.p + x.l).toNat, by omega⟩
        have g2 := rn_no (f := f) (m := at') (e - at') fun b h1 h2 => by
          rw [hc b (by omega), cv b (by omega) (by omega)]; rfl
        rw [show at' + (e - at') = e by omega] at g2
        have ih := sweep (f := f) xs e hx' hp2 (by omega) (.inr (by
          have := hc (e - 1) (by omega)
          rw [show ((e : Int) - 1) = ((e - 1 : Nat) : Int) by omega, this, cv _ (by omega) (by omega)]; rfl)) fun b hb => by rw [hc b (by omega), cn b (by omega)]
        rw [g2] at ih
        rw [← ih]
        congr 2
        unfold swp
        rw [if_neg h, he]
        have m1 : mxx (at' : Int) e = e := by unfold mxx; rw [if_pos (by omega)]
        rw [m1]
      · have ih := sweep (f := f) xs at' hx' hp2 hB h0 fun b hb => by rw [hc b hb, cn b (by omega)]
        rw [← ih]
        congr 2
        unfold swp
        rw [if_neg h]
        have m1 : mxx (at' : Int) (x.p + x.l) = at' := by unfold mxx; rw [if_neg (by omega)]
        rw [m1]
abbrev I (i : Int) : W := .im (.int i)
def shP (x : Sh) : P := .tup [.int x.p, .int x.l, .int x.r, .int x.s]
/-- a tuple, a locked list -/
inductive Fq : P → List P → Prop
  | tup (ps : List P) : Fq (.tup ps) ps
  | fz (ps : List P) : Fq (.fz ps) ps
theorem v_is {a b : Sh} : v_is_sharing [.im (shP a), .im (shP b)] = .ok (.im (.bl (shr a b))) [some (.im (shP a)), some (.im (shP b))] := by
  unfold v_is_sharing
  rw [vrun2]
  unfold shr shP
  by_cases h1 : a.p < b.p + b.l
  · simp [vb_is_sharing, h1]
  · simp [vb_is_sharing, h1]
theorem v_lsh {a b : Sh} (ha : 1 ≤ a.l) (hb : 1 ≤ b.l) : v_law_shares [.im (shP a), .im (shP b)] = .ok (.im (.bl (shr a b))) [some (.im (shP a)), some (.im (shP b))] := by
  unfold v_law_shares
  rw [vrun2]
  have e : shr a b = decide ((if b.p > a.p then b.p else a.p) < (if b.p + b.l < a.p + a.l then b.p + b.l else a.p + a.l)) := by
    unfold shr; apply decide_eq_decide.mpr; constructor
    · intro h; split <;> split <;> omega
    · intro h; split at h <;> split at h <;> omega
  rw [e]
  unfold shP
  simp [vb_law_shares]
def dI (d : Dn) : List W := d.map fun y => I y.2
abbrev enT : VTn := tTp 2 (tsCons (tNm 2) (tsCons (tNm 3) tsNil))
theorem ix_dI {j i : Nat} {d : Dn} {y : Sh × Int} (h : d[i]? = some y) (s : Vs) : ixL j [] (dI d) (i : Int) s = .ok (.v (I y.2)) s := ixL_im (by unfold dI; rw [atI_map, atI_get h]; rfl)
theorem turn_s1 {q : P} {ss : List Sh} {d : Dn} {i : Nat} {y : Sh × Int} {x : Sh} {acc : Int} {N : Option W} (hq : Fq q (ss.map shP)) (h1 : d[i]? = some y) (h2 : ss[i]? = some y.1) : turnV (tNm 5) lb_starts_1 (I (i : Nat)) [some (.im q), some (.lst (dI d)), N, some (.im (shP x)), some (I acc), none] =
    .nx [some (.im q), some (.lst (dI d)), N, some (.im (shP x)), some (I (stp x acc y)), some (I (i : Nat))] := by
  have e1 : L2.atI ss (i : Int) = some y.1 := atI_get h2
  have i1 := fun s => ix_dI (j := 1) h1 s
  have c := v_is (a := y.1) (b := x)
  have ps : ∀ z : Sh, L2.atI [P.int z.p, .int z.l, .int z.r, .int z.s] 3 = some (.int z.s) := fun z => by simp
  unfold stp mxx
  generalize dI d = D at *
  cases hb : shr y.1 x with
  | true =>
    rw [hb] at c
    cases hq <;> simp [turnV, lb_starts_1, tNm, e1, i1, c] <;> simp [shP]
  | false =>
    rw [hb] at c
    cases hq <;> simp [turnV, lb_starts_1, tNm, e1, i1, c]
theorem loop_s1 {q : P} {ss : List Sh} {d : Dn} {x : Sh} {N : Option W} (hq : Fq q (ss.map shP)) (hd : ∀ (i : Nat) (y : Sh × Int), d[i]? = some y → ss[i]? = some y.1) : ∀ (m i : Nat) (acc : Int), i + m = d.length → forV [] [5] (tNm 5) lb_starts_1 (rgF i m) [some (.im q), some (.lst (dI d)), N, some (.im (shP x)), some (I acc), none] =
    .nx [some (.im q), some (.lst (dI d)), N, some (.im (shP x)), some (I ((d.drop i).foldl (stp x) acc)), none]
  | 0, i, acc, h => by rw [rgF, forV_nil rfl, List.drop_eq_nil_of_le (by omega)]; rfl
  | m + 1, i, acc, h => by
    have hi : i < d.length := by omega
    have g := List.getElem?_eq_getElem hi
    have t := turn_s1 (x := x) (acc := acc) (N := N) hq g (hd _ _ g)
    rw [rgF, forV_nxt (s3 := [some (.im q), some (.lst (dI d)), N, some (.im (shP x)), some (I (stp x acc d[i])), none]) rfl (on_of t) (by rfl) rfl (by rfl)]
    rw [loop_s1 hq hd m (i + 1) _ (by omega), List.drop_eq_getElem_cons hi]; rfl
theorem turn_s2 {q : P} {ss : List Sh} {d : Dn} {x : Sh} (hq : Fq q (ss.map shP)) (hd : ∀ (i : Nat) (y : Sh × Int), d[i]? = some y → ss[i]? = some y.1) (hl : d.length ≤ 1000) : turnV enT lb_starts_2 (.im (.tup [.int (d.length : Nat), shP x])) [some (.im q), some (.lst (dI d)), none, none, none, none] =
    .nx [some (.im q), some (.lst (dI (d ++ [(x, val d x)]))), some (I (d.length : Nat)), some (.im (shP x)), some (I (val d x)), none] := by
  have lp := loop_s1 (x := x) (N := some (I (d.length : Nat))) hq hd d.length 0 x.r (by omega)
  rw [List.drop_zero] at lp
  have q1 : ∀ s : Vs, qRgk [I (d.length : Int)] s = .ok (rgF 0 d.length) s := fun s => by
    rw [qRgk_1 (by omega) (by omega), ← rgW_F, show ((d.length : Int)).toNat = d.length by omega]; rfl
  have ea : dI (d ++ [(x, val d x)]) = dI d ++ [I (val d x)] := by unfold dI; simp
  rw [ea]
  have ld : (dI d).length ≤ 10000000 := by unfold dI; rw [List.length_map]; omega
  unfold val at *
  generalize d.foldl (stp x) x.r = v at *
  generalize rgF 0 d.length = R at *
  generalize dI d = D at *
  have e0 : L2.atI [P.int x.p, .int x.l, .int x.r, .int x.s] 2 = some (.int x.r) := by simp
  unfold shP at *
  simp [turnV, lb_starts_2, q1, lp, ld]
theorem loop_s2 {q : P} {ss : List Sh} (hq : Fq q (ss.map shP)) (hs : ss.length ≤ 1000) : ∀ (xs : List Sh) (d : Dn), d.map Prod.fst ++ xs = ss → forV [] [2, 3, 4, 5] enT lb_starts_2 ((enF d.length (xs.map shP)).map .im) [some (.im q), some (.lst (dI d)), none, none, none, none] =
    .nx [some (.im q), some (.lst (dI (go d xs))), none, none, none, none]
  | [], d, h => by show forV _ _ _ _ [] _ = _; rw [forV_nil rfl]; rfl
  | x :: xs, d, h => by
    have hlen : d.length + (xs.length + 1) = ss.length := by rw [← h]; simp
    have t := turn_s2 (x := x) hq (d := d) (fun i y hy => by
      have hi : i < d.length := (List.getElem?_eq_some_iff.mp hy).1
      rw [← h, List.getElem?_append_left (by rw [List.length_map]; exact hi), List.getElem?_map, hy]; rfl) (by omega)
    have lc : (enF d.length ((x :: xs).map shP)).map W.im = .im (.tup [.int (d.length : Nat), shP x]) :: (enF (d.length + 1) (xs.map shP)).map .im := rfl
    rw [lc, forV_nxt (s3 := [some (.im q), some (.lst (dI (d ++ [(x, val d x)]))), none, none, none, none]) rfl (on_of t) (by rfl) rfl (by rfl)]
    have ih := loop_s2 hq hs xs (d ++ [(x, val d x)]) (by rw [← h]; simp)
    rw [List.length_append] at ih
    exact ih
theorem sq_fq {w : W} {ps : List P} (q : Sq w ps) : Fq w.frz ps := by
  cases q with
  | tup => exact .tup _
  | fz => exact .fz _
  | lst =>
    have := frzs_map_im ps
    simp only [W.frz, this]
    exact .fz _
theorem imL_dI (d : Dn) : imL (dI d) = some (d.map fun y => .int y.2) := by
  have := imL_map (d.map fun y => P.int y.2)
  rwa [List.map_map] at this
theorem v_sts {w : W} {ss : List Sh} (hq : Sq w (ss.map shP)) (hs : ss.length ≤ 1000) : v_starts [w] = .ok (.im (.tup ((sts ss).map .int))) [some (.im w.frz)] := by
  unfold v_starts
  rw [vrun1]
  have lp := loop_s2 (sq_fq hq) hs ss [] rfl
  rw [show dI [] = [] from rfl, show ([] : Dn).length = 0 from rfl, ← enP_F] at lp
  have id := imL_dI (go [] ss)
  have ed : (go [] ss).map (fun y => P.int y.2) = (sts ss).map .int := by unfold sts stz; rw [List.map_map]; rfl
  rw [ed] at id
  generalize (sts ss).map P.int = ST at *
  generalize dI (go [] ss) = D at *
  generalize hPS : ss.map shP = PS at *
  have fr := frzs_map_im PS
  cases hq <;> (try simp [W.frz] at lp) <;> simp [vb_starts, lp, id, W.frz, fr]
@[simp] theorem ixE_sh0 (x : Sh) : ixE (.im (shP x)) 0 = some (I x.p) := by unfold shP; simp
@[simp] theorem ixE_sh1 (x : Sh) : ixE (.im (shP x)) 1 = some (I x.l) := by unfold shP; simp
@[simp] theorem ixE_sh2 (x : Sh) : ixE (.im (shP x)) 2 = some (I x.r) := by unfold shP; simp
@[simp] theorem ixE_sh3 (x : Sh) : ixE (.im (shP x)) 3 = some (I x.s) := by unfold shP; simp
/-! the law's starts -/
def y0 : Sh × Int := (⟨0, 0, 0, 0⟩, 0)
theorem rng_get {d : Dn} : (List.range d.length).map (fun j => d.getD j y0) = d := by
  refine List.ext_getElem (by simp) fun i h1 h2 => ?_
  simp [List.getD_eq_getElem?_getD, List.getElem?_eq_getElem h2]
def lft (d : Dn) (x : Sh) : List Int := (d.filter fun y => shr y.1 x).map fun y => y.2 + y.1.s
theorem lft_max (d : Dn) (x : Sh) : maxI (x.r :: lft d x) = some (val d x) := by
  show some (((d.filter fun y => shr y.1 x).map fun y => y.2 + y.1.s).foldl (fun a b => if b > a then b else a) x.r) = some (val d x)
  rw [List.foldl_map, List.foldl_filter]
  rfl
theorem gets {d : Dn} {k : Nat} (h : k < d.length) : d[k]? = some (d.getD k y0) := by
  rw [List.getD_eq_getElem?_getD, List.getElem?_eq_getElem h]; rfl
theorem rgl (n : Nat) : rgF 0 n = (List.range n).map fun k : Nat => I ((k : Nat) : Int) := by
  rw [← rgW_F]; unfold rgW
  refine List.map_congr_left fun k _ => ?_
  show I (((0 : Nat) : Int) + (k : Nat)) = I ((k : Nat) : Int)
  congr 1; congr 1; omega
theorem left_lc {w : W} {ss : List Sh} {d : Dn} {x : Sh} (hq : Sq w (ss.map shP)) (hd : ∀ (i : Nat) (y : Sh × Int), d[i]? = some y → ss[i]? = some y.1) (hx : ss[d.length]? = some x) (hl : ∀ a, a ∈ ss → 1 ≤ a.l) (h3 : d.length ≤ 1000) : lcVk [] [4] (tNm 4) lt_law_starts_1 le_law_starts_1 (rgF 0 d.length) [some w, some (.lst (dI d)), some (I (d.length : Nat)), none, none] = .ok (.lst ((lft d x).map fun k => I k)) [some w, some (.lst (dI d)), some (I (d.length : Nat)), none, none] := by
  have m := lcV_map (J := []) (own := [4]) (t := tNm 4) (tt := lt_law_starts_1) (fe := le_law_starts_1) (el := fun k : Nat => I ((k : Nat) : Int)) (p := fun j => shr (d.getD j y0).1 x) (out := fun j => I ((d.getD j y0).2 + (d.getD j y0).1.s)) (s := [some w, some (.lst (dI d)), some (I (d.length : Nat)), none, none]) rfl rfl (List.range d.length) fun j hj => by
    have hj : j < d.length := by simpa using hj
    have g := gets hj
    have e1 : L2.atI ss (j : Int) = some (d.getD j y0).1 := atI_get (hd _ _ g)
    have e2 : L2.atI ss (d.length : Int) = some x := atI_get hx
    have i1 := fun s => ix_dI (j := 1) g s
    have c := v_lsh (a := (d.getD j y0).1) (b := x) (hl _ (List.mem_of_getElem? (hd _ _ g))) (hl _ (List.mem_of_getElem? hx))
    have j1 : ∀ s : Vs, ixL 0 [] (List.map (fun x => W.im (shP x)) ss) (j : Int) s = .ok (.v (.im (shP (d.getD j y0).1))) s := fun s => ixL_im (by rw [atI_map, e1]; rfl)
    have j2 : ∀ s : Vs, ixL 0 [] (List.map (fun x => W.im (shP x)) ss) (d.length : Int) s = .ok (.v (.im (shP x))) s := fun s => ixL_im (by rw [atI_map, e2]; rfl)
    generalize d.getD j y0 = y at *
    refine ⟨[some w, some (.lst (dI d)), some (I (d.length : Nat)), none, some (I ((j : Nat) : Int))], by simp [tNm], ?_, rfl, fun _ => ?_⟩
    · generalize dI d = D at *
      cases hq <;> simp [lt_law_starts_1, e1, e2, j1, j2, c]
    · generalize dI d = D at *
      cases hq <;> simp -implicitDefEqProofs [le_law_starts_1, e1, j1, i1]
  have e : ((List.range d.length).filter fun j => shr (d.getD j y0).1 x).map (fun j => I ((d.getD j y0).2 + (d.getD j y0).1.s)) = (lft d x).map fun k => I k := by
    have := rng_get (d := d)
    unfold lft
    conv in (d.filter _) => rw [← this]
    rw [List.filter_map, List.map_map, List.map_map]; rfl
  rw [e, ← rgl] at m
  exact lcVk_of (by rw [rgF_len]; omega) rfl m
theorem turn_ls {w : W} {ss : List Sh} {d : Dn} {x : Sh} (hq : Sq w (ss.map shP)) (hd : ∀ (i : Nat) (y : Sh × Int), d[i]? = some y → ss[i]? = some y.1) (hx : ss[d.length]? = some x) (hl : ∀ a, a ∈ ss → 1 ≤ a.l) (h3 : d.length ≤ 1000) : turnV (tNm 2) lb_law_starts_1 (I (d.length : Nat)) [some w, some (.lst (dI d)), none, none, none] =
    .nx [some w, some (.lst (dI (d ++ [(x, val d x)]))), some (I (d.length : Nat)), some (.lst ((lft d x).map fun k => I k)), none] := by
  have m := left_lc hq hd hx hl h3
  have mx := lft_max d x
  have q1 : ∀ s : Vs, qRgk [I (d.length : Int)] s = .ok (rgF 0 d.length) s := fun s => by
    rw [qRgk_1 (by omega) (by omega), ← rgW_F, show ((d.length : Int)).toNat = d.length by omega]; rfl
  have ea : dI (d ++ [(x, val d x)]) = dI d ++ [I (val d x)] := by unfold dI; simp
  rw [ea]
  have ld : (dI d).length ≤ 10000000 := by unfold dI; rw [List.length_map]; omega
  have e2 : L2.atI ss (d.length : Int) = some x := atI_get hx
  have j2 : ∀ s : Vs, ixL 0 [] (List.map (fun x => W.im (shP x)) ss) (d.length : Int) s = .ok (.v (.im (shP x))) s := fun s => ixL_im (by rw [atI_map, e2]; rfl)
  have il : imL ((lft d x).map fun k => I k) = some ((lft d x).map .int) := by
    have := imL_map ((lft d x).map P.int)
    rwa [List.map_map] at this
  have lLI : 1 + ((lft d x).map fun k => I k).length ≤ 10000000 := by
    rw [List.length_map]; unfold lft; rw [List.length_map]
    have := List.length_filter_le (fun y : Sh × Int => shr y.1 x) d
    omega
  have ip : intsP ((lft d x).map fun k => I k) = some (lft d x) := by have := intsP_map (fun k : Int => k) (lft d x); rwa [List.map_id'] at this
  have ip2 : intsP (I x.r :: (lft d x).map fun k => I k) = some (x.r :: lft d x) := by show (intsP _).map _ = _; rw [ip]; rfl
  generalize val d x = v at *
  generalize (lft d x).map P.int = LP at *
  generalize (lft d x).map (fun k => I k) = LI at *
  generalize lft d x = LF at *
  generalize rgF 0 d.length = R at *
  generalize dI d = D at *
  have kx : kMaxX [.lst (I x.r :: LI)] = some (I v) := by rw [kMaxX_l, ip2]; simp only [Option.bind_some, mx, Option.map_some]
  have e0 : L2.atI [P.int x.p, .int x.l, .int x.r, .int x.s] 2 = some (.int x.r) := by simp
  (try simp at q1)
  cases hq <;> (try simp at m) <;> simp -implicitDefEqProofs [turnV, tNm, lb_law_starts_1, q1, m, e2, j2, il, ip2, mx, ld, lLI]
theorem loop_ls {w : W} {ss : List Sh} (hq : Sq w (ss.map shP)) (hl : ∀ a, a ∈ ss → 1 ≤ a.l) (hs : ss.length ≤ 1000) : ∀ (xs : List Sh) (d : Dn), d.map Prod.fst ++ xs = ss → forV [] [2, 3] (tNm 2) lb_law_starts_1 (rgF d.length xs.length) [some w, some (.lst (dI d)), none, none, none] =
    .nx [some w, some (.lst (dI (go d xs))), none, none, none]
  | [], d, h => by show forV _ _ _ _ [] _ = _; rw [forV_nil rfl]; rfl
  | x :: xs, d, h => by
    have hlen : d.length + (xs.length + 1) = ss.length := by rw [← h]; simp
    have t := turn_ls (x := x) hq (d := d) (fun i y hy => by
      have hi : i < d.length := (List.getElem?_eq_some_iff.mp hy).1
      rw [← h, List.getElem?_append_left (by rw [List.length_map]; exact hi), List.getElem?_map, hy]; rfl) (by rw [← h, List.getElem?_append_right (by rw [List.length_map]; exact Nat.le_refl _), List.length_map, Nat.sub_self]; rfl) hl (by omega)
    rw [List.length_cons, rgF, forV_nxt (s3 := [some w, some (.lst (dI (d ++ [(x, val d x)]))), none, none, none]) rfl (on_of t) (by rfl) rfl (by rfl)]
    have ih := loop_ls hq hl hs xs (d ++ [(x, val d x)]) (by rw [← h]; simp)
    rw [List.length_append] at ih
    exact ih
theorem v_lst {w : W} {ss : List Sh} (hq : Sq w (ss.map shP)) (hl : ∀ a, a ∈ ss → 1 ≤ a.l) (hs : ss.length ≤ 1000) : v_law_starts [w] = .ok (.lst ((sts ss).map fun k => I k)) [some w] := by
  unfold v_law_starts
  rw [vrun1]
  have lp := loop_ls hq hl hs ss [] rfl
  have q1 : ∀ s : Vs, qRgk [I (ss.length : Int)] s = .ok (rgF 0 ss.length) s := fun s => by
    rw [qRgk_1 (by omega) (by omega), ← rgW_F, show ((ss.length : Int)).toNat = ss.length by omega]; rfl
  rw [show dI [] = [] from rfl, show ([] : Dn).length = 0 from rfl] at lp
  have ed : dI (go [] ss) = (sts ss).map fun k => I k := by unfold dI sts stz; rw [List.map_map]; rfl
  rw [ed] at lp
  generalize (sts ss).map (fun k => I k) = D at *
  generalize rgF 0 ss.length = R at *
  (try simp at q1)
  cases hq <;> (try simp at lp) <;> simp [vb_law_starts, q1, lp]
/-! by trying all of them -/
def t0 : Sh := ⟨0, 0, 0, 0⟩
def tk (ss : List Sh) (k : Nat) : Int := (sts ss).getD k 0
def hk (ss : List Sh) (k : Nat) : Sh := ss.getD k t0
theorem hk_get {ss : List Sh} {k : Nat} (h : k < ss.length) : ss[k]? = some (hk ss k) := by
  unfold hk; rw [List.getD_eq_getElem?_getD, List.getElem?_eq_getElem h]; rfl
theorem tk_get {ss : List Sh} {k : Nat} (h : k < ss.length) : (sts ss)[k]? = some (tk ss k) := by
  unfold tk; rw [List.getD_eq_getElem?_getD, List.getElem?_eq_getElem (by rw [sts_len]; exact h)]; rfl
theorem stz_tk {ss : List Sh} {k : Nat} (h : k < ss.length) : (stz ss)[k]? = some (hk ss k, tk ss k) := by
  have a := stz_get (hk_get h)
  have b := sts_get (hk_get h)
  rw [tk_get h] at b
  rw [a]
  injection b with b
  rw [b]
theorem tk_val {ss : List Sh} {k : Nat} (h : k < ss.length) : tk ss k = val ((stz ss).take k) (hk ss k) := by
  have b := sts_get (hk_get h)
  rw [tk_get h] at b
  injection b
theorem take_get {ss : List Sh} {k i : Nat} (hk' : k < ss.length) (h : i < k) : ((stz ss).take k)[i]? = some (hk ss i, tk ss i) := by
  rw [List.getElem?_take, if_pos h]; exact stz_tk (by omega)
theorem ix_sh {w : W} {ss : List Sh} {k : Nat} (h : k < ss.length) : L2.atI ss (k : Int) = some (hk ss k) := atI_get (hk_get h)
theorem ix_shL {j : Nat} {ss : List Sh} {k : Nat} (h : k < ss.length) (s : Vs) : ixL j [] (List.map (fun x => W.im (shP x)) ss) (k : Int) s = .ok (.v (.im (shP (hk ss k)))) s := ixL_im (by rw [atI_map, ix_sh (w := .im .non) h]; rfl)
theorem turn_gr {q : VF} {w : W} {ss : List Sh} {k i : Nat} {acc : Int} (hq : Sq w (ss.map shP)) (hl : ∀ a, a ∈ ss → 1 ≤ a.l) (hk' : k < ss.length) (hi : i < k) (ih : q [w, I (i : Int)] = .ok (I (tk ss i)) [some w, some (I (i : Int))]) : turnV (tNm 3) (lb_law_greatest_1 q) (I (i : Nat)) [some w, some (I (k : Nat)), some (I acc), none] =
    .nx [some w, some (I (k : Nat)), some (I (stp (hk ss k) acc (hk ss i, tk ss i))), some (I (i : Nat))] := by
  have e1 := ix_sh (w := w) (ss := ss) (k := i) (by omega)
  have e2 := ix_sh (w := w) hk'
  have j1 := fun s => ix_shL (j := 0) (ss := ss) (k := i) (by omega) s
  have j2 := fun s => ix_shL (j := 0) hk' s
  have c := v_lsh (a := hk ss i) (b := hk ss k) (hl _ (List.mem_of_getElem? (hk_get (by omega)))) (hl _ (List.mem_of_getElem? (hk_get hk')))
  unfold stp mxx
  generalize hk ss i = a at *
  generalize hk ss k = b at *
  generalize tk ss i = t at *
  cases hb : shr a b with
  | true =>
    rw [hb] at c
    cases hq <;> (try simp at ih) <;> simp -implicitDefEqProofs [turnV, lb_law_greatest_1, tNm, e1, e2, j1, j2, c, ih]
  | false =>
    rw [hb] at c
    cases hq <;> (try simp at ih) <;> simp -implicitDefEqProofs [turnV, lb_law_greatest_1, tNm, e1, e2, j1, j2, c]
theorem loop_gr {q : VF} {w : W} {ss : List Sh} {k : Nat} (hw : ∀ s : Vs, alive (some w :: s) [] = true) (hq : Sq w (ss.map shP)) (hl : ∀ a, a ∈ ss → 1 ≤ a.l) (hk' : k < ss.length) (ih : ∀ i : Nat, i < k → q [w, I (i : Int)] = .ok (I (tk ss i)) [some w, some (I (i : Int))]) : ∀ (m i : Nat) (acc : Int), i + m = k → forV [] [3] (tNm 3) (lb_law_greatest_1 q) (rgF i m) [some w, some (I (k : Nat)), some (I acc), none] =
    .nx [some w, some (I (k : Nat)), some (I ((((stz ss).take k).drop i).foldl (stp (hk ss k)) acc)), none]
  | 0, i, acc, h => by rw [rgF, forV_nil rfl, List.drop_eq_nil_of_le (by rw [List.length_take]; omega)]; rfl
  | m + 1, i, acc, h => by
    have t := turn_gr (acc := acc) hq hl hk' (show i < k by omega) (ih i (by omega))
    have g := take_get hk' (show i < k by omega)
    obtain ⟨g1, g2⟩ := List.getElem?_eq_some_iff.mp g
    rw [rgF, forV_nxt (s3 := [some w, some (I (k : Nat)), some (I (stp (hk ss k) acc (hk ss i, tk ss i))), none]) rfl (on_of t) (by rfl) rfl (by rfl)]
    rw [loop_gr hw hq hl hk' ih m (i + 1) _ (by omega), List.drop_eq_getElem_cons g1, g2]; rfl
theorem v_gr {w : W} {ss : List Sh} (hq : Sq w (ss.map shP)) (hl : ∀ a, a ∈ ss → 1 ≤ a.l) (h3 : ss.length ≤ 1000) : ∀ (n k : Nat), k < n → k < ss.length → v_law_greatest n [w, I (k : Int)] = .ok (I (tk ss k)) [some w, some (I (k : Int))]
  | n + 1, k, hn, hk' => by
    rw [v_law_greatest, vrun2]
    have lp := loop_gr (q := v_law_greatest n) (fun s => rfl) hq hl hk' (fun i hi => v_gr hq hl h3 n i (by omega) (by omega)) k 0 (hk ss k).r (by omega)
    rw [List.drop_zero] at lp
    have e2 := ix_sh (w := w) hk'
    have j2 := fun s => ix_shL (j := 0) hk' s
    have q1 : ∀ s : Vs, qRgk [I (k : Int)] s = .ok (rgF 0 k) s := fun s => by
      rw [qRgk_1 (by omega) (by omega), ← rgW_F, show ((k : Int)).toNat = k by omega]; rfl
    have tv : ((stz ss).take k).foldl (stp (hk ss k)) (hk ss k).r = tk ss k := (tk_val hk').symm
    rw [tv] at lp
    generalize tk ss k = t at *
    generalize hk ss k = b at *
    generalize rgF 0 k = R at *
    (try simp at q1)
    cases hq <;> (try simp at lp) <;> simp -implicitDefEqProofs [vb_law_greatest, e2, j2, q1, lp]
/-! chains -/
def cnd (ss : List Sh) (k j : Nat) : Bool := shr (hk ss j) (hk ss k) && decide (tk ss j + (hk ss j).s = tk ss k)
def ahd (ss : List Sh) (k : Nat) : List Nat := (List.range k).filter (cnd ss k)
theorem tk_ge {ss : List Sh} {k : Nat} (h : k < ss.length) : (hk ss k).r ≤ tk ss k := by
  rw [tk_val h]; exact fold_ge _ _ _
theorem ahd_ex {ss : List Sh} {k : Nat} (h : k < ss.length) (ne : tk ss k ≠ (hk ss k).r) : ∃ j r, ahd ss k = j :: r ∧ j < k ∧ cnd ss k j = true ∧ ∀ i, i < j → cnd ss k i = false := by
  have ex : ∃ j, j < k ∧ cnd ss k j = true := by
    rcases fold_or (hk ss k) ((stz ss).take k) (hk ss k).r with e | ⟨y, hy, hs, e⟩
    · exact absurd ((tk_val h).trans e) ne
    · obtain ⟨i, hi⟩ := List.getElem?_of_mem hy
      have hik : i < k := by
        have := (List.getElem?_eq_some_iff.mp hi).1
        rw [List.length_take] at this; omega
      rw [take_get h hik] at hi
      cases hi
      refine ⟨i, hik, ?_⟩
      unfold cnd
      rw [Bool.and_eq_true]
      exact ⟨hs, decide_eq_true ((tk_val h).trans e).symm⟩
  obtain ⟨j, hj, hc⟩ := ex
  induction j using Nat.strongRecOn with
  | ind j ih =>
    by_cases g : ∃ i, i < j ∧ cnd ss k i = true
    · obtain ⟨i, a, b⟩ := g
      exact ih i a (by omega) b
    · have fr : ∀ i, i < j → cnd ss k i = false := fun i a => by
        cases b : cnd ss k i with
        | false => rfl
        | true => exact absurd ⟨i, a, b⟩ g
      obtain ⟨r, e⟩ : ∃ r, ahd ss k = j :: r := by
        obtain ⟨m, rfl⟩ : ∃ m, k = j + (m + 1) := ⟨k - j - 1, by omega⟩
        unfold ahd
        have hc' : cnd ss (j + (m + 1)) (j + 0) = true := hc
        rw [List.range_add, List.filter_append, List.range_succ_eq_map, List.map_cons, List.filter_cons, if_pos hc']
        have e1 : (List.range j).filter (cnd ss (j + (m + 1))) = [] := List.filter_eq_nil_iff.mpr fun a ha => by rw [fr a (List.mem_range.mp ha)]; simp
        rw [e1]; exact ⟨_, rfl⟩
      exact ⟨j, r, e, hj, hc, fr⟩
def chn (ss : List Sh) : Nat → Nat → List Nat
  | 0, k => [k]
  | n + 1, k => if tk ss k = (hk ss k).r then [k] else chn ss n ((ahd ss k).headD 0) ++ [k]
def sI (ss : List Sh) : List W := (sts ss).map fun k => I k
theorem ix_tk {ss : List Sh} {k : Nat} (h : k < ss.length) : L2.atI (sts ss) (k : Int) = some (tk ss k) := atI_get (tk_get h)
theorem ix_sI {j : Nat} {ss : List Sh} {k : Nat} (h : k < ss.length) (s : Vs) : ixL j [] (sI ss) (k : Int) s = .ok (.v (I (tk ss k))) s := ixL_im (by unfold sI; rw [atI_map, ix_tk h]; rfl)
theorem ahd_lc {q : VF} {w : W} {ss : List Sh} {k : Nat} (hq : Sq w (ss.map shP)) (hl : ∀ a, a ∈ ss → 1 ≤ a.l) (hk' : k < ss.length) (h3 : ss.length ≤ 1000) : lcVk [] [4] (tNm 4) (lt_law_chain_1 q) (le_law_chain_1 q) (rgF 0 k) [some w, some (I (k : Nat)), some (.lst (sI ss)), none, none] = .ok (.lst ((ahd ss k).map fun j => I ((j : Nat) : Int))) [some w, some (I (k : Nat)), some (.lst (sI ss)), none, none] := by
  have m := lcV_map (J := []) (own := [4]) (t := tNm 4) (tt := lt_law_chain_1 q) (fe := le_law_chain_1 q) (el := fun k : Nat => I ((k : Nat) : Int)) (p := cnd ss k) (out := fun j => I ((j : Nat) : Int)) (s := [some w, some (I (k : Nat)), some (.lst (sI ss)), none, none]) rfl rfl (List.range k) fun j hj => by
    have hj : j < k := by simpa using hj
    have e1 := ix_sh (w := w) (ss := ss) (k := j) (by omega)
    have e2 := ix_sh (w := w) hk'
    have j1 := fun s => ix_shL (j := 0) (ss := ss) (k := j) (by omega) s
    have j2 := fun s => ix_shL (j := 0) hk' s
    have i1 := fun s => ix_sI (j := 2) (ss := ss) (k := j) (by omega) s
    have i2 := fun s => ix_sI (j := 2) hk' s
    have c := v_lsh (a := hk ss j) (b := hk ss k) (hl _ (List.mem_of_getElem? (hk_get (by omega)))) (hl _ (List.mem_of_getElem? (hk_get hk')))
    refine ⟨[some w, some (I (k : Nat)), some (.lst (sI ss)), none, some (I ((j : Nat) : Int))], by simp [tNm], ?_, rfl, fun _ => by simp [le_law_chain_1]⟩
    unfold cnd
    generalize hk ss j = a at *
    generalize hk ss k = b at *
    generalize tk ss j = t at *
    generalize tk ss k = u at *
    generalize sI ss = D at *
    cases hb : shr a b with
    | true =>
      rw [hb] at c
      cases hq <;> simp [lt_law_chain_1, e1, e2, j1, j2, c, i1, i2]
    | false =>
      rw [hb] at c
      cases hq <;> simp [lt_law_chain_1, e1, e2, j1, j2, c]
  rw [← rgl] at m
  exact lcVk_of (by rw [rgF_len]; omega) rfl m
def nP (l : List Nat) : List P := l.map fun j => .int ((j : Nat) : Int)
theorem chn_pos (ss : List Sh) (n k : Nat) (h : tk ss k = (hk ss k).r) : chn ss (n + 1) k = [k] := by rw [chn, if_pos h]
theorem v_chn {w : W} {ss : List Sh} (hq : Sq w (ss.map shP)) (hl : ∀ a, a ∈ ss → 1 ≤ a.l) (h3 : ss.length ≤ 1000) : ∀ (n k : Nat), k < n → k < ss.length → v_law_chain n [w, I (k : Int)] = .ok (.im (.tup (nP (chn ss n k)))) [some w, some (I (k : Int))] ∧ (chn ss n k).length ≤ k + 1
  | n + 1, k, hn, hk' => by
    rw [v_law_chain, vrun2]
    have c1 := v_lst hq hl h3
    have e2 := ix_sh (w := w) hk'
    have j2 := fun s => ix_shL (j := 0) hk' s
    have i2 := fun s => ix_sI (j := 2) hk' s
    have al := ahd_lc (q := v_law_chain n) hq hl hk' h3
    have q1 : ∀ s : Vs, qRgk [I (k : Int)] s = .ok (rgF 0 k) s := fun s => by
      rw [qRgk_1 (by omega) (by omega), ← rgW_F, show ((k : Int)).toNat = k by omega]; rfl
    by_cases g : tk ss k = (hk ss k).r
    · rw [chn_pos ss n k g]
      refine ⟨?_, by simp⟩
      show _ = VR.ok (W.im (.tup [.int (k : Int)])) _
      have c1 : v_law_starts [w] = .ok (.lst (sI ss)) [some w] := c1
      generalize tk ss k = t at *
      generalize hk ss k = b at *
      generalize sI ss = D at *
      cases hq <;> (try simp at c1) <;> simp -implicitDefEqProofs [vb_law_chain, c1, e2, j2, i2, g]
    · obtain ⟨j, r, ej, hj, hc, hf⟩ := ahd_ex hk' g
      obtain ⟨ih, ihl⟩ := v_chn hq hl h3 n j (by omega) (by omega)
      have ce : chn ss (n + 1) k = chn ss n j ++ [k] := by rw [chn, if_neg g, ej]; rfl
      rw [ce]
      rw [ej] at al
      refine ⟨?_, by simp; omega⟩
      have en : nP (chn ss n j ++ [k]) = nP (chn ss n j) ++ [.int (k : Int)] := by unfold nP; simp
      have ln : (nP (chn ss n j)).length + 1 ≤ 10000000 := by unfold nP; rw [List.length_map]; omega
      rw [en]
      have c1 : v_law_starts [w] = .ok (.lst (sI ss)) [some w] := c1
      have al : lcVk [] [4] (tNm 4) (lt_law_chain_1 (v_law_chain n)) (le_law_chain_1 (v_law_chain n)) (rgF 0 k) [some w, some (I (k : Nat)), some (.lst (sI ss)), none, none] = .ok (.lst (I (j : Int) :: r.map fun j => I ((j : Nat) : Int))) [some w, some (I (k : Nat)), some (.lst (sI ss)), none, none] := al
      generalize r.map (fun j => I ((j : Nat) : Int)) = RR at *
      generalize nP (chn ss n j) = NP at *
      generalize tk ss k = t at *
      generalize hk ss k = b at *
      generalize sI ss = D at *
      generalize rgF 0 k = R at *
      (try simp at q1)
      cases hq <;> (try simp at c1 al ih) <;> simp -implicitDefEqProofs [vb_law_chain, c1, e2, j2, i2, g, q1, al, ih, ln]
theorem whN_wipe {kill : List Nat} {c : VB} {b : VS} {s s' : Vs} (h : wipeV s kill = wipeV s' kill) : ∀ n, whileNV kill c b n s = whileNV kill c b n s'
  | 0 => rfl
  | n + 1 => by simp only [whileNV, h]
theorem vWhile_wipe {kill : List Nat} {c : VB} {b : VS} {s s' : Vs} (h : wipeV s kill = wipeV s' kill) : vWhile kill c b s = vWhile kill c b s' := by
  by_cases hx : vWhile kill c b s' = .bad
  · by_cases hy : vWhile kill c b s = .bad
    · rw [hx, hy]
    · obtain ⟨n, e⟩ := vWhile_spec hy
      rw [whN_wipe h] at e
      rw [vWhile_of e]
  · obtain ⟨n, e⟩ := vWhile_spec hx
    rw [← whN_wipe h] at e
    rw [vWhile_of e]
/-! critical_chain -/
def tP (ss : List Sh) : W := .im (.tup ((sts ss).map .int))
def lK (l : List Nat) : List W := l.map fun j => I ((j : Nat) : Int)
theorem turn_cc {q : P} {ss : List Sh} {k j : Nat} {F : List W} {N : Option W} (hq : Fq q (ss.map shP)) (hk' : k < ss.length) (hj : j < k) (hF : F.length ≤ 1000) : turnV (tNm 5) lb_critical_chain_1 (I (j : Nat)) [some (.im q), N, some (tP ss), some (.lst F), some (I (k : Nat)), none] =
    (if cnd ss k j then VSR.bk [some (.im q), N, some (tP ss), some (.lst (F ++ [I (j : Nat)])), some (I (k : Nat)), some (I (j : Nat))] else .nx [some (.im q), N, some (tP ss), some (.lst F), some (I (k : Nat)), some (I (j : Nat))]) := by
  have e1 := ix_sh (w := .im q) (ss := ss) (k := j) (by omega)
  have e2 := ix_sh (w := .im q) hk'
  have c := v_is (a := hk ss j) (b := hk ss k)
  have i1 := ix_tk (ss := ss) (k := j) (by omega)
  have i2 := ix_tk hk'
  have hL : F.length ≤ 10000000 := by omega
  unfold cnd tP
  generalize sts ss = D at *
  generalize hk ss j = a at *
  generalize hk ss k = b at *
  generalize tk ss j = t at *
  generalize tk ss k = u at *
  cases hb : shr a b with
  | true =>
    rw [hb] at c
    by_cases z : t + a.s = u
    · cases hq <;> simp [turnV, lb_critical_chain_1, tNm, e1, e2, c, i1, i2, z, hL]
    · cases hq <;> simp [turnV, lb_critical_chain_1, tNm, e1, e2, c, i1, i2, z]
  | false =>
    rw [hb] at c
    cases hq <;> simp [turnV, lb_critical_chain_1, tNm, e1, e2, c]
theorem loop_cc {q : P} {ss : List Sh} {k j : Nat} {F : List W} {N : Option W} (hq : Fq q (ss.map shP)) (hk' : k < ss.length) (hj : j < k) (hF : F.length ≤ 1000) (hc : cnd ss k j = true) (hf : ∀ i, i < j → cnd ss k i = false) : ∀ (m i : Nat), i + m = k → i ≤ j → forV [] [5] (tNm 5) lb_critical_chain_1 (rgF i m) [some (.im q), N, some (tP ss), some (.lst F), some (I (k : Nat)), none] =
    .nx [some (.im q), N, some (tP ss), some (.lst (F ++ [I (j : Nat)])), some (I (k : Nat)), none]
  | 0, i, h, h2 => by omega
  | m + 1, i, h, h2 => by
    have t := turn_cc (N := N) (j := i) hq hk' (show i < k by omega) hF
    rw [rgF]
    by_cases e : i = j
    · subst e
      rw [hc, if_pos rfl] at t
      rw [forV_bk rfl t]; rfl
    · rw [hf i (by omega), if_neg (by simp)] at t
      rw [forV_nxt (s3 := [some (.im q), N, some (tP ss), some (.lst F), some (I (k : Nat)), none]) rfl (on_of t) (by rfl) rfl (by rfl)]
      exact loop_cc hq hk' hj hF hc hf m (i + 1) (by omega) (by omega)
theorem tst_cc {q : P} {ss : List Sh} {k : Nat} {F : List W} {N : Option W} (hq : Fq q (ss.map shP)) (hk' : k < ss.length) : lw_critical_chain_1 [some (.im q), N, some (tP ss), some (.lst (F ++ [I (k : Nat)])), none, none] = .ok (decide ((hk ss k).r < tk ss k)) [some (.im q), N, some (tP ss), some (.lst (F ++ [I (k : Nat)])), none, none] := by
  have e2 := ix_sh (w := .im q) hk'
  have i2 := ix_tk hk'
  unfold tP
  generalize sts ss = D at *
  generalize hk ss k = b at *
  generalize tk ss k = u at *
  cases hq <;> simp [lw_critical_chain_1, e2, i2]
theorem bd_cc {q : P} {ss : List Sh} {k j : Nat} {F : List W} {N : Option W} (hq : Fq q (ss.map shP)) (hk' : k < ss.length) (h3 : ss.length ≤ 1000) (hj : j < k) (hF : F.length + 1 ≤ 1000) (hc : cnd ss k j = true) (hf : ∀ i, i < j → cnd ss k i = false) : lb_critical_chain_2 [some (.im q), N, some (tP ss), some (.lst (F ++ [I (k : Nat)])), none, none] =
    .nx [some (.im q), N, some (tP ss), some (.lst (F ++ [I (k : Nat)] ++ [I (j : Nat)])), some (I (k : Nat)), none] := by
  have lp := loop_cc (N := N) (F := F ++ [I (k : Nat)]) hq hk' hj (by simp; omega) hc hf k 0 (by omega) (Nat.zero_le _)
  have q1 : ∀ s : Vs, qRgk [I (k : Int)] s = .ok (rgF 0 k) s := fun s => by
    rw [qRgk_1 (by omega) (by omega), ← rgW_F, show ((k : Int)).toNat = k by omega]; rfl
  have hal : ∀ s : Vs, alive (some (.im q) :: s) [] = true := fun s => rfl
  generalize rgF 0 k = R at *
  generalize tP ss = T at *
  (try simp at q1 lp)
  simp [lb_critical_chain_2, q1, lp]
theorem wh_cc {q : P} {ss : List Sh} {N : Option W} (hq : Fq q (ss.map shP)) (h3 : ss.length ≤ 500) : ∀ (n k : Nat) (F : List W), k < n → k < ss.length → F.length + k ≤ 900 → ∃ A, vWhile [4, 5] lw_critical_chain_1 lb_critical_chain_2 [some (.im q), N, some (tP ss), some (.lst (F ++ [I (k : Nat)])), none, none] =
    .nx [some (.im q), N, some (tP ss), some (.lst (F ++ lK (chn ss n k).reverse)), A, none]
  | n + 1, k, F, hn, hk', hF => by
    have t := tst_cc (N := N) (F := F) hq hk'
    by_cases g : tk ss k = (hk ss k).r
    · rw [g, decide_eq_false (by omega)] at t
      rw [chn_pos ss n k g]
      exact ⟨none, by rw [vWhile_end t]; rfl⟩
    · have ge := tk_ge hk'
      rw [decide_eq_true (by omega)] at t
      obtain ⟨j, r, ej, hj, hc, hf⟩ := ahd_ex hk' g
      have b := bd_cc (N := N) (F := F) hq hk' (by omega) hj (by omega) hc hf
      obtain ⟨A, e⟩ := wh_cc (N := N) hq h3 n j (F ++ [I (k : Nat)]) (by omega) (by omega) (by simp; omega)
      have ce : chn ss (n + 1) k = chn ss n j ++ [k] := by rw [chn, if_neg g, ej]; rfl
      refine ⟨A, ?_⟩
      rw [vWhile_step t (on_of b), vWhile_wipe (s' := [some (.im q), N, some (tP ss), some (.lst (F ++ [I (k : Nat)] ++ [I (j : Nat)])), none, none]) (by rfl), e, ce, List.reverse_append, List.append_assoc]
      rfl
theorem imL_lK (l : List Nat) : imL (lK l) = some (nP l) := by
  have := imL_map (nP l)
  unfold nP at this
  rw [List.map_map] at this
  exact this
theorem v_cc {w : W} {ss : List Sh} {k : Nat} (hq : Sq w (ss.map shP)) (h3 : ss.length ≤ 400) (hk' : k < ss.length) {n : Nat} (hn : k < n) : v_critical_chain [w, I (k : Int)] = .ok (.im (.tup (nP (chn ss n k)))) [some (.im w.frz), some (I (k : Int))] := by
  unfold v_critical_chain
  rw [vrun2]
  have c1 := v_sts hq (by omega)
  obtain ⟨A, e⟩ := wh_cc (N := some (I (k : Int))) (sq_fq hq) (by omega) n k [] hn hk' (by simp; omega)
  have il := imL_lK (chn ss n k)
  have er : (lK (chn ss n k).reverse).reverse = lK (chn ss n k) := by unfold lK; rw [← List.map_reverse, List.reverse_reverse]
  rw [List.nil_append, List.nil_append] at e
  unfold tP at e
  generalize (sts ss).map P.int = T at *
  generalize lK (chn ss n k).reverse = LR at *
  generalize lK (chn ss n k) = L at *
  generalize nP (chn ss n k) = NP at *
  generalize hPS : ss.map shP = PS at *
  have fr := frzs_map_im PS
  cases hq <;> (try simp [W.frz, fr] at e c1) <;> simp [vb_critical_chain, c1, e, er, il, W.frz, fr]
/-! free bollards -/
def enS : Nat → List Sh → List (Nat × Sh)
  | _, [] => []
  | i, x :: xs => (i, x) :: enS (i + 1) xs
def enW (a : Nat × Sh) : W := .im (.tup [.int (a.1 : Nat), shP a.2])
theorem en_enS : ∀ (xs : List Sh) (i : Nat), (enF i (xs.map shP)).map .im = (enS i xs).map enW
  | [], _ => rfl
  | x :: xs, i => by
    show W.im (.tup [.int (i : Nat), shP x]) :: (enF (i + 1) (xs.map shP)).map .im = _
    rw [en_enS xs]; rfl
theorem enS_mem : ∀ (xs : List Sh) (i : Nat) (a : Nat × Sh), a ∈ enS i xs → i ≤ a.1 ∧ xs[a.1 - i]? = some a.2
  | [], _, _, h => by cases h
  | x :: xs, i, a, h => by
    rcases List.mem_cons.mp h with rfl | h
    · exact ⟨Nat.le_refl _, by simp⟩
    · obtain ⟨h1, h2⟩ := enS_mem xs (i + 1) a h
      exact ⟨by omega, by rw [show a.1 - i = (a.1 - (i + 1)) + 1 by omega, List.getElem?_cons_succ]; exact h2⟩
theorem enS_len : ∀ (xs : List Sh) (i : Nat), (enS i xs).length = xs.length
  | [], _ => rfl
  | x :: xs, i => by rw [enS, List.length_cons, enS_len xs]; rfl
def lyc (ss : List Sh) (m : Int) (a : Nat × Sh) : Bool := decide (tk ss a.1 ≤ m ∧ m < tk ss a.1 + a.2.s)
def lyg (ss : List Sh) (m : Int) : List Sh := ((enS 0 ss).filter (lyc ss m)).map Prod.snd
theorem lyg_mem {ss : List Sh} {m : Int} : ∀ x, x ∈ lyg ss m → x ∈ ss := by
  intro x hx
  obtain ⟨a, ha, rfl⟩ := List.mem_map.mp hx
  exact List.mem_of_getElem? (enS_mem ss 0 a (List.mem_filter.mp ha).1).2
theorem lyg_len (ss : List Sh) (m : Int) : (lyg ss m).length ≤ ss.length := by
  unfold lyg; rw [List.length_map]
  have := List.length_filter_le (lyc ss m) (enS 0 ss)
  rwa [enS_len] at this
def shW (l : List Sh) : List W := l.map fun x => .im (shP x)
theorem ly_lc {q : P} {ss : List Sh} {m : Int} {A : Option W} (hq : Fq q (ss.map shP)) (h3 : ss.length ≤ 1000) : lcVk [1] [8, 4] (tTp 2 (tsCons (tNm 8) (tsCons (tNm 4) tsNil))) lt_free_bollards_1 le_free_bollards_1 ((enF 0 (ss.map shP)).map .im) [A, some (.im q), some (I m), some (tP ss), none, none, none, none, none] = .ok (.lst (shW (lyg ss m))) [A, some (.im q), some (I m), some (tP ss), none, none, none, none, none] := by
  have m1 := lcV_map (J := [1]) (own := [8, 4]) (t := tTp 2 (tsCons (tNm 8) (tsCons (tNm 4) tsNil))) (tt := lt_free_bollards_1) (fe := le_free_bollards_1) (el := enW) (p := lyc ss m) (out := fun a => .im (shP a.2)) (s := [A, some (.im q), some (I m), some (tP ss), none, none, none, none, none]) rfl rfl (enS 0 ss) fun a ha => by
    obtain ⟨_, h2⟩ := enS_mem ss 0 a ha
    have hk' : a.1 < ss.length := by have := (List.getElem?_eq_some_iff.mp h2).1; omega
    have i2 := ix_tk hk'
    refine ⟨[A, some (.im q), some (I m), some (tP ss), some (.im (shP a.2)), none, none, none, some (I (a.1 : Nat))], by unfold enW shP; simp, ?_, rfl, fun _ => ?_⟩
    · unfold lyc tP
      generalize sts ss = D at *
      generalize tk ss a.1 = t at *
      generalize ((a.1 : Nat) : Int) = x at *
      by_cases h1 : t ≤ m
      · simp [lt_free_bollards_1, i2, h1]
      · simp [lt_free_bollards_1, i2, h1]
    · simp [le_free_bollards_1, shP]
  have e : ((enS 0 ss).filter (lyc ss m)).map (fun a => W.im (shP a.2)) = shW (lyg ss m) := by unfold shW lyg; rw [List.map_map]; rfl
  rw [e, ← en_enS] at m1
  refine lcVk_of ?_ rfl m1
  rw [en_enS, List.length_map, enS_len]; omega
def prW (x : Int × Int) : W := .im (.tup [.int x.1, .int x.2])
def frW (F : Fr) : List W := F.map prW
theorem turn_sw {x : Sh} {F : Fr} {a : Int} {A B C D E : Option W} (hF : F.length ≤ 1000) : turnV (tNm 4) lb_free_bollards_1 (.im (shP x)) [A, B, C, D, none, E, some (.lst (frW F)), some (I a), none] =
    .nx [A, B, C, D, some (.im (shP x)), E, some (.lst (frW (swp (F, a) x).1)), some (I (swp (F, a) x).2), none] := by
  have hL : (frW F).length ≤ 10000000 := by unfold frW; rw [List.length_map]; omega
  have ea : frW (F ++ [(a, x.p - 1)]) = frW F ++ [prW (a, x.p - 1)] := by unfold frW; simp
  unfold swp mxx
  by_cases h : x.p > a
  · rw [if_pos h]
    show _ = VSR.nx [A, B, C, D, some (.im (shP x)), E, some (.lst (frW (F ++ [(a, x.p - 1)]))), _, none]
    rw [ea]
    unfold prW
    generalize frW F = L at *
    simp [turnV, lb_free_bollards_1, tNm, h, hL]
  · rw [if_neg h]
    generalize frW F = L at *
    simp [turnV, lb_free_bollards_1, tNm, h]
theorem loop_sw {A B C D E : Option W} : ∀ (xs : List Sh) (F : Fr) (a : Int), F.length + xs.length ≤ 1000 → forV [] [4] (tNm 4) lb_free_bollards_1 (shW xs) [A, B, C, D, none, E, some (.lst (frW F)), some (I a), none] =
    .nx [A, B, C, D, none, E, some (.lst (frW (xs.foldl swp (F, a)).1)), some (I (xs.foldl swp (F, a)).2), none] ∧ (xs.foldl swp (F, a)).1.length ≤ F.length + xs.length
  | [], F, a, h => ⟨by show forV _ _ _ _ [] _ = _; rw [forV_nil rfl]; rfl, by simp⟩
  | x :: xs, F, a, h => by
    rw [List.length_cons] at h
    have t := turn_sw (x := x) (F := F) (a := a) (A := A) (B := B) (C := C) (D := D) (E := E) (by omega)
    have hl : (swp (F, a) x).1.length ≤ F.length + 1 := by unfold swp; split <;> simp
    obtain ⟨ih, il⟩ := loop_sw (A := A) (B := B) (C := C) (D := D) (E := E) xs (swp (F, a) x).1 (swp (F, a) x).2 (by omega)
    have il' : (xs.foldl swp (swp (F, a) x)).1.length ≤ (swp (F, a) x).1.length + xs.length := il
    refine ⟨?_, by rw [List.foldl_cons, List.length_cons]; omega⟩
    show forV _ _ _ _ (.im (shP x) :: shW xs) _ = _
    rw [forV_nxt (s3 := [A, B, C, D, none, E, some (.lst (frW (swp (F, a) x).1)), some (I (swp (F, a) x).2), none]) rfl (on_of t) (by rfl) rfl (by rfl), ih]
    rfl
/-! sorted ships -/
def rowI (x : Sh) : List Int := [x.p, x.l, x.r, x.s]
def srt (L : List Sh) : List Sh := L.mergeSort fun a b => decide (rowI a ≤ rowI b)
theorem srt_map (L : List Sh) : sortR (L.map rowI) = (srt L).map rowI := by
  unfold sortR srt
  exact (List.map_mergeSort (f := rowI) (fun a _ b _ => rfl)).symm
theorem srt_perm (L : List Sh) : (srt L).Perm L := List.mergeSort_perm _ _
theorem srt_pw (L : List Sh) : (srt L).Pairwise fun a b => a.p ≤ b.p := by
  have := sortR_pw (L.map rowI)
  rw [srt_map] at this
  refine (List.pairwise_map.mp this).imp fun {a b} h => ?_
  refine Int.not_lt.mp fun g => ?_
  refine List.not_lt.mpr h ?_
  show rowI b < rowI a
  unfold rowI
  exact List.Lex.rel g
theorem shW_rows (L : List Sh) : shW L = (L.map rowI).map fun r => .im (.tup (r.map .int)) := by
  unfold shW; rw [List.map_map]; rfl
theorem srt_k (L : List Sh) : kSrtX [.lst (shW L)] = some (.lst (shW (srt L))) := by
  rw [shW_rows, kSrtX_rows (rs := L.map rowI) (fun r hr => by obtain ⟨x, _, rfl⟩ := List.mem_map.mp hr; simp [rowI]), srt_map, ← shW_rows]
def frP (F : Fr) : List P := F.map fun x => .tup [.int x.1, .int x.2]
theorem imL_frW (F : Fr) : imL (frW F) = some (frP F) := by
  have := imL_map (frP F)
  unfold frP at this
  rw [List.map_map] at this
  exact this
theorem imL_shW (F : List Sh) : imL (shW F) = some (F.map shP) := by
  have := imL_map (F.map shP)
  rw [List.map_map] at this
  exact this
theorem v_fb {w : W} {ss : List Sh} {B m : Int} (hq : Sq w (ss.map shP)) (h3 : ss.length ≤ 400) : v_free_bollards [I B, w, I m] = .ok (.im (.tup (frP (swe B ((srt (lyg ss m)).foldl swp ([], 0)))))) [some (I B), some (.im w.frz), some (I m)] := by
  unfold v_free_bollards
  rw [vrun3]
  have c1 := v_sts hq (by omega)
  have ll := lyg_len ss m
  have al := ly_lc (m := m) (A := some (I B)) (sq_fq hq) (by omega)
  have sk := srt_k (lyg ss m)
  have ls : (srt (lyg ss m)).length ≤ 400 := by rw [(srt_perm _).length_eq]; omega
  obtain ⟨lp, lpl⟩ := loop_sw (A := some (I B)) (B := some (.im w.frz)) (C := some (I m)) (D := some (tP ss)) (E := some (.lst (shW (lyg ss m)))) (srt (lyg ss m)) [] 0 (by simp; omega)
  have is1 := imL_shW (srt (lyg ss m))
  generalize (srt (lyg ss m)).foldl swp ([], 0) = R at *
  obtain ⟨F, a⟩ := R
  have hL : (frW F).length ≤ 10000000 := by unfold frW; rw [List.length_map]; simp at lpl; omega
  rw [show frW [] = [] from rfl] at lp
  have ei := imL_frW (swe B (F, a))
  unfold swe at *
  have ea : frW (F ++ [(a, B - 1)]) = frW F ++ [prW (a, B - 1)] := by unfold frW; simp
  rw [← enP_F] at al
  unfold tP at *
  simp only at *
  generalize (sts ss).map P.int = T at *
  generalize hPS : ss.map shP = PS at *
  have fr := frzs_map_im PS
  have ifr := imL_frW F
  by_cases h : a < B
  · rw [if_pos h] at *
    rw [ea] at ei
    generalize frP (F ++ [(a, B - 1)]) = FP at *
    unfold prW at *
    clear ifr
    generalize frW F = FW at *
    generalize (srt (lyg ss m)).map shP = SP at *
    generalize shW (srt (lyg ss m)) = SW at *
    generalize shW (lyg ss m) = LW at *
    cases hq <;> (try simp [W.frz, fr] at c1 al lp) <;> simp -implicitDefEqProofs [vb_free_bollards, c1, al, sk, is1, lp, h, hL, ei, W.frz, fr]
  · rw [if_neg h] at *
    generalize frP F = FP at *
    generalize frW F = FW at *
    generalize (srt (lyg ss m)).map shP = SP at *
    generalize shW (srt (lyg ss m)) = SW at *
    generalize shW (lyg ss m) = LW at *
    cases hq <;> (try simp [W.frz, fr] at c1 al lp) <;> simp -implicitDefEqProofs [vb_free_bollards, c1, al, sk, is1, lp, h, hL, ei, W.frz, fr]
/-! the law's free bollards -/
def lies (x : Sh) (t b m : Int) : Bool := decide (x.p ≤ b ∧ b < x.p + x.l) && decide (t ≤ m ∧ m < t + x.s)
theorem turn_f1 {w : W} {ss : List Sh} {k : Nat} {A F : Option W} {m b : Int} {fr : Bool} (hq : Sq w (ss.map shP)) (hk' : k < ss.length) : turnV (tNm 7) lb_law_free_1 (I (k : Nat)) [A, some w, some (I m), some (.lst (sI ss)), F, some (I b), some (.im (.bl fr)), none] =
    .nx [A, some w, some (I m), some (.lst (sI ss)), F, some (I b), some (.im (.bl (fr && !lies (hk ss k) (tk ss k) b m))), some (I (k : Nat))] := by
  have e1 := ix_sh (w := w) hk'
  have j1 := fun s => ix_shL (j := 1) hk' s
  have i1 := fun s => ix_sI (j := 3) hk' s
  unfold lies
  generalize hk ss k = a at *
  generalize tk ss k = t at *
  generalize sI ss = D at *
  by_cases h1 : a.p ≤ b
  · by_cases h2 : b < a.p + a.l
    · by_cases h3 : t ≤ m
      · by_cases h4 : m < t + a.s
        · cases hq <;> simp [turnV, tNm, lb_law_free_1, e1, j1, i1, h1, h2, h3, h4]
        · cases hq <;> simp [turnV, tNm, lb_law_free_1, e1, j1, i1, h1, h2, h3, h4]
      · cases hq <;> simp [turnV, tNm, lb_law_free_1, e1, j1, i1, h1, h2, h3]
    · cases hq <;> simp [turnV, tNm, lb_law_free_1, e1, j1, i1, h1, h2]
  · cases hq <;> simp [turnV, tNm, lb_law_free_1, e1, j1, i1, h1]
theorem loop_f1 {w : W} {ss : List Sh} {A F : Option W} {m b : Int} (hq : Sq w (ss.map shP)) : ∀ (n k : Nat) (fr : Bool), k + n = ss.length → forV [] [7] (tNm 7) lb_law_free_1 (rgF k n) [A, some w, some (I m), some (.lst (sI ss)), F, some (I b), some (.im (.bl fr)), none] =
    .nx [A, some w, some (I m), some (.lst (sI ss)), F, some (I b), some (.im (.bl (fr && !(enS k (ss.drop k)).any fun a => lies a.2 (tk ss a.1) b m))), none]
  | 0, k, fr, h => by
    rw [rgF, forV_nil rfl, List.drop_eq_nil_of_le (by omega)]
    simp [wipeV, enS]
  | n + 1, k, fr, h => by
    have hk' : k < ss.length := by omega
    have t := turn_f1 (A := A) (F := F) (m := m) (b := b) (fr := fr) hq hk'
    rw [rgF, forV_nxt (s3 := [A, some w, some (I m), some (.lst (sI ss)), F, some (I b), some (.im (.bl (fr && !lies (hk ss k) (tk ss k) b m))), none]) rfl (on_of t) (by rfl) rfl (by rfl)]
    rw [loop_f1 hq n (k + 1) _ (by omega)]
    have e : ss.drop k = hk ss k :: ss.drop (k + 1) := by
      rw [List.drop_eq_getElem_cons hk']
      have := hk_get hk'
      rw [List.getElem?_eq_getElem hk'] at this
      injection this with this
      rw [this]
    rw [e, enS, List.any_cons, Bool.not_or, Bool.and_assoc]
theorem cov_ly (ss : List Sh) (m b : Int) : ((enS 0 ss).any fun a => lies a.2 (tk ss a.1) b m) = cov (lyg ss m) b := by
  unfold cov lyg
  rw [List.any_map, List.any_filter]
  congr 1
  funext a
  unfold lies lyc
  rw [Bool.and_comm]; rfl
theorem turn_f2 {w : W} {ss : List Sh} {F : Fr} {A : Option W} {m b : Int} (hq : Sq w (ss.map shP)) (h3 : ss.length ≤ 400) (hF : F.length ≤ 1000) : turnV (tNm 5) lb_law_free_2 (I b) [A, some w, some (I m), some (.lst (sI ss)), some (.lst (frW F)), none, none, none] =
    .nx [A, some w, some (I m), some (.lst (sI ss)), some (.lst (frW (if !cov (lyg ss m) b then adn F b else F))), some (I b), some (.im (.bl (!cov (lyg ss m) b))), none] := by
  have lp := loop_f1 (A := A) (F := some (.lst (frW F))) (m := m) (b := b) hq ss.length 0 true (by omega)
  rw [List.drop_zero, cov_ly, Bool.true_and] at lp
  have q1 : ∀ s : Vs, qRgk [I (ss.length : Int)] s = .ok (rgF 0 ss.length) s := fun s => by
    rw [qRgk_1 (by omega) (by omega), ← rgW_F, show ((ss.length : Int)).toNat = ss.length by omega]; rfl
  have hL : (frW F).length ≤ 10000000 := by unfold frW; rw [List.length_map]; omega
  generalize rgF 0 ss.length = R at *
  generalize sI ss = D at *
  (try simp at q1)
  cases hb : (!cov (lyg ss m) b) with
  | false =>
    rw [hb] at lp
    cases hq <;> (try simp at lp) <;> simp [turnV, tNm, lb_law_free_2, q1, lp]
  | true =>
    rw [hb] at lp
    rw [if_pos rfl]
    rcases List.eq_nil_or_concat F with rfl | ⟨G, ⟨a, e⟩, rfl⟩
    · rw [adn_nil]
      rw [show frW [] = [] from rfl] at *
      rw [show frW [(b, b)] = [prW (b, b)] from rfl]
      unfold prW
      cases hq <;> (try simp at lp) <;> simp [turnV, tNm, lb_law_free_2, q1, lp]
    · rw [List.concat_eq_append] at *
      rw [adn_snoc]
      have eg : frW (G ++ [(a, e)]) = frW G ++ [prW (a, e)] := by unfold frW; simp
      rw [eg] at lp hL
      by_cases z : e = b - 1
      · rw [if_pos z]
        have eg2 : frW (G ++ [(a, b)]) = frW G ++ [prW (a, b)] := by unfold frW; simp
        rw [eg2, eg]
        clear eg eg2
        unfold prW at *
        generalize frW G = L at *
        subst z
        cases hq <;> (try simp at lp) <;> simp [turnV, tNm, lb_law_free_2, q1, lp]
      · rw [if_neg z]
        have eg2 : frW (G ++ [(a, e)] ++ [(b, b)]) = frW G ++ [prW (a, e)] ++ [prW (b, b)] := by unfold frW; simp
        rw [eg2, eg]
        clear eg eg2
        unfold prW at *
        generalize frW G = L at *
        cases hq <;> (try simp at lp hL) <;> simp [turnV, tNm, lb_law_free_2, q1, lp, z, hL]
theorem loop_f2 {w : W} {ss : List Sh} {A : Option W} {m : Int} (hw : ∀ s : Vs, alive s [] = true) (hq : Sq w (ss.map shP)) (h3 : ss.length ≤ 400) : ∀ (n i : Nat), i + n ≤ 1000 → (rn (fun b => !cov (lyg ss m) b) i).length ≤ i → forV [] [5, 6, 7] (tNm 5) lb_law_free_2 (rgF i n) [A, some w, some (I m), some (.lst (sI ss)), some (.lst (frW (rn (fun b => !cov (lyg ss m) b) i))), none, none, none] =
    .nx [A, some w, some (I m), some (.lst (sI ss)), some (.lst (frW (rn (fun b => !cov (lyg ss m) b) (i + n)))), none, none, none]
  | 0, i, h, hl => by rw [rgF, forV_nil rfl]; rfl
  | n + 1, i, h, hl => by
    have t := turn_f2 (A := A) (m := m) (b := ((i : Nat) : Int)) (F := rn (fun b => !cov (lyg ss m) b) i) hq h3 (by omega)
    have e : (if !cov (lyg ss m) ((i : Nat) : Int) then adn (rn (fun b => !cov (lyg ss m) b) i) ((i : Nat) : Int) else rn (fun b => !cov (lyg ss m) b) i) = rn (fun b => !cov (lyg ss m) b) (i + 1) := rfl
    rw [e] at t
    have hl2 : (rn (fun b => !cov (lyg ss m) b) (i + 1)).length ≤ i + 1 := by
      rw [← e]
      generalize rn (fun b => !cov (lyg ss m) b) i = F at *
      split
      · rcases List.eq_nil_or_concat F with rfl | ⟨G, ⟨a, e⟩, rfl⟩
        · rw [adn_nil]; simp
        · rw [List.concat_eq_append] at *
          rw [adn_snoc]; split <;> simp at * <;> omega
      · omega
    rw [rgF, forV_nxt (s3 := [A, some w, some (I m), some (.lst (sI ss)), some (.lst (frW (rn (fun b => !cov (lyg ss m) b) (i + 1)))), none, none, none]) rfl (on_of t) (by rfl) rfl (by rfl)]
    rw [loop_f2 hw hq h3 n (i + 1) (by omega) hl2, show i + 1 + n = i + (n + 1) by omega]
theorem v_lf {w : W} {ss : List Sh} {B : Nat} {m : Int} (hq : Sq w (ss.map shP)) (hl : ∀ a, a ∈ ss → 1 ≤ a.l) (h3 : ss.length ≤ 400) (hB : B ≤ 400) : v_law_free [I (B : Int), w, I m] = .ok (.im (.tup (frP (rn (fun b => !cov (lyg ss m) b) B)))) [some (I (B : Int)), some w, some (I m)] := by
  unfold v_law_free
  rw [vrun3]
  have c1 : v_law_starts [w] = .ok (.lst (sI ss)) [some w] := v_lst hq hl (by omega)
  have lp := loop_f2 (A := some (I (B : Int))) (m := m) (ss := ss) (fun s => rfl) hq h3 B 0 (by omega) (Nat.le_refl _)
  rw [show frW (rn (fun b => !cov (lyg ss m) b) 0) = [] from rfl, Nat.zero_add] at lp
  have q1 : ∀ s : Vs, qRgk [I (B : Int)] s = .ok (rgF 0 B) s := fun s => by
    rw [qRgk_1 (by omega) (by omega), ← rgW_F, show ((B : Int)).toNat = B by omega]; rfl
  have ei := imL_frW (rn (fun b => !cov (lyg ss m) b) B)
  generalize rn (fun b => !cov (lyg ss m) b) B = F at *
  generalize frW F = FW at *
  generalize frP F = FP at *
  generalize rgF 0 B = R at *
  generalize sI ss = D at *
  (try simp at q1)
  cases hq <;> (try simp at c1 lp) <;> simp [vb_law_free, c1, q1, lp, ei]
def inQ (B : Int) (x : Sh) : Prop := 0 ≤ x.p ∧ 1 ≤ x.l ∧ x.p + x.l ≤ B
theorem free_eq {ss : List Sh} {B : Nat} (m : Int) (h : ∀ x, x ∈ ss → inQ B x) : swe B ((srt (lyg ss m)).foldl swp ([], 0)) = rn (fun b => !cov (lyg ss m) b) B := by
  have sw := sweep (f := fun b => !cov (lyg ss m) b) (B := B) (srt (lyg ss m)) 0 (fun x hx => h x (lyg_mem x ((srt_perm _).mem_iff.mp hx))) (srt_pw _) (Nat.zero_le _) (.inl rfl) (fun b _ => by
    congr 1
    apply Bool.eq_iff_iff.mpr
    unfold cov
    rw [List.any_eq_true, List.any_eq_true]
    exact ⟨fun ⟨x, hx, e⟩ => ⟨x, (srt_perm _).mem_iff.mpr hx, e⟩, fun ⟨x, hx, e⟩ => ⟨x, (srt_perm _).mem_iff.mp hx, e⟩⟩)
  exact sw
/-! ## the pool and its draws -/
structure Pool where
  cells : List Int
  a : Int
  b : Int
  c : Int
  s0 : ∀ x ∈ cells, 0 ≤ x
  s1 : cells.length ≤ 1000
  a0 : 0 ≤ a
  b0 : 0 ≤ b
  c0 : 0 ≤ c
  c1 : c < 2147483647
def pw (p : Pool) : List W := [.lst (p.cells.map fun x => .im (.int x)), .im (.int p.a), .im (.int p.b), .im (.int p.c)]
def PW (p : Pool) : W := .lst (pw p)
def Pool.cell (p : Pool) : Int := if p.a < p.cells.length then p.cells.getD p.a.toNat 0 else 0
theorem Pool.cell0 (p : Pool) : 0 ≤ p.cell := by
  unfold Pool.cell
  split
  · rw [List.getD_eq_getElem?_getD]
    cases e : p.cells[p.a.toNat]? with
    | none => exact Int.le_refl 0
    | some x => exact p.s0 x (List.mem_of_getElem? e)
  · exact Int.le_refl 0
def Pool.shift (p : Pool) (b' : Int) (h : 0 ≤ b') : Pool := { p with b := b', b0 := h }
def draw (p : Pool) (m : Int) : Int × Pool :=
  if h0 : 0 < m then
    if 0 < p.b then (p.b % m, p.shift (p.b / m) (Int.ediv_nonneg p.b0 (Int.le_of_lt h0)))
    else if 1000000000000000000 ≤ p.cell then (p.cell / 2 % m, { p with a := p.a + 1, b := p.cell / 2 / m, a0 := by have := p.a0; omega, b0 := Int.ediv_nonneg (Int.ediv_nonneg p.cell0 (by omega)) (Int.le_of_lt h0) })
    else let c' := (p.c * 48271 + p.cell * 69621 + (p.a + 1) * 613) % 2147483647
      ((c' * c' + c' * 7919 + 104729) % 1000000007 / 3 % m, { p with a := p.a + 1, b := 0, c := c', a0 := by have := p.a0; omega, b0 := by omega, c0 := Int.emod_nonneg _ (by omega), c1 := Int.emod_lt_of_pos _ (by omega) })
  else (0, p)
theorem draw_lt {p : Pool} {m : Int} (h : 0 < m) : 0 ≤ (draw p m).1 ∧ (draw p m).1 < m := by
  unfold draw
  rw [dif_pos h]
  split
  · exact ⟨Int.emod_nonneg _ (by omega), Int.emod_lt_of_pos _ h⟩
  · split
    · exact ⟨Int.emod_nonneg _ (by omega), Int.emod_lt_of_pos _ h⟩
    · exact ⟨Int.emod_nonneg _ (by omega), Int.emod_lt_of_pos _ h⟩
@[simp] theorem hVarK_PW (p : Pool) (i : Nat) (s : Vs) : hVarK (some (some (PW p))) i s = .ok (.at i []) s := rfl
theorem v_take1 {p : Pool} {m : Int} (hb : 0 < p.b) (m0 : 0 < m) (m1 : m < 1073741824) (n : Nat) :
    v_law_take (n + 1) [PW p, .im (.int m)] = .ok (.im (.int (p.b % m))) [some (PW (p.shift (p.b / m) (Int.ediv_nonneg p.b0 (Int.le_of_lt m0)))), some (.im (.int m))] := by
  have hm : m ≠ 0 := by omega
  have cd : cDiv p.b m := .inl ⟨hm, by omega, m1⟩
  unfold v_law_take
  rw [vrun2]
  simp [vb_law_take, PW, pw, hb, hm, cd, Pool.shift, Int.fdiv_eq_ediv_of_nonneg p.b (Int.le_of_lt m0), Int.fmod_eq_emod_of_nonneg p.b (Int.le_of_lt m0)]
theorem v_take {p : Pool} {m : Int} (m0 : 0 < m) (m1 : m < 1073741824) (n : Nat) :
    v_law_take (n + 2) [PW p, .im (.int m)] = .ok (.im (.int (draw p m).1)) [some (PW (draw p m).2), some (.im (.int m))] := by
  unfold draw
  rw [dif_pos m0]
  by_cases hb : 0 < p.b
  · rw [if_pos hb]; exact v_take1 hb m0 m1 (n + 1)
  · rw [if_neg hb]
    have hm : m ≠ 0 := by omega
    have c0 := p.cell0
    have hcell : ∀ {s : Vs}, p.a < p.cells.length → ixH (.at 0 [0]) (.v (.im (.int p.a))) (some (.lst [.lst (p.cells.map fun x => .im (.int x)), .im (.int p.a), .im (.int p.b), .im (.int p.c)]) :: s) = .ok (.v (.im (.int p.cell))) (some (.lst [.lst (p.cells.map fun x => .im (.int x)), .im (.int p.a), .im (.int p.b), .im (.int p.c)]) :: s) := fun {s} ha => by
      have a0 := p.a0
      have la : p.a.toNat < p.cells.length := by omega
      simp only [ixH_atp, rd_at1, List.getElem?_cons_zero, getP_lst, getP_nil]
      refine ixL_im ?_
      unfold Pool.cell
      rw [if_pos ha, atI_map]
      unfold L2.atI
      rw [ixN_in a0 ha]
      simp [List.getElem?_eq_getElem la]
    have cd2 : p.cell.fdiv 2 = p.cell / 2 := Int.fdiv_eq_ediv_of_nonneg _ (by omega)
    have l0 : p.a < p.cells.length ∨ ¬ p.a < p.cells.length := Decidable.em _
    have x0 : ¬ p.a < p.cells.length → p.cell = 0 := fun h => by unfold Pool.cell; rw [if_neg h]
    by_cases big : 1000000000000000000 ≤ p.cell
    · rw [if_pos big]
      have hb2 : 0 < p.cell / 2 := by omega
      have ha : p.a < p.cells.length := Decidable.byContradiction fun h => by have := x0 h; omega
      let p2 : Pool := { p with a := p.a + 1, b := p.cell / 2, a0 := by have := p.a0; omega, b0 := by omega }
      have t1 := v_take1 (p := p2) (m := m) hb2 m0 m1 n
      have e2 : PW p2 = .lst [.lst (p.cells.map fun x => .im (.int x)), .im (.int (p.a + 1)), .im (.int (p.cell / 2)), .im (.int p.c)] := rfl
      rw [e2] at t1
      unfold v_law_take
      rw [vrun2]
      simp [vb_law_take, PW, pw, hb, ha, hcell ha, big, cd2, t1, -ixH_atp]
      exact ⟨rfl, rfl, rfl, rfl, rfl⟩
    · rw [if_neg big]
      have cd3 : ∀ y z : Int, cMul y z → True := fun _ _ _ => trivial
      have e1 : ∀ y : Int, Int.fmod y 2147483647 = y % 2147483647 := fun y => Int.fmod_eq_emod_of_nonneg y (by omega)
      have e2 : ∀ y : Int, Int.fmod y 1000000007 = y % 1000000007 := fun y => Int.fmod_eq_emod_of_nonneg y (by omega)
      have e3 : ∀ y : Int, Int.fmod y m = y % m := fun y => Int.fmod_eq_emod_of_nonneg y (by omega)
      have e4 : ∀ y : Int, Int.fdiv y 3 = y / 3 := fun y => Int.fdiv_eq_ediv_of_nonneg y (by omega)
      have b0 : p.b = 0 := by have := p.b0; omega
      have cc : ∀ y : Int, cMul (y % 2147483647) (y % 2147483647) := fun y => .inl ⟨by have := Int.emod_nonneg y (b := 2147483647) (by omega); omega, by have := Int.emod_lt_of_pos y (b := 2147483647) (by omega); omega⟩
      unfold v_law_take
      rw [vrun2]
      rcases l0 with ha | ha
      · simp [vb_law_take, PW, pw, hb, ha, hcell ha, big, hm, e1, e2, e3, e4, cc, -ixH_atp]
        simp [b0]
      · have := x0 ha
        simp [this, vb_law_take, PW, pw, hb, ha, hm, e1, e2, e3, e4, cc]
        simp [b0]
theorem v_takeE (p : Pool) {m : Int} (n : Nat) (m0 : 0 < m) (m1 : m < 1073741824) : ∃ d p', v_law_take (n + 2) [PW p, .im (.int m)] = .ok (.im (.int d)) [some (PW p'), some (.im (.int m))] ∧ 0 ≤ d ∧ d < m :=
  ⟨_, _, v_take m0 m1 n, (draw_lt m0).1, (draw_lt m0).2⟩
/-! ## the pool, made -/
def fold0 (x : Int) : Int := if 0 ≤ x then 2 * x else -2 * x - 1
def pool0 (ns : List Int) (h : ns.length ≤ 63) : Pool := ⟨ns.map fold0, 0, 0, 17, fun x hx => by
  obtain ⟨y, _, rfl⟩ := List.mem_map.mp hx
  unfold fold0; split <;> omega, by simp; omega, by omega, by omega, by omega, by omega⟩
theorem v_pool {ns : List Int} (h : ns.length ≤ 63) : v_law_pool [.im (.fr (ns.map .int))] = .ok (PW (pool0 ns h)) [some (.im (.fr (ns.map .int)))] := by
  unfold v_law_pool
  rw [vrun1]
  have e := lcV_all (J := [0]) (own := [1]) (t := tNm 1) (fe := le_law_pool_1)
    (el := fun x : Int => .im (.int x)) (out := fun x => .im (.int (fold0 x))) (s := [some (.im (.fr (ns.map .int))), none]) ns (by simp) (by simp) fun x hx => ⟨_, rfl, by simp, by
      by_cases c : 0 ≤ x <;> simp [c, fold0, le_law_pool_1]⟩
  have e2 : ((ns.map .int).map W.im) = ns.map fun x => .im (.int x) := by simp
  simp [vb_law_pool]
  rw [lcVk_of (by simp; omega) (by simp) e]
  simp [PW, pw, pool0]
/-! ## the same -/
theorem v_isint (b : Int) : v_law_is_integer [.im (.int b)] = .ok (.im (.bl true)) [some (.im (.int b))] := by
  unfold v_law_is_integer
  rw [vrun1]
  simp [vb_law_is_integer]
theorem v_same : ∀ (n : Nat) (p : P) (w1 w2 : W), Fine n p → Rep w1 p → Rep w2 p → v_law_same n [w1, w2] = .ok (.im (.bl true)) [some w1, some w2]
  | 0, p, w1, w2, f, _, _ => f.elim
  | n + 1, p, w1, w2, f, r1, r2 => by
    have deep : ∀ {ps : List P} {w1 w2 : W}, Sq w1 ps → Sq w2 ps → ps.length ≤ 10000000 → (∀ q, q ∈ ps → Fine n q) → lcVk [] [2] (tNm 2) qYes (le_law_same_1 (v_law_same n)) (rgW 0 ps.length) [some w1, some w2, none] = .ok (.lst ((List.range ps.length).map fun _ => .im (.bl true))) [some w1, some w2, none] := fun {ps w1 w2} q1 q2 l ff => by
      refine lcVk_of (by rw [rgW_len]; exact l) (by simp) ?_
      unfold rgW
      refine lcV_all (List.range ps.length) rfl rfl fun k hk => ⟨_, rfl, rfl, ?_⟩
      have hk' : k < ps.length := List.mem_range.mp hk
      have ex : L2.atI ps ((0 : Int) + (k : Nat)) = some ps[k] := by rw [Int.zero_add]; exact atI_get (List.getElem?_eq_getElem hk')
      have h1 := q1.ix (i := 0) (s := [some w1, some w2, some (.im (.int ((0 : Int) + (k : Nat))))]) rfl (g := hVar 2) rfl ex
      have h2 := q2.ix (i := 1) (s := [some w1, some w2, some (.im (.int ((0 : Int) + (k : Nat))))]) rfl (g := hVar 2) rfl ex
      have h3 := v_same n ps[k] (.im ps[k]) (.im ps[k]) (ff _ (List.getElem_mem hk')) (.im _) (.im _)
      show le_law_same_1 _ [some w1, some w2, some (.im (.int ((0 : Int) + (k : Nat))))] = _
      unfold le_law_same_1
      rw [qCall_run, kCons_run, h1]
      simp only [vbind_ok, kC1_run, kCons_run, h2, kNil_run, kC2_run, qCallk_run, takeH_v, takeH_nil, h3, callEnd_ok, putBack_none, putBack_nil]
      rfl
    have e12 : le_law_same_2 (v_law_same n) = le_law_same_1 (v_law_same n) := rfl
    have fin : ∀ {ps : List P}, ps.length ≤ 10000000 → (ps.length : Int) < 4611686018427387904 ∧ (-4611686018427387904 : Int) ≤ ps.length := fun h => by omega
    have at2 : ∀ m : Nat, ((List.range m).map fun _ => true).all id = true := fun m => by simp
    rcases r1 with rfl | ⟨ps, rfl, rfl⟩
    · rcases r2 with rfl | ⟨ps, rfl, rfl⟩
      · unfold v_law_same
        rw [vrun2]
        cases p with
        | non => simp [vb_law_same]
        | bl b => simp [vb_law_same]
        | int b => simp [vb_law_same, e12, v_isint]
        | str b => simp [vb_law_same]
        | fr ps => exact f.elim
        | fin c ns ps => exact f.elim
        | tup ps =>
          obtain ⟨l, ff⟩ := f
          have d := deep (.tup ps) (.tup ps) l ff
          simp [vb_law_same, e12, qRgk_1 (fin l).2 (fin l).1, d]
        | fz ps =>
          obtain ⟨l, ff⟩ := f
          have d := deep (.fz ps) (.fz ps) l ff
          simp [vb_law_same, e12, qRgk_1 (fin l).2 (fin l).1, d]
      · unfold v_law_same
        rw [vrun2]
        obtain ⟨l, ff⟩ := f
        have d := deep (.fz ps) (.lst ps) l ff
        simp [vb_law_same, e12, qRgk_1 (fin l).2 (fin l).1, d]
    · rcases r2 with rfl | ⟨ps', e, rfl⟩
      · unfold v_law_same
        rw [vrun2]
        obtain ⟨l, ff⟩ := f
        have d := deep (.lst ps) (.fz ps) l ff
        simp [vb_law_same, e12, qRgk_1 (fin l).2 (fin l).1, d]
      · cases e
        unfold v_law_same
        rw [vrun2]
        obtain ⟨l, ff⟩ := f
        have d := deep (.lst ps) (.lst ps) l ff
        simp [vb_law_same, e12, qRgk_1 (fin l).2 (fin l).1, d]
theorem sameI (p : P) (h : Fine 8 p) : v_law_same 8 [.im p, .im p] = .ok (.im (.bl true)) [some (.im p), some (.im p)] := v_same 8 p (.im p) (.im p) h (.inl rfl) (.inl rfl)
theorem fine_r (l : List Int) (h : l.length ≤ 1000) : Fine 8 (.tup (l.map .int)) := by
  refine (fine_tup 7 _).mpr ⟨by rw [List.length_map]; omega, fun q hq => ?_⟩
  obtain ⟨m, _, rfl⟩ := List.mem_map.mp hq
  simp
theorem fine_n (l : List Nat) (h : l.length ≤ 1000) : Fine 8 (.tup (nP l)) := by
  refine (fine_tup 7 _).mpr ⟨by unfold nP; rw [List.length_map]; omega, fun q hq => ?_⟩
  obtain ⟨m, _, rfl⟩ := List.mem_map.mp hq
  simp
theorem fine_f (l : Fr) (h : l.length ≤ 1000) : Fine 8 (.tup (frP l)) := by
  refine (fine_tup 7 _).mpr ⟨by unfold frP; rw [List.length_map]; omega, fun q hq => ?_⟩
  obtain ⟨m, _, rfl⟩ := List.mem_map.mp hq
  refine (fine_tup 6 _).mpr ⟨by simp, fun q hq => ?_⟩
  simp only [List.mem_cons, List.not_mem_nil, or_false] at hq
  rcases hq with rfl | rfl <;> simp
/-! ships drawn -/
theorem turn_sh (p : Pool) {B : Int} {A : Option W} {S : List Sh} {t : W} (b1 : 1 ≤ B) (b2 : B ≤ 40) (hS : S.length ≤ 1000) : ∃ (x : Sh) (p' : Pool) (u v : Option W), turnV (tNm 4) lb_law_ships_1 t [some (PW p), some (I B), A, some (.lst (shW S)), none, none, none] = .nx [some (PW p'), some (I B), A, some (.lst (shW (S ++ [x]))), some t, u, v] ∧ inQ B x := by
  obtain ⟨t1, p1, e1, a1, c1⟩ := v_takeE p (m := B) 1 (by omega) (by omega)
  obtain ⟨t2, p2, e2, a2, c2⟩ := v_takeE p1 (m := B - t1) 1 (by omega) (by omega)
  obtain ⟨t3, p3, e3, a3, c3⟩ := v_takeE p2 (m := 3) 1 (by omega) (by omega)
  obtain ⟨mm, em, m0, m1⟩ : ∃ m : Int, L2.atI [P.int 4, .int 25, .int 1000] t3 = some (.int m) ∧ 1 ≤ m ∧ m ≤ 1000 := by
    rcases (by omega : t3 = 0 ∨ t3 = 1 ∨ t3 = 2) with rfl | rfl | rfl
    · exact ⟨4, by simp, by omega, by omega⟩
    · exact ⟨25, by simp, by omega, by omega⟩
    · exact ⟨1000, by simp, by omega, by omega⟩
  obtain ⟨t4, p4, e4, a4, c4⟩ := v_takeE p3 (m := mm) 1 (by omega) (by omega)
  obtain ⟨t5, p5, e5, a5, c5⟩ := v_takeE p4 (m := 12) 1 (by omega) (by omega)
  have hL : (shW S).length ≤ 10000000 := by unfold shW; rw [List.length_map]; omega
  refine ⟨⟨t1, 1 + t2, t4, 1 + t5⟩, p5, some (I t1), some (I (1 + t2)), ?_, by refine ⟨?_, ?_, ?_⟩ <;> simp <;> omega⟩
  have ea : shW (S ++ [⟨t1, 1 + t2, t4, 1 + t5⟩]) = shW S ++ [.im (shP ⟨t1, 1 + t2, t4, 1 + t5⟩)] := by unfold shW; simp
  rw [ea]
  unfold shP
  generalize shW S = L at *
  simp at e1 e2 e3 e4 e5
  simp [turnV, tNm, lb_law_ships_1, e1, e2, e3, em, e4, e5, hL]
theorem loop_sh {B : Int} {A : Option W} (b1 : 1 ≤ B) (b2 : B ≤ 40) : ∀ (n i : Nat) (p : Pool) (S : List Sh), S.length + n ≤ 1000 → (∀ x, x ∈ S → inQ B x) → ∃ (ss : List Sh) (p' : Pool), forV [] [4, 5, 6] (tNm 4) lb_law_ships_1 (rgF i n) [some (PW p), some (I B), A, some (.lst (shW S)), none, none, none] = .nx [some (PW p'), some (I B), A, some (.lst (shW ss)), none, none, none] ∧ ss.length = S.length + n ∧ ∀ x, x ∈ ss → inQ B x
  | 0, i, p, S, h, hS => ⟨S, p, by rw [rgF, forV_nil rfl]; rfl, by omega, hS⟩
  | n + 1, i, p, S, h, hS => by
    obtain ⟨x, p1, u, v, t, hx⟩ := turn_sh p (A := A) (S := S) (t := I (i : Nat)) b1 b2 (by omega)
    obtain ⟨ss, p', e, l, g⟩ := loop_sh b1 b2 n (i + 1) p1 (S ++ [x]) (by simp; omega) (fun y hy => by
      rcases List.mem_append.mp hy with hy | hy
      · exact hS y hy
      · rw [List.mem_singleton.mp hy]; exact hx)
    refine ⟨ss, p', ?_, by rw [l]; simp; omega, g⟩
    rw [rgF, forV_nxt (s3 := [some (PW p1), some (I B), A, some (.lst (shW (S ++ [x]))), none, none, none]) rfl (on_of t) (by rfl) rfl (by rfl), e]
theorem v_shs (p : Pool) {B : Int} (b1 : 1 ≤ B) (b2 : B ≤ 40) : ∃ (ss : List Sh) (p' : Pool), v_law_ships [PW p, I B, I 10] = .ok (.lst (shW ss)) [some (PW p'), some (I B), some (I 10)] ∧ ss.length ≤ 10 ∧ ∀ x, x ∈ ss → inQ B x := by
  unfold v_law_ships
  rw [vrun3]
  obtain ⟨t1, p1, e1, a1, c1⟩ := v_takeE p (m := 11) 1 (by omega) (by omega)
  obtain ⟨ss, p', e, l, g⟩ := loop_sh (A := some (I 10)) b1 b2 t1.toNat 0 p1 [] (by simp; omega) (fun x hx => by cases hx)
  have q1 : ∀ s : Vs, qRgk [I t1] s = .ok (rgF 0 t1.toNat) s := fun s => by
    rw [qRgk_1 (by omega) (by omega), ← rgW_F]; rfl
  refine ⟨ss, p', ?_, by rw [l]; simp; omega, g⟩
  rw [show shW [] = [] from rfl] at e
  generalize rgF 0 t1.toNat = R at *
  generalize shW ss = L at *
  (try simp at e1 q1)
  simp [vb_law_ships, e1, q1, e]
theorem putL_at {j k : Nat} {L : List W} (hk : k < L.length) (w w0 : W) (s : Vs) : putL j [] w (k : Int) L w0 s = .nx (s.set j (some (.lst (L.set k w)))) := by
  unfold putL
  rw [ixN_in (by omega) (by omega)]
  simp
/-! two neighbours exchanged -/
theorem split2 {ss : List Sh} {k : Nat} (h : k + 1 < ss.length) : ss = ss.take k ++ hk ss k :: hk ss (k + 1) :: ss.drop (k + 2) := by
  have e1 : ss.drop k = hk ss k :: ss.drop (k + 1) := by
    rw [List.drop_eq_getElem_cons (by omega)]
    have := hk_get (ss := ss) (k := k) (by omega)
    rw [List.getElem?_eq_getElem (by omega)] at this
    injection this with this
    rw [this]
  have e2 : ss.drop (k + 1) = hk ss (k + 1) :: ss.drop (k + 2) := by
    rw [List.drop_eq_getElem_cons h]
    have := hk_get h
    rw [List.getElem?_eq_getElem h] at this
    injection this with this
    rw [this]
  rw [← e2, ← e1, List.take_append_drop]
theorem v_ex (p : Pool) {ss : List Sh} {B : Int} (hl : ∀ x, x ∈ ss → inQ B x) (h3 : ss.length ≤ 10) : ∃ p', v_law_exchanged [PW p, .im (.fz (ss.map shP))] = .ok (.im (.bl true)) [some (PW p'), some (.im (.fz (ss.map shP)))] := by
  unfold v_law_exchanged
  rw [vrun2]
  have ll : (ss.map shP).length = ss.length := List.length_map ..
  by_cases h2 : ss.length < 2
  · refine ⟨p, ?_⟩
    have h2' : (ss.length : Int) < 2 := by omega
    simp [vb_law_exchanged, h2']
  · obtain ⟨t1, p1, e1, a1, c1⟩ := v_takeE p (m := (ss.length : Int) - 1) 1 (by omega) (by omega)
    obtain ⟨k, rfl⟩ : ∃ k : Nat, t1 = (k : Int) := ⟨t1.toNat, by omega⟩
    refine ⟨p1, ?_⟩
    have h2' : ¬ (ss.length : Int) < 2 := by omega
    have hk1 : k + 1 < ss.length := by omega
    have s1 := ix_sh (w := .im .non) (ss := ss) (k := k) (by omega)
    have s2 := ix_sh (w := .im .non) (ss := ss) (k := k + 1) hk1
    rw [Int.natCast_add] at s2
    have c := v_lsh (a := hk ss k) (b := hk ss (k + 1)) (hl _ (List.mem_of_getElem? (hk_get (by omega)))).2.1 (hl _ (List.mem_of_getElem? (hk_get hk1))).2.1
    cases hb : shr (hk ss k) (hk ss (k + 1)) with
    | true =>
      rw [hb] at c
      (try simp at e1 s2)
      simp [vb_law_exchanged, h2', e1, s1, s2, c]
    | false =>
      rw [hb] at c
      obtain ⟨s, tx, ty, t, ls, f1, f2⟩ := sts_swap (a := ss.take k) (b := ss.drop (k + 2)) hb
      rw [← split2 hk1] at f1
      rw [List.length_take, Nat.min_eq_left (by omega)] at ls
      have d1 := v_sts (Sq.fz (ss.map shP)) (by omega : ss.length ≤ 1000)
      have d2 := v_sts (Sq.lst ((ss.take k ++ hk ss (k + 1) :: hk ss k :: ss.drop (k + 2)).map shP)) (by simp; omega)
      rw [f1] at d1
      rw [f2] at d2
      have tl : t.length ≤ 10 := by
        have := congrArg List.length f1
        rw [sts_len] at this
        simp at this
        omega
      have g := sameI _ (fine_r (s ++ ty :: tx :: t) (by simp; omega))
      have u1 : cutU (ss.map shP) none (some (k : Int)) = (ss.take k).map shP := by rw [cutTo (by simp; omega), List.map_take]
      have u2 : cutU (ss.map shP) (some ((k : Int) + 2)) none = (ss.drop (k + 2)).map shP := by have := cutFrom (xs := ss.map shP) (k := k + 2) (by simp; omega); rw [List.map_drop]; rwa [Int.natCast_add] at this
      have el : ((s ++ tx :: ty :: t).map P.int).map W.im = s.map I ++ I tx :: I ty :: t.map I := by simp [List.map_map]
      have i1 : ∀ st : Vs, ixL 3 [] (s.map I ++ I tx :: I ty :: t.map I) (k : Int) st = .ok (.v (I tx)) st := fun st => ixL_im (atI_get (by rw [List.getElem?_append_right (by simp; omega)]; simp [ls]))
      have i2 : ∀ st : Vs, ixL 3 [] (s.map I ++ I tx :: I ty :: t.map I) ((k : Int) + 1) st = .ok (.v (I ty)) st := fun st => ixL_im (by
        have : L2.atI (s.map I ++ I tx :: I ty :: t.map I) ((k + 1 : Nat) : Int) = some (I ty) := atI_get (by rw [List.getElem?_append_right (by simp; omega)]; simp [ls])
        rwa [Int.natCast_add] at this)
      have pt1 := fun w0 st => putL_at (j := 3) (k := k) (L := s.map I ++ I tx :: I ty :: t.map I) (by simp; omega) (I ty) w0 st
      have z1 : (s.map I ++ I tx :: I ty :: t.map I).set k (I ty) = s.map I ++ I ty :: I ty :: t.map I := by
        rw [List.set_append_right _ _ (by simp; omega)]; simp [ls]
      have pt2 : ∀ (w0 : W) (st : Vs), putL 3 [] (I tx) ((k : Int) + 1) (s.map I ++ I ty :: I ty :: t.map I) w0 st = .nx (st.set 3 (some (.lst (s.map I ++ I ty :: I tx :: t.map I)))) := fun w0 st => by
        have := putL_at (j := 3) (k := k + 1) (L := s.map I ++ I ty :: I ty :: t.map I) (by simp; omega) (I tx) w0 st
        rw [List.set_append_right _ _ (by simp; omega)] at this
        simp [ls] at this
        exact this
      rw [z1] at pt1
      have ie : imL (s.map I ++ I ty :: I tx :: t.map I) = some ((s ++ ty :: tx :: t).map .int) := by
        have := imL_map ((s ++ ty :: tx :: t).map P.int)
        rw [← this]; congr 1; simp [List.map_map]
      have ie0 : imL (s.map I ++ I tx :: I ty :: t.map I) = some ((s ++ tx :: ty :: t).map .int) := by
        have := imL_map ((s ++ tx :: ty :: t).map P.int)
        rw [← this]; congr 1; simp [List.map_map]
      have m1 : ((ss.take k ++ hk ss (k + 1) :: hk ss k :: ss.drop (k + 2)).map shP).map W.im = shW (ss.take k) ++ .im (shP (hk ss (k + 1))) :: .im (shP (hk ss k)) :: shW (ss.drop (k + 2)) := by unfold shW; simp
      rw [m1] at d2
      clear m1 hb hl
      generalize (s ++ ty :: tx :: t).map P.int = Q2 at *
      generalize (s ++ tx :: ty :: t).map P.int = Q1 at *
      generalize s.map I ++ I ty :: I tx :: t.map I = L2' at *
      generalize s.map I ++ I ty :: I ty :: t.map I = L1 at *
      generalize s.map I ++ I tx :: I ty :: t.map I = L0 at *
      generalize hk ss k = x at *
      generalize hk ss (k + 1) = y at *
      have w1 : ((ss.take k).map shP).map W.im = shW (ss.take k) := by unfold shW; rw [List.map_map]; rfl
      have w2 : ((ss.drop (k + 2)).map shP).map W.im = shW (ss.drop (k + 2)) := by unfold shW; rw [List.map_map]; rfl
      have l1 : (shW (ss.take k)).length ≤ 10 := by unfold shW; rw [List.length_map, List.length_take]; omega
      have l2 : (shW (ss.drop (k + 2))).length ≤ 10 := by unfold shW; rw [List.length_map, List.length_drop]; omega
      have j1 := imL_shW (ss.take k)
      have j2 := imL_shW (ss.drop (k + 2))
      generalize (ss.take k).map shP = T1 at *
      generalize (ss.drop (k + 2)).map shP = T2 at *
      generalize shW (ss.take k) = W1 at *
      generalize shW (ss.drop (k + 2)) = W2 at *
      have l3 : W1.length ≤ 9999998 := by omega
      have l4 : W1.length + (W2.length + 2) ≤ 10000000 := by omega
      have l5 : W1.length + (2 + W2.length) ≤ 10000000 := by omega
      have l6 : W1.length + 2 + W2.length ≤ 10000000 := by omega
      (try simp at e1 s2 u1 u2)
      simp [vb_law_exchanged, h2', e1, s1, s2, c, d1, el, i1, i2, pt1, pt2, ie, ie0, u1, u2, w1, w2, j1, j2, l3, l4, l5, l6, d2, g]
abbrev lS (A P1 B F D E C7 C8 C9 : Option W) : Vs := [A, P1, B, F, D, none, E, C7, C8, C9, none, none]
theorem turn_l1 {ss : List Sh} {k : Nat} {A P1 B : Option W} (hl : ∀ a, a ∈ ss → 1 ≤ a.l) (h3 : ss.length ≤ 10) (hk' : k < ss.length) : turnV (tNm 5) lb_law_1 (I (k : Nat)) [A, P1, B, some (.im (.fz (ss.map shP))), some (.lst (sI ss)), none, none, none, none, none, none, none] =
    .nx [A, P1, B, some (.im (.fz (ss.map shP))), some (.lst (sI ss)), some (I (k : Nat)), none, none, none, none, none, none] := by
  have c1 := v_cc (w := .im (.fz (ss.map shP))) (Sq.fz _) (by omega) hk' (n := 12) (by omega)
  obtain ⟨c2, l2⟩ := v_chn (w := .im (.fz (ss.map shP))) (Sq.fz _) hl (by omega) 12 k (by omega) hk'
  have c3 := v_gr (w := .im (.fz (ss.map shP))) (Sq.fz _) hl (by omega) 12 k (by omega) hk'
  have g := sameI _ (fine_n (chn ss 12 k) (by omega))
  have i1 := fun s => ix_sI (j := 4) hk' s
  rw [show (W.im (.fz (ss.map shP))).frz = .fz (ss.map shP) from rfl] at c1
  generalize nP (chn ss 12 k) = NP at *
  generalize tk ss k = t at *
  generalize sI ss = D at *
  generalize ss.map shP = PS at *
  simp [turnV, tNm, lb_law_1, c1, c2, c3, g, i1]
theorem loop_l1 {ss : List Sh} {A P1 B : Option W} (hl : ∀ a, a ∈ ss → 1 ≤ a.l) (h3 : ss.length ≤ 10) : ∀ (n k : Nat), k + n = ss.length → forV [] [5] (tNm 5) lb_law_1 (rgF k n) [A, P1, B, some (.im (.fz (ss.map shP))), some (.lst (sI ss)), none, none, none, none, none, none, none] =
    .nx [A, P1, B, some (.im (.fz (ss.map shP))), some (.lst (sI ss)), none, none, none, none, none, none, none]
  | 0, k, h => by rw [rgF, forV_nil rfl]; rfl
  | n + 1, k, h => by
    have t := turn_l1 (A := A) (P1 := P1) (B := B) hl h3 (show k < ss.length by omega)
    rw [rgF, forV_nxt (s3 := [A, P1, B, some (.im (.fz (ss.map shP))), some (.lst (sI ss)), none, none, none, none, none, none, none]) rfl (on_of t) (by rfl) rfl (by rfl)]
    exact loop_l1 hl h3 n (k + 1) (by omega)
def mir (B : Int) (x : Sh) : Sh := ⟨B - x.p - x.l, x.l, x.r, x.s⟩
def lat (c : Int) (x : Sh) : Sh := ⟨x.p, x.l, x.r + c, x.s⟩
theorem sts_mir (B : Int) (ss : List Sh) : sts (ss.map (mir B)) = sts ss := by
  have := sts_map (g := mir B) (c := 0) (fun a b => by unfold shr mir; exact decide_eq_decide.mpr ⟨fun h => by simp only at h; omega, fun h => by simp only; omega⟩) (fun _ => rfl) (fun a => by simp [mir]) ss
  rw [this]
  simp
theorem sts_lat (c : Int) (ss : List Sh) : sts (ss.map (lat c)) = (sts ss).map (· + c) := sts_map (g := lat c) (c := c) (fun a b => rfl) (fun _ => rfl) (fun a => rfl) ss
theorem c_mir {ss : List Sh} {A P1 D E : Option W} {B : Int} (h3 : ss.length ≤ 10) : lcVk [3] [10] (tNm 10) qYes le_law_1 (shW ss) [A, P1, some (I B), some (.im (.fz (ss.map shP))), D, none, E, none, none, none, none, none] = .ok (.lst (shW (ss.map (mir B)))) [A, P1, some (I B), some (.im (.fz (ss.map shP))), D, none, E, none, none, none, none, none] := by
  have m := lcV_all (J := [3]) (own := [10]) (t := tNm 10) (fe := le_law_1) (el := fun x : Sh => W.im (shP x)) (out := fun x : Sh => .im (shP (mir B x))) (s := [A, P1, some (I B), some (.im (.fz (ss.map shP))), D, none, E, none, none, none, none, none]) ss rfl rfl fun x hx => ⟨[A, P1, some (I B), some (.im (.fz (ss.map shP))), D, none, E, none, none, none, some (.im (shP x)), none], by simp [tNm], rfl, by
    simp [le_law_1]; rfl⟩
  have e : ss.map (fun x => W.im (shP (mir B x))) = shW (ss.map (mir B)) := by unfold shW; rw [List.map_map]; rfl
  rw [e] at m
  exact lcVk_of (by unfold shW; rw [List.length_map]; omega) rfl m
theorem c_lat {ss : List Sh} {A P1 B D T : Option W} {c : Int} (h3 : ss.length ≤ 10) : lcVk [3] [10] (tNm 10) qYes le_law_2 (shW ss) [A, P1, B, some (.im (.fz (ss.map shP))), D, none, some (I c), T, none, none, none, none] = .ok (.lst (shW (ss.map (lat c)))) [A, P1, B, some (.im (.fz (ss.map shP))), D, none, some (I c), T, none, none, none, none] := by
  have m := lcV_all (J := [3]) (own := [10]) (t := tNm 10) (fe := le_law_2) (el := fun x : Sh => W.im (shP x)) (out := fun x : Sh => .im (shP (lat c x))) (s := [A, P1, B, some (.im (.fz (ss.map shP))), D, none, some (I c), T, none, none, none, none]) ss rfl rfl fun x hx => ⟨[A, P1, B, some (.im (.fz (ss.map shP))), D, none, some (I c), T, none, none, some (.im (shP x)), none], by simp [tNm], rfl, by
    simp [le_law_2]; rfl⟩
  have e : ss.map (fun x => W.im (shP (lat c x))) = shW (ss.map (lat c)) := by unfold shW; rw [List.map_map]; rfl
  rw [e] at m
  exact lcVk_of (by unfold shW; rw [List.length_map]; omega) rfl m
theorem c_due {l : List Int} {A P1 B F T L : Option W} {c : Int} (h3 : l.length ≤ 10) : lcVk [4] [11] (tNm 11) qYes le_law_3 (l.map fun k => I k) [A, P1, B, F, some (.lst (l.map fun k => I k)), none, some (I c), T, L, none, none, none] = .ok (.lst ((l.map (· + c)).map fun k => I k)) [A, P1, B, F, some (.lst (l.map fun k => I k)), none, some (I c), T, L, none, none, none] := by
  have m := lcV_all (J := [4]) (own := [11]) (t := tNm 11) (fe := le_law_3) (el := fun x : Int => I x) (out := fun x : Int => I (x + c)) (s := [A, P1, B, F, some (.lst (l.map fun k => I k)), none, some (I c), T, L, none, none, none]) l rfl rfl fun x hx => ⟨[A, P1, B, F, some (.lst (l.map fun k => I k)), none, some (I c), T, L, none, none, some (I x)], by simp [tNm], rfl, by
    simp [le_law_3]⟩
  have e : l.map (fun x => I (x + c)) = (l.map (· + c)).map fun k => I k := by rw [List.map_map]; rfl
  rw [e] at m
  exact lcVk_of (by rw [List.length_map]; omega) rfl m
theorem imL_I (l : List Int) : imL (l.map fun k => I k) = some (l.map .int) := by
  have := imL_map (l.map P.int)
  rwa [List.map_map] at this
theorem v_pk (p : Pool) {ss : List Sh} (h1 : 1 ≤ ss.length) (h3 : ss.length ≤ 10) : ∃ (x : Int) (p' : Pool), v_law_pick [PW p, .lst (sI ss)] = .ok (I x) [some (PW p'), some (.lst (sI ss))] := by
  unfold v_law_pick
  rw [vrun2]
  obtain ⟨t1, p1, e1, a1, c1⟩ := v_takeE p (m := (ss.length : Int)) 1 (by omega) (by omega)
  obtain ⟨k, rfl⟩ : ∃ k : Nat, t1 = (k : Int) := ⟨t1.toNat, by omega⟩
  have i1 := fun s => ix_sI (j := 1) (ss := ss) (k := k) (by omega) s
  have ln : (sI ss).length = ss.length := by unfold sI; rw [List.length_map, sts_len]
  refine ⟨tk ss k, p1, ?_⟩
  generalize sI ss = D at *
  generalize tk ss k = t at *
  simp at e1
  simp [vb_law_pick, ln, e1, i1]
theorem turn_l2 (p : Pool) {ss : List Sh} {B : Nat} {A C D E : Option W} {t : W} (hl : ∀ x, x ∈ ss → inQ B x) (h3 : ss.length ≤ 10) (hB : B ≤ 40) : ∃ (p' : Pool) (m : Int), turnV (tNm 5) lb_law_2 t [A, some (PW p), some (I (B : Int)), some (.im (.fz (ss.map shP))), some (.lst (sI ss)), none, C, D, E, none, none, none] =
    .nx [A, some (PW p'), some (I (B : Int)), some (.im (.fz (ss.map shP))), some (.lst (sI ss)), some t, C, D, E, some (I m), none, none] := by
  have hl1 : ∀ a, a ∈ ss → 1 ≤ a.l := fun a ha => (hl a ha).2.1
  have key : ∀ m : Int, ∃ X : List P, v_free_bollards [I (B : Int), .im (.fz (ss.map shP)), I m] = .ok (.im (.tup X)) [some (I (B : Int)), some (.im (.fz (ss.map shP))), some (I m)] ∧ v_law_free [I (B : Int), .im (.fz (ss.map shP)), I m] = .ok (.im (.tup X)) [some (I (B : Int)), some (.im (.fz (ss.map shP))), some (I m)] ∧ v_law_same 8 [.im (.tup X), .im (.tup X)] = .ok (.im (.bl true)) [some (.im (.tup X)), some (.im (.tup X))] := fun m => by
    have a := v_fb (w := .im (.fz (ss.map shP))) (B := (B : Int)) (m := m) (Sq.fz _) (by omega)
    have b := v_lf (w := .im (.fz (ss.map shP))) (B := B) (m := m) (Sq.fz _) hl1 (by omega) (by omega)
    rw [← free_eq m hl] at b
    refine ⟨_, a, b, sameI _ (fine_f _ ?_)⟩
    obtain ⟨_, q⟩ := loop_sw (A := none) (B := none) (C := none) (D := none) (E := none) (srt (lyg ss m)) [] 0 (by simp; rw [(srt_perm _).length_eq]; have := lyg_len ss m; omega)
    have l1 := lyg_len ss m
    rw [(srt_perm _).length_eq] at q
    unfold swe
    split
    · rw [List.length_append]; simp at *; omega
    · simp at *; omega
  obtain ⟨t1, p1, e1, a1, c1⟩ := v_takeE p (m := 40) 1 (by omega) (by omega)
  by_cases h0 : ss.length = 0
  · obtain ⟨X, k1, k2, k3⟩ := key (if t1 > 0 then t1 else 0)
    refine ⟨p1, t1, ?_⟩
    have em : sI ss = [] := by unfold sI; rw [List.eq_nil_of_length_eq_zero (show (sts ss).length = 0 by rw [sts_len]; exact h0)]; rfl
    rw [em] at *
    clear key hl hl1
    generalize ss.map shP = PS at *
    (try simp at e1 k1 k2)
    simp [turnV, tNm, lb_law_2, e1, k1, k2, k3]
  · obtain ⟨x, p2, e2⟩ := v_pk p1 (ss := ss) (by omega) h3
    obtain ⟨t3, p3, e3, a3, c3⟩ := v_takeE p2 (m := 3) 1 (by omega) (by omega)
    obtain ⟨t4, p4, e4, a4, c4⟩ := v_takeE p3 (m := 2) 1 (by omega) (by omega)
    obtain ⟨t5, p5, e5, a5, c5⟩ := v_takeE p4 (m := 12) 1 (by omega) (by omega)
    have d1 : qMul (I t4) (I t5) = some (I (t4 * t5)) := qMul_of (cMul_r (by omega) (by omega))
    obtain ⟨X, k1, k2, k3⟩ := key (if x + t3 - 1 + t4 * t5 > 0 then x + t3 - 1 + t4 * t5 else 0)
    refine ⟨p5, x + t3 - 1 + t4 * t5, ?_⟩
    have ne : (sI ss).isEmpty = false := by
      cases h : sI ss with
      | nil => have := congrArg List.length h; unfold sI at this; rw [List.length_map, sts_len] at this; exact absurd this h0
      | cons _ _ => rfl
    clear key hl hl1
    generalize sI ss = DD at *
    generalize ss.map shP = PS at *
    generalize t4 * t5 = t45 at *
    (try simp at e1 e2 e3 e4 e5 k1 k2)
    simp [turnV, tNm, lb_law_2, e1, ne, e2, e3, e4, e5, d1, k1, k2, k3]
theorem loop_l2 {ss : List Sh} {B : Nat} {A C D E : Option W} (hl : ∀ x, x ∈ ss → inQ B x) (h3 : ss.length ≤ 10) (hB : B ≤ 40) : ∀ (n i : Nat) (p : Pool), ∃ p', forV [] [5, 9] (tNm 5) lb_law_2 (rgF i n) [A, some (PW p), some (I (B : Int)), some (.im (.fz (ss.map shP))), some (.lst (sI ss)), none, C, D, E, none, none, none] =
    .nx [A, some (PW p'), some (I (B : Int)), some (.im (.fz (ss.map shP))), some (.lst (sI ss)), none, C, D, E, none, none, none]
  | 0, i, p => ⟨p, by rw [rgF, forV_nil rfl]; rfl⟩
  | n + 1, i, p => by
    obtain ⟨p1, m, t⟩ := turn_l2 p (A := A) (C := C) (D := D) (E := E) (t := I (i : Nat)) hl h3 hB
    obtain ⟨p', e⟩ := loop_l2 hl h3 hB n (i + 1) p1
    exact ⟨p', by rw [rgF, forV_nxt (s3 := [A, some (PW p1), some (I (B : Int)), some (.im (.fz (ss.map shP))), some (.lst (sI ss)), none, C, D, E, none, none, none]) rfl (on_of t) (by rfl) rfl (by rfl), e]⟩
theorem law_true : ∀ ns : List Int, ns.length ≤ 63 → ∃ h', r_law [.ref 0] [.fro (ns.map U.int)] = .ok (.bl true) h' := by
  intro ns hn
  refine law_ofV (fs := [some (.im (.fr (ns.map .int)))]) sv_law ?_
  unfold v_law
  rw [vrun1]
  have hpool := v_pool hn
  generalize pool0 ns hn = p0 at *
  obtain ⟨t1, p1, e1, a1, b1⟩ := v_takeE p0 (m := 40) 1 (by omega) (by omega)
  obtain ⟨B, hB⟩ : ∃ B : Nat, 1 + t1 = (B : Int) := ⟨(1 + t1).toNat, by omega⟩
  obtain ⟨ss, p2, e2, l2, hl⟩ := v_shs p1 (B := (B : Int)) (by omega) (by omega)
  have hl1 : ∀ a, a ∈ ss → 1 ≤ a.l := fun a ha => (hl a ha).2.1
  have c1 := v_lst (Sq.lst (ss.map shP)) hl1 (by omega)
  have c2 := v_sts (Sq.lst (ss.map shP)) (by omega : ss.length ≤ 1000)
  have c3 := v_sts (Sq.tup (ss.map shP)) (by omega : ss.length ≤ 1000)
  have f1 := sameI _ (fine_r (sts ss) (by rw [sts_len]; omega))
  have i1 := imL_I (sts ss)
  have i2 := imL_shW ss
  have mw : (ss.map shP).map W.im = shW ss := by unfold shW; rw [List.map_map]; rfl
  have lp1 := loop_l1 (A := some (.im (.fr (ns.map .int)))) (P1 := some (PW p2)) (B := some (I (B : Int))) hl1 l2 ss.length 0 (by omega)
  have q1 : ∀ s : Vs, qRgk [I (ss.length : Int)] s = .ok (rgF 0 ss.length) s := fun s => by
    rw [qRgk_1 (by omega) (by omega), ← rgW_F, show ((ss.length : Int)).toNat = ss.length by omega]; rfl
  obtain ⟨t3, p3, e3, a3, b3⟩ := v_takeE p2 (m := (ss.length : Int) + 1) 1 (by omega) (by omega)
  obtain ⟨c, rfl⟩ : ∃ c : Nat, t3 = (c : Int) := ⟨t3.toNat, by omega⟩
  have u1 : cutU (ss.map shP) none (some (c : Int)) = (ss.take c).map shP := by rw [cutTo (by simp; omega), List.map_take]
  have u2 : cutU (sI ss) none (some (c : Int)) = (sts (ss.take c)).map fun k => I k := by rw [cutTo (by unfold sI; rw [List.length_map, sts_len]; omega), sts_take, List.map_take]; rfl
  have c4 := v_sts (Sq.lst ((ss.take c).map shP)) (by rw [List.length_take]; omega)
  have f2 := sameI _ (fine_r (sts (ss.take c)) (by rw [sts_len, List.length_take]; omega))
  have i3 := imL_I (sts (ss.take c))
  obtain ⟨p4, e4⟩ := v_ex p3 hl l2
  have m1 := c_mir (ss := ss) (A := some (.im (.fr (ns.map .int)))) (P1 := some (PW p4)) (D := some (.lst (sI ss))) (E := some (I (c : Int))) (B := (B : Int)) l2
  have m2 := c_lat (ss := ss) (A := some (.im (.fr (ns.map .int)))) (P1 := some (PW p4)) (B := some (I (B : Int))) (D := some (.lst (sI ss))) (c := (c : Int)) (T := some (.lst (shW (ss.map (mir (B : Int)))))) l2
  have c5 := v_sts (Sq.lst ((ss.map (mir (B : Int))).map shP)) (by rw [List.length_map]; omega)
  have c6 := v_sts (Sq.lst ((ss.map (lat (c : Int))).map shP)) (by rw [List.length_map]; omega)
  rw [sts_mir] at c5
  rw [sts_lat] at c6
  have m3 := fun T L => c_due (l := sts ss) (A := some (.im (.fr (ns.map .int)))) (P1 := some (PW p4)) (B := some (I (B : Int))) (F := some (.im (.fz (ss.map shP)))) (c := (c : Int)) (T := T) (L := L) (by rw [sts_len]; omega)
  have f3 := sameI _ (fine_r ((sts ss).map (· + (c : Int))) (by rw [List.length_map, sts_len]; omega))
  have i4 := imL_I ((sts ss).map (· + (c : Int)))
  obtain ⟨p5, lp2⟩ := loop_l2 (A := some (.im (.fr (ns.map .int)))) (C := some (I (c : Int))) (D := some (.im (.fz ((ss.map (mir (B : Int))).map shP)))) (E := some (.im (.fz ((ss.map (lat (c : Int))).map shP)))) hl l2 (by omega : B ≤ 40) 3 0 p4
  have w1 : ((ss.take c).map shP).map W.im = shW (ss.take c) := by unfold shW; rw [List.map_map]; rfl
  have w2 : ((ss.map (mir (B : Int))).map shP).map W.im = shW (ss.map (mir (B : Int))) := by unfold shW; rw [List.map_map]; rfl
  have w3 : ((ss.map (lat (c : Int))).map shP).map W.im = shW (ss.map (lat (c : Int))) := by unfold shW; rw [List.map_map]; rfl
  have j1 := imL_shW (ss.take c)
  have z1 : (W.lst ((ss.map shP).map .im)).frz = .fz (ss.map shP) := by rw [W.frz, frzs_map_im]
  have z2 : (W.lst (((ss.take c).map shP).map .im)).frz = .fz ((ss.take c).map shP) := by rw [W.frz, frzs_map_im]
  have z3 : (W.lst (((ss.map (mir (B : Int))).map shP).map .im)).frz = .fz ((ss.map (mir (B : Int))).map shP) := by rw [W.frz, frzs_map_im]
  have z4 : (W.lst (((ss.map (lat (c : Int))).map shP).map .im)).frz = .fz ((ss.map (lat (c : Int))).map shP) := by rw [W.frz, frzs_map_im]
  rw [z1] at c2
  rw [z2] at c4
  rw [z3] at c5
  rw [z4] at c6
  replace c1 : v_law_starts [.lst ((ss.map shP).map .im)] = .ok (.lst (sI ss)) [some (.lst ((ss.map shP).map .im))] := c1
  replace i1 : imL (sI ss) = some ((sts ss).map .int) := i1
  replace m3 : ∀ T L, lcVk [4] [11] (tNm 11) qYes le_law_3 (sI ss) [some (.im (.fr (ns.map .int))), some (PW p4), some (I (B : Int)), some (.im (.fz (ss.map shP))), some (.lst (sI ss)), none, some (I (c : Int)), T, L, none, none, none] = .ok (.lst (((sts ss).map (· + (c : Int))).map fun k => I k)) [some (.im (.fr (ns.map .int))), some (PW p4), some (I (B : Int)), some (.im (.fz (ss.map shP))), some (.lst (sI ss)), none, some (I (c : Int)), T, L, none, none, none] := m3
  rw [mw] at c1 c2
  rw [w1] at c4
  rw [w2] at c5
  rw [w3] at c6
  have ll : (ss.map shP).length = ss.length := List.length_map ..
  have lw : (shW ss).length = ss.length := List.length_map ..
  have q3 : ∀ s : Vs, qRgk [I 3] s = .ok (rgF 0 3) s := fun s => by
    rw [qRgk_1 (by omega) (by omega), ← rgW_F]; rfl
  clear z1 z2 z3 z4 w2 w3 hl hl1
  generalize ((sts ss).map (· + (c : Int))).map P.int = D3 at *
  generalize ((sts ss).map (· + (c : Int))).map (fun k => I k) = D3W at *
  generalize (ss.map (mir (B : Int))).map shP = PM at *
  generalize (ss.map (lat (c : Int))).map shP = PL at *
  generalize shW (ss.map (mir (B : Int))) = WM at *
  generalize shW (ss.map (lat (c : Int))) = WL at *
  generalize (sts (ss.take c)).map P.int = D2 at *
  generalize (sts (ss.take c)).map (fun k => I k) = D2W at *
  generalize (sts ss).map P.int = D1 at *
  generalize sI ss = D1W at *
  generalize (ss.take c).map shP = PT at *
  generalize shW (ss.take c) = WT at *
  generalize rgF 0 3 = R3 at *
  generalize rgF 0 ss.length = RL at *
  generalize shW ss = WS at *
  generalize ss.map shP = PS at *
  simp at e1 e2 e3 e4
  (try simp at q1 q3)
  simp -implicitDefEqProofs [vb_law, hpool, e1, hB, e2, c1, c2, i1, f1, i2, mw, c3, ll, q1, lp1, e3, u1, u2, w1, c4, i3, f2, e4, m1, m2, c5, c6, m3, i4, f3, q3, lp2]
open PySem.W in
theorem all_mk {w : World} {K : PySem.W.Frag} {h : Heap} {mg : Str → Option Value} {fa : Addr} (X : K.In h) (G : h.Ns mainGlobals mg) (hfa : mg "law" = some (.ref fa))
    {f0 f1 f2 f3 f4 f5 f6 f7 f8 f9 f10 f11 f12 f13 f14 f15 f16 : Addr} {od0 an0 od1 an1 od2 an2 od3 an3 od4 an4 od5 an5 od6 an6 od7 an7 od8 an8 od9 an9 od10 an10 od11 an11 od12 an12 od13 an13 od14 an14 od15 an15 od16 an16 : Option Addr} {sl0 sl1 sl2 sl3 sl4 sl5 sl6 sl7 sl8 sl9 sl10 sl11 sl12 sl13 sl14 sl15 sl16 : Array (Option Value)}
    {oc0 kV0 dc0 pm0 cd0 ct0 oc1 kV1 dc1 pm1 cd1 ct1 oc2 kV2 dc2 pm2 cd2 ct2 oc3 kV3 dc3 pm3 cd3 ct3 oc4 kV4 dc4 pm4 cd4 ct4 oc5 kV5 dc5 pm5 cd5 ct5 oc6 kV6 dc6 pm6 cd6 ct6 oc7 kV7 dc7 pm7 cd7 ct7 oc8 kV8 dc8 pm8 cd8 ct8 oc9 kV9 dc9 pm9 cd9 ct9 oc10 kV10 dc10 pm10 cd10 ct10 oc11 kV11 dc11 pm11 cd11 ct11 oc12 kV12 dc12 pm12 cd12 ct12 oc13 kV13 dc13 pm13 cd13 ct13 oc14 kV14 dc14 pm14 cd14 ct14 oc15 kV15 dc15 pm15 cd15 ct15 oc16 kV16 dc16 pm16 cd16 ct16 : Value}
    (a0 : PySem.W.nsIn K mainGlobals "is_sharing" = some (some (.ref f0)))
    (l0 : K.lookup f0 = some ⟨oc0, od0, .func (PySem.W.fnOf "is_sharing" "is_sharing" (defArgs s_is_sharing) (defBody s_is_sharing) (defScope s_is_sharing) .none kV0 dc0 pm0 an0 cd0 ct0), sl0⟩) (c0 : PySem.W.codeIn K cd0 "is_sharing" = true) (k0 : PySem.W.keepIn K (.ref f0) = true)
    (a1 : PySem.W.nsIn K mainGlobals "starts" = some (some (.ref f1)))
    (l1 : K.lookup f1 = some ⟨oc1, od1, .func (PySem.W.fnOf "starts" "starts" (defArgs s_starts) (defBody s_starts) (defScope s_starts) .none kV1 dc1 pm1 an1 cd1 ct1), sl1⟩) (c1 : PySem.W.codeIn K cd1 "starts" = true) (k1 : PySem.W.keepIn K (.ref f1) = true)
    (a2 : PySem.W.nsIn K mainGlobals "critical_chain" = some (some (.ref f2)))
    (l2 : K.lookup f2 = some ⟨oc2, od2, .func (PySem.W.fnOf "critical_chain" "critical_chain" (defArgs s_critical_chain) (defBody s_critical_chain) (defScope s_critical_chain) .none kV2 dc2 pm2 an2 cd2 ct2), sl2⟩) (c2 : PySem.W.codeIn K cd2 "critical_chain" = true) (k2 : PySem.W.keepIn K (.ref f2) = true)
    (a3 : PySem.W.nsIn K mainGlobals "free_bollards" = some (some (.ref f3)))
    (l3 : K.lookup f3 = some ⟨oc3, od3, .func (PySem.W.fnOf "free_bollards" "free_bollards" (defArgs s_free_bollards) (defBody s_free_bollards) (defScope s_free_bollards) .none kV3 dc3 pm3 an3 cd3 ct3), sl3⟩) (c3 : PySem.W.codeIn K cd3 "free_bollards" = true) (k3 : PySem.W.keepIn K (.ref f3) = true)
    (a4 : PySem.W.nsIn K mainGlobals "_law_pool" = some (some (.ref f4)))
    (l4 : K.lookup f4 = some ⟨oc4, od4, .func (PySem.W.fnOf "_law_pool" "_law_pool" (defArgs s_law_pool) (defBody s_law_pool) (defScope s_law_pool) .none kV4 dc4 pm4 an4 cd4 ct4), sl4⟩) (c4 : PySem.W.codeIn K cd4 "_law_pool" = true) (k4 : PySem.W.keepIn K (.ref f4) = true)
    (a5 : PySem.W.nsIn K mainGlobals "_law_take" = some (some (.ref f5)))
    (l5 : K.lookup f5 = some ⟨oc5, od5, .func (PySem.W.fnOf "_law_take" "_law_take" (defArgs s_law_take) (defBody s_law_take) (defScope s_law_take) .none kV5 dc5 pm5 an5 cd5 ct5), sl5⟩) (c5 : PySem.W.codeIn K cd5 "_law_take" = true) (k5 : PySem.W.keepIn K (.ref f5) = true)
    (a6 : PySem.W.nsIn K mainGlobals "_law_is_integer" = some (some (.ref f6)))
    (l6 : K.lookup f6 = some ⟨oc6, od6, .func (PySem.W.fnOf "_law_is_integer" "_law_is_integer" (defArgs s_law_is_integer) (defBody s_law_is_integer) (defScope s_law_is_integer) .none kV6 dc6 pm6 an6 cd6 ct6), sl6⟩) (c6 : PySem.W.codeIn K cd6 "_law_is_integer" = true) (k6 : PySem.W.keepIn K (.ref f6) = true)
    (a7 : PySem.W.nsIn K mainGlobals "_law_same" = some (some (.ref f7)))
    (l7 : K.lookup f7 = some ⟨oc7, od7, .func (PySem.W.fnOf "_law_same" "_law_same" (defArgs s_law_same) (defBody s_law_same) (defScope s_law_same) .none kV7 dc7 pm7 an7 cd7 ct7), sl7⟩) (c7 : PySem.W.codeIn K cd7 "_law_same" = true) (k7 : PySem.W.keepIn K (.ref f7) = true)
    (a8 : PySem.W.nsIn K mainGlobals "_law_pick" = some (some (.ref f8)))
    (l8 : K.lookup f8 = some ⟨oc8, od8, .func (PySem.W.fnOf "_law_pick" "_law_pick" (defArgs s_law_pick) (defBody s_law_pick) (defScope s_law_pick) .none kV8 dc8 pm8 an8 cd8 ct8), sl8⟩) (c8 : PySem.W.codeIn K cd8 "_law_pick" = true) (k8 : PySem.W.keepIn K (.ref f8) = true)
    (a9 : PySem.W.nsIn K mainGlobals "_law_ships" = some (some (.ref f9)))
    (l9 : K.lookup f9 = some ⟨oc9, od9, .func (PySem.W.fnOf "_law_ships" "_law_ships" (defArgs s_law_ships) (defBody s_law_ships) (defScope s_law_ships) .none kV9 dc9 pm9 an9 cd9 ct9), sl9⟩) (c9 : PySem.W.codeIn K cd9 "_law_ships" = true) (k9 : PySem.W.keepIn K (.ref f9) = true)
    (a10 : PySem.W.nsIn K mainGlobals "_law_shares" = some (some (.ref f10)))
    (l10 : K.lookup f10 = some ⟨oc10, od10, .func (PySem.W.fnOf "_law_shares" "_law_shares" (defArgs s_law_shares) (defBody s_law_shares) (defScope s_law_shares) .none kV10 dc10 pm10 an10 cd10 ct10), sl10⟩) (c10 : PySem.W.codeIn K cd10 "_law_shares" = true) (k10 : PySem.W.keepIn K (.ref f10) = true)
    (a11 : PySem.W.nsIn K mainGlobals "_law_starts" = some (some (.ref f11)))
    (l11 : K.lookup f11 = some ⟨oc11, od11, .func (PySem.W.fnOf "_law_starts" "_law_starts" (defArgs s_law_starts) (defBody s_law_starts) (defScope s_law_starts) .none kV11 dc11 pm11 an11 cd11 ct11), sl11⟩) (c11 : PySem.W.codeIn K cd11 "_law_starts" = true) (k11 : PySem.W.keepIn K (.ref f11) = true)
    (a12 : PySem.W.nsIn K mainGlobals "_law_chain" = some (some (.ref f12)))
    (l12 : K.lookup f12 = some ⟨oc12, od12, .func (PySem.W.fnOf "_law_chain" "_law_chain" (defArgs s_law_chain) (defBody s_law_chain) (defScope s_law_chain) .none kV12 dc12 pm12 an12 cd12 ct12), sl12⟩) (c12 : PySem.W.codeIn K cd12 "_law_chain" = true) (k12 : PySem.W.keepIn K (.ref f12) = true)
    (a13 : PySem.W.nsIn K mainGlobals "_law_free" = some (some (.ref f13)))
    (l13 : K.lookup f13 = some ⟨oc13, od13, .func (PySem.W.fnOf "_law_free" "_law_free" (defArgs s_law_free) (defBody s_law_free) (defScope s_law_free) .none kV13 dc13 pm13 an13 cd13 ct13), sl13⟩) (c13 : PySem.W.codeIn K cd13 "_law_free" = true) (k13 : PySem.W.keepIn K (.ref f13) = true)
    (a14 : PySem.W.nsIn K mainGlobals "_law_greatest" = some (some (.ref f14)))
    (l14 : K.lookup f14 = some ⟨oc14, od14, .func (PySem.W.fnOf "_law_greatest" "_law_greatest" (defArgs s_law_greatest) (defBody s_law_greatest) (defScope s_law_greatest) .none kV14 dc14 pm14 an14 cd14 ct14), sl14⟩) (c14 : PySem.W.codeIn K cd14 "_law_greatest" = true) (k14 : PySem.W.keepIn K (.ref f14) = true)
    (a15 : PySem.W.nsIn K mainGlobals "_law_exchanged" = some (some (.ref f15)))
    (l15 : K.lookup f15 = some ⟨oc15, od15, .func (PySem.W.fnOf "_law_exchanged" "_law_exchanged" (defArgs s_law_exchanged) (defBody s_law_exchanged) (defScope s_law_exchanged) .none kV15 dc15 pm15 an15 cd15 ct15), sl15⟩) (c15 : PySem.W.codeIn K cd15 "_law_exchanged" = true) (k15 : PySem.W.keepIn K (.ref f15) = true)
    (a16 : PySem.W.nsIn K mainGlobals "law" = some (some (.ref f16)))
    (l16 : K.lookup f16 = some ⟨oc16, od16, .func (PySem.W.fnOf "law" "law" (defArgs s_law) (defBody s_law) (defScope s_law) .none kV16 dc16 pm16 an16 cd16 ct16), sl16⟩) (c16 : PySem.W.codeIn K cd16 "law" = true) (k16 : PySem.W.keepIn K (.ref f16) = true)
    (z_all : PySem.W.nsIn K mainGlobals "all" = some none)
    (z_bool : PySem.W.nsIn K mainGlobals "bool" = some none)
    (z_enumerate : PySem.W.nsIn K mainGlobals "enumerate" = some none)
    (z_int : PySem.W.nsIn K mainGlobals "int" = some none)
    (z_isinstance : PySem.W.nsIn K mainGlobals "isinstance" = some none)
    (z_len : PySem.W.nsIn K mainGlobals "len" = some none)
    (z_list : PySem.W.nsIn K mainGlobals "list" = some none)
    (z_max : PySem.W.nsIn K mainGlobals "max" = some none)
    (z_min : PySem.W.nsIn K mainGlobals "min" = some none)
    (z_range : PySem.W.nsIn K mainGlobals "range" = some none)
    (z_sorted : PySem.W.nsIn K mainGlobals "sorted" = some none)
    (z_str : PySem.W.nsIn K mainGlobals "str" = some none)
    (z_tuple : PySem.W.nsIn K mainGlobals "tuple" = some none)
    : ∃ fd : FuncData, (∀ (s : Shared) (v : Value), BindsTo s fd ⟨[v], []⟩ [("_law_script", v)]) ∧ ∀ base : Heap, K.In base → base.Ns mainGlobals mg → FnOk PySem.Challenge.pw_quaybest_k11_earliest_starts w K mg base (L2.CX PySem.Challenge.pw_quaybest_k11_earliest_starts w) 60 fa fd ["_law_script"] (spTrue K r_law) := by
  have e := hfa.symm.trans (PySem.W.mg_of X G a16)
  cases e
  obtain ⟨W, hK, wn, wsub, wats⟩ : ∃ W : Wd, W.K = K ∧ W.n = xn ∧ W.sub = xsub ∧ W.ats = xats := ⟨Wd.nil K, rfl, rfl, funext fun _ => rfl, rfl⟩
  subst hK
  have m_all := PySem.W.mg_none_of X G z_all
  have m_bool := PySem.W.mg_none_of X G z_bool
  have m_enumerate := PySem.W.mg_none_of X G z_enumerate
  have m_int := PySem.W.mg_none_of X G z_int
  have m_isinstance := PySem.W.mg_none_of X G z_isinstance
  have m_len := PySem.W.mg_none_of X G z_len
  have m_list := PySem.W.mg_none_of X G z_list
  have m_max := PySem.W.mg_none_of X G z_max
  have m_min := PySem.W.mg_none_of X G z_min
  have m_range := PySem.W.mg_none_of X G z_range
  have m_sorted := PySem.W.mg_none_of X G z_sorted
  have m_str := PySem.W.mg_none_of X G z_str
  have m_tuple := PySem.W.mg_none_of X G z_tuple
  have m0 := PySem.W.mg_of X G a0
  have F0 := fun_mk (st := s_is_sharing) l0 c0 k0
  have b0 := F0.binds (ps := ["ship", "other"]) fun _ _ _ _ _ _ us hl => match us, hl with | [_, _], _ => rfl
  have m1 := PySem.W.mg_of X G a1
  have F1 := fun_mk (st := s_starts) l1 c1 k1
  have b1 := F1.binds (ps := ["ships"]) fun _ _ _ _ _ _ us hl => match us, hl with | [_], _ => rfl
  have m2 := PySem.W.mg_of X G a2
  have F2 := fun_mk (st := s_critical_chain) l2 c2 k2
  have b2 := F2.binds (ps := ["ships", "number"]) fun _ _ _ _ _ _ us hl => match us, hl with | [_, _], _ => rfl
  have m3 := PySem.W.mg_of X G a3
  have F3 := fun_mk (st := s_free_bollards) l3 c3 k3
  have b3 := F3.binds (ps := ["bollards", "ships", "minute"]) fun _ _ _ _ _ _ us hl => match us, hl with | [_, _, _], _ => rfl
  have m4 := PySem.W.mg_of X G a4
  have F4 := fun_mk (st := s_law_pool) l4 c4 k4
  have b4 := F4.binds (ps := ["_law_script"]) fun _ _ _ _ _ _ us hl => match us, hl with | [_], _ => rfl
  have m5 := PySem.W.mg_of X G a5
  have F5 := fun_mk (st := s_law_take) l5 c5 k5
  have b5 := F5.binds (ps := ["_law_pool_here", "_law_many"]) fun _ _ _ _ _ _ us hl => match us, hl with | [_, _], _ => rfl
  have m6 := PySem.W.mg_of X G a6
  have F6 := fun_mk (st := s_law_is_integer) l6 c6 k6
  have b6 := F6.binds (ps := ["_law_actual"]) fun _ _ _ _ _ _ us hl => match us, hl with | [_], _ => rfl
  have m7 := PySem.W.mg_of X G a7
  have F7 := fun_mk (st := s_law_same) l7 c7 k7
  have b7 := F7.binds (ps := ["_law_actual", "_law_due"]) fun _ _ _ _ _ _ us hl => match us, hl with | [_, _], _ => rfl
  have m8 := PySem.W.mg_of X G a8
  have F8 := fun_mk (st := s_law_pick) l8 c8 k8
  have b8 := F8.binds (ps := ["_law_pool_here", "_law_rows"]) fun _ _ _ _ _ _ us hl => match us, hl with | [_, _], _ => rfl
  have m9 := PySem.W.mg_of X G a9
  have F9 := fun_mk (st := s_law_ships) l9 c9 k9
  have b9 := F9.binds (ps := ["_law_pool_here", "_law_bollards", "_law_many"]) fun _ _ _ _ _ _ us hl => match us, hl with | [_, _, _], _ => rfl
  have m10 := PySem.W.mg_of X G a10
  have F10 := fun_mk (st := s_law_shares) l10 c10 k10
  have b10 := F10.binds (ps := ["_law_one", "_law_other"]) fun _ _ _ _ _ _ us hl => match us, hl with | [_, _], _ => rfl
  have m11 := PySem.W.mg_of X G a11
  have F11 := fun_mk (st := s_law_starts) l11 c11 k11
  have b11 := F11.binds (ps := ["_law_ships_here"]) fun _ _ _ _ _ _ us hl => match us, hl with | [_], _ => rfl
  have m12 := PySem.W.mg_of X G a12
  have F12 := fun_mk (st := s_law_chain) l12 c12 k12
  have b12 := F12.binds (ps := ["_law_ships_here", "_law_number"]) fun _ _ _ _ _ _ us hl => match us, hl with | [_, _], _ => rfl
  have m13 := PySem.W.mg_of X G a13
  have F13 := fun_mk (st := s_law_free) l13 c13 k13
  have b13 := F13.binds (ps := ["_law_bollards", "_law_ships_here", "_law_minute"]) fun _ _ _ _ _ _ us hl => match us, hl with | [_, _, _], _ => rfl
  have m14 := PySem.W.mg_of X G a14
  have F14 := fun_mk (st := s_law_greatest) l14 c14 k14
  have b14 := F14.binds (ps := ["_law_ships_here", "_law_number"]) fun _ _ _ _ _ _ us hl => match us, hl with | [_, _], _ => rfl
  have m15 := PySem.W.mg_of X G a15
  have F15 := fun_mk (st := s_law_exchanged) l15 c15 k15
  have b15 := F15.binds (ps := ["_law_pool_here", "_law_ships_here"]) fun _ _ _ _ _ _ us hl => match us, hl with | [_, _], _ => rfl
  have m16 := PySem.W.mg_of X G a16
  have F16 := fun_mk (st := s_law) l16 c16 k16
  have b16 := F16.binds (ps := ["_law_script"]) fun _ _ _ _ _ _ us hl => match us, hl with | [_], _ => rfl
  refine ⟨PySem.W.fnOf "law" "law" (defArgs s_law) (defBody s_law) (defScope s_law) .none kV16 dc16 pm16 an16 cd16 ct16, fun s v => .of_eq rfl, fun base _ _ => ?_⟩
  have g_is_sharing : GOk W PySem.Challenge.pw_quaybest_k11_earliest_starts w mg base 1 "is_sharing" (.fn r_is_sharing 2 []) := g_fn (c := c_is_sharing) m0 b0 F0 sc_is_sharing rfl ⟨gl_nil, wsub, wn, wats⟩ e_is_sharing
  have g_starts : GOk W PySem.Challenge.pw_quaybest_k11_earliest_starts w mg base 2 "starts" (.fn r_starts 1 []) := g_fn (c := c_starts) m1 b1 F1 sc_starts rfl ⟨(gl_cons (g_is_sharing.mono (by decide)) (gl_cons (g_bt m_enumerate) (gl_cons (g_bt m_max) (gl_cons (g_bt m_range) (gl_cons (g_bt m_tuple) gl_nil))))), wsub, wn, wats⟩ e_starts
  have g_critical_chain : GOk W PySem.Challenge.pw_quaybest_k11_earliest_starts w mg base 3 "critical_chain" (.fn r_critical_chain 2 []) := g_fn (c := c_critical_chain) m2 b2 F2 sc_critical_chain rfl ⟨(gl_cons (g_is_sharing.mono (by decide)) (gl_cons (g_starts.mono (by decide)) (gl_cons (g_bt m_range) (gl_cons (g_bt m_tuple) gl_nil)))), wsub, wn, wats⟩ e_critical_chain
  have g_free_bollards : GOk W PySem.Challenge.pw_quaybest_k11_earliest_starts w mg base 3 "free_bollards" (.fn r_free_bollards 3 []) := g_fn (c := c_free_bollards) m3 b3 F3 sc_free_bollards rfl ⟨(gl_cons (g_starts.mono (by decide)) (gl_cons (g_bt m_enumerate) (gl_cons (g_bt m_max) (gl_cons (g_bt m_sorted) (gl_cons (g_bt m_tuple) gl_nil))))), wsub, wn, wats⟩ e_free_bollards
  have g_law_pool : GOk W PySem.Challenge.pw_quaybest_k11_earliest_starts w mg base 1 "_law_pool" (.fn r_law_pool 1 []) := g_fn (c := c_law_pool) m4 b4 F4 sc_law_pool rfl ⟨gl_nil, wsub, wn, wats⟩ e_law_pool
  have g_law_take : ∀ n : Nat, GOk W PySem.Challenge.pw_quaybest_k11_earliest_starts w mg base (0 + n) "_law_take" (.fn (r_law_take n) 2 []) := fun n => by
    induction n with
    | zero => exact (g_none (W := W) (P := PySem.Challenge.pw_quaybest_k11_earliest_starts) (w := w) (base := base) m5 k5 b5).mono (Nat.zero_le _)
    | succ n ih => exact g_fn (k := 0 + n) (c := c_law_take (r_law_take n)) m5 b5 F5 sc_law_take rfl ⟨(gl_cons ih (gl_cons (g_bt m_int) (gl_cons (g_bt m_len) gl_nil))), wsub, wn, wats⟩ (e_law_take (r_law_take n))
  have g_law_is_integer : GOk W PySem.Challenge.pw_quaybest_k11_earliest_starts w mg base 1 "_law_is_integer" (.fn r_law_is_integer 1 []) := g_fn (c := c_law_is_integer) m6 b6 F6 sc_law_is_integer rfl ⟨(gl_cons (g_bt m_bool) (gl_cons (g_bt m_int) (gl_cons (g_bt m_isinstance) gl_nil))), wsub, wn, wats⟩ e_law_is_integer
  have g_law_same : ∀ n : Nat, GOk W PySem.Challenge.pw_quaybest_k11_earliest_starts w mg base (1 + n) "_law_same" (.fn (r_law_same n) 2 []) := fun n => by
    induction n with
    | zero => exact (g_none (W := W) (P := PySem.Challenge.pw_quaybest_k11_earliest_starts) (w := w) (base := base) m7 k7 b7).mono (Nat.zero_le _)
    | succ n ih => exact g_fn (k := 1 + n) (c := c_law_same (r_law_same n)) m7 b7 F7 sc_law_same rfl ⟨(gl_cons (g_law_is_integer.mono (by omega)) (gl_cons ih (gl_cons (g_bt m_all) (gl_cons (g_bt m_bool) (gl_cons (g_bt m_isinstance) (gl_cons (g_bt m_len) (gl_cons (g_bt m_list) (gl_cons (g_bt m_range) (gl_cons (g_bt m_str) (gl_cons (g_bt m_tuple) gl_nil)))))))))), wsub, wn, wats⟩ (e_law_same (r_law_same n))
  have g_law_pick : GOk W PySem.Challenge.pw_quaybest_k11_earliest_starts w mg base 4 "_law_pick" (.fn r_law_pick 2 []) := g_fn (c := c_law_pick) m8 b8 F8 sc_law_pick rfl ⟨(gl_cons ((g_law_take 3).mono (by decide)) (gl_cons (g_bt m_len) gl_nil)), wsub, wn, wats⟩ e_law_pick
  have g_law_ships : GOk W PySem.Challenge.pw_quaybest_k11_earliest_starts w mg base 4 "_law_ships" (.fn r_law_ships 3 []) := g_fn (c := c_law_ships) m9 b9 F9 sc_law_ships rfl ⟨(gl_cons ((g_law_take 3).mono (by decide)) (gl_cons (g_bt m_range) gl_nil)), wsub, wn, wats⟩ e_law_ships
  have g_law_shares : GOk W PySem.Challenge.pw_quaybest_k11_earliest_starts w mg base 1 "_law_shares" (.fn r_law_shares 2 []) := g_fn (c := c_law_shares) m10 b10 F10 sc_law_shares rfl ⟨(gl_cons (g_bt m_max) (gl_cons (g_bt m_min) gl_nil)), wsub, wn, wats⟩ e_law_shares
  have g_law_starts : GOk W PySem.Challenge.pw_quaybest_k11_earliest_starts w mg base 2 "_law_starts" (.fn r_law_starts 1 []) := g_fn (c := c_law_starts) m11 b11 F11 sc_law_starts rfl ⟨(gl_cons (g_law_shares.mono (by decide)) (gl_cons (g_bt m_len) (gl_cons (g_bt m_max) (gl_cons (g_bt m_range) gl_nil)))), wsub, wn, wats⟩ e_law_starts
  have g_law_chain : ∀ n : Nat, GOk W PySem.Challenge.pw_quaybest_k11_earliest_starts w mg base (2 + n) "_law_chain" (.fn (r_law_chain n) 2 []) := fun n => by
    induction n with
    | zero => exact (g_none (W := W) (P := PySem.Challenge.pw_quaybest_k11_earliest_starts) (w := w) (base := base) m12 k12 b12).mono (Nat.zero_le _)
    | succ n ih => exact g_fn (k := 2 + n) (c := c_law_chain (r_law_chain n)) m12 b12 F12 sc_law_chain rfl ⟨(gl_cons ih (gl_cons (g_law_shares.mono (by omega)) (gl_cons (g_law_starts.mono (by omega)) (gl_cons (g_bt m_range) gl_nil)))), wsub, wn, wats⟩ (e_law_chain (r_law_chain n))
  have g_law_free : GOk W PySem.Challenge.pw_quaybest_k11_earliest_starts w mg base 3 "_law_free" (.fn r_law_free 3 []) := g_fn (c := c_law_free) m13 b13 F13 sc_law_free rfl ⟨(gl_cons (g_law_starts.mono (by decide)) (gl_cons (g_bt m_len) (gl_cons (g_bt m_range) (gl_cons (g_bt m_tuple) gl_nil)))), wsub, wn, wats⟩ e_law_free
  have g_law_greatest : ∀ n : Nat, GOk W PySem.Challenge.pw_quaybest_k11_earliest_starts w mg base (1 + n) "_law_greatest" (.fn (r_law_greatest n) 2 []) := fun n => by
    induction n with
    | zero => exact (g_none (W := W) (P := PySem.Challenge.pw_quaybest_k11_earliest_starts) (w := w) (base := base) m14 k14 b14).mono (Nat.zero_le _)
    | succ n ih => exact g_fn (k := 1 + n) (c := c_law_greatest (r_law_greatest n)) m14 b14 F14 sc_law_greatest rfl ⟨(gl_cons ih (gl_cons (g_law_shares.mono (by omega)) (gl_cons (g_bt m_max) (gl_cons (g_bt m_range) gl_nil)))), wsub, wn, wats⟩ (e_law_greatest (r_law_greatest n))
  have g_law_exchanged : GOk W PySem.Challenge.pw_quaybest_k11_earliest_starts w mg base 10 "_law_exchanged" (.fn r_law_exchanged 2 []) := g_fn (c := c_law_exchanged) m15 b15 F15 sc_law_exchanged rfl ⟨(gl_cons ((g_law_same 8).mono (by decide)) (gl_cons (g_law_shares.mono (by decide)) (gl_cons ((g_law_take 3).mono (by decide)) (gl_cons (g_starts.mono (by decide)) (gl_cons (g_bt m_len) (gl_cons (g_bt m_list) (gl_cons (g_bt m_tuple) gl_nil))))))), wsub, wn, wats⟩ e_law_exchanged
  have g_law : FnOk PySem.Challenge.pw_quaybest_k11_earliest_starts w W.K mg base (L2.CX PySem.Challenge.pw_quaybest_k11_earliest_starts w) 15 _ _ _ (spOf W 1 r_law) := fn_sim (W := W) (ps := ["_law_script"]) F16 sc_law rfl ⟨(gl_cons ((g_law_chain 12).mono (by decide)) (gl_cons (g_law_exchanged.mono (by decide)) (gl_cons (g_law_free.mono (by decide)) (gl_cons ((g_law_greatest 12).mono (by decide)) (gl_cons (g_law_pick.mono (by decide)) (gl_cons (g_law_pool.mono (by decide)) (gl_cons ((g_law_same 8).mono (by decide)) (gl_cons (g_law_ships.mono (by decide)) (gl_cons (g_law_starts.mono (by decide)) (gl_cons ((g_law_take 3).mono (by decide)) (gl_cons (g_critical_chain.mono (by decide)) (gl_cons (g_free_bollards.mono (by decide)) (gl_cons (g_starts.mono (by decide)) (gl_cons (g_bt m_len) (gl_cons (g_bt m_max) (gl_cons (g_bt m_range) (gl_cons (g_bt m_tuple) gl_nil))))))))))))))))), wsub, wn, wats⟩ e_law
  exact (g_law.mono (by decide)).imp sp_true'
theorem walk {q : Program} {loose : List Str} {XP : (Str → Option Value) → Heap → Prop} {YP : World → Heap → Prop} {d : DefRec} {K : Params → PySem.W.Frag} (hdf : d.params.defaults = []) (hY : ∀ (w : World) (h : Heap), YP w h → (K w.params).In h)
    (F : ∀ (w : World) (mg : Str → Option Value) (fa : Addr) (h : Heap), (K w.params).In h → h.Ns mainGlobals mg → mg d.name = some (.ref fa) →
      ∃ fd : FuncData, (∀ (s : Shared) (u : Value), BindsTo s fd ⟨[u], []⟩ [("_law_script", u)]) ∧ ∀ base : Heap, (K w.params).In base → base.Ns mainGlobals mg → FnOk PySem.Challenge.pw_quaybest_k11_earliest_starts w (K w.params) mg base (L2.CX PySem.Challenge.pw_quaybest_k11_earliest_starts w) 60 fa fd ["_law_script"] (spTrue (K w.params) r_law)) :
    PySem.W.WalkO q loose XP YP PySem.Challenge.rw_quaybest_k11_earliest_starts.row.toRowW d [] (fun f vs => PySem.call f vs) :=
  L2.walk_of (l := PySem.Challenge.rw_quaybest_k11_earliest_starts) (n := 63) (k := 60) (x := "_law_script") (CX := fun w => L2.CX PySem.Challenge.pw_quaybest_k11_earliest_starts w) (sp := fun w => spTrue (K w.params) r_law) rfl (by decide) hdf room0 hY F
    (fun w H a ns hl hO hS => ⟨a, ns, rfl, hO, hS, law_true ns hl, fun _ => rfl⟩) fun w H s e s' z => by obtain ⟨_, _, _, _, _, _, _, _, _, _, _, _, q⟩ := z; exact q
end My
open PySem PySem.W PyProof.Rows in
set_option maxRecDepth 100000 in
set_option maxHeartbeats 0 in
theorem PySem.Challenge.cw_quaybest_k11_earliest_starts_holds : PySem.Challenge.rw_quaybest_k11_earliest_starts.Holds := by
  w_on; o_law; k_head; (case hw => w_witness2)
  k_fill
  refine My.walk rfl (fun w h Y => PySem.W.kIn_of Y) ?F
  case F =>
    intro w mg fa h KX G hmg
    refine' My.all_mk KX G hmg ?a0 ?l0 ?c0 ?k0 ?a1 ?l1 ?c1 ?k1 ?a2 ?l2 ?c2 ?k2 ?a3 ?l3 ?c3 ?k3 ?a4 ?l4 ?c4 ?k4 ?a5 ?l5 ?c5 ?k5 ?a6 ?l6 ?c6 ?k6 ?a7 ?l7 ?c7 ?k7 ?a8 ?l8 ?c8 ?k8 ?a9 ?l9 ?c9 ?k9 ?a10 ?l10 ?c10 ?k10 ?a11 ?l11 ?c11 ?k11 ?a12 ?l12 ?c12 ?k12 ?a13 ?l13 ?c13 ?k13 ?a14 ?l14 ?c14 ?k14 ?a15 ?l15 ?c15 ?k15 ?a16 ?l16 ?c16 ?k16 ?z_all ?z_bool ?z_enumerate ?z_int ?z_isinstance ?z_len ?z_list ?z_max ?z_min ?z_range ?z_sorted ?z_str ?z_tuple
    (case a0 => k_is)
    (case l0 => k_is)
    (case c0 => k_is)
    (case k0 => k_is)
    (case a1 => k_is)
    (case l1 => k_is)
    (case c1 => k_is)
    (case k1 => k_is)
    (case a2 => k_is)
    (case l2 => k_is)
    (case c2 => k_is)
    (case k2 => k_is)
    (case a3 => k_is)
    (case l3 => k_is)
    (case c3 => k_is)
    (case k3 => k_is)
    (case a4 => k_is)
    (case l4 => k_is)
    (case c4 => k_is)
    (case k4 => k_is)
    (case a5 => k_is)
    (case l5 => k_is)
    (case c5 => k_is)
    (case k5 => k_is)
    (case a6 => k_is)
    (case l6 => k_is)
    (case c6 => k_is)
    (case k6 => k_is)
    (case a7 => k_is)
    (case l7 => k_is)
    (case c7 => k_is)
    (case k7 => k_is)
    (case a8 => k_is)
    (case l8 => k_is)
    (case c8 => k_is)
    (case k8 => k_is)
    (case a9 => k_is)
    (case l9 => k_is)
    (case c9 => k_is)
    (case k9 => k_is)
    (case a10 => k_is)
    (case l10 => k_is)
    (case c10 => k_is)
    (case k10 => k_is)
    (case a11 => k_is)
    (case l11 => k_is)
    (case c11 => k_is)
    (case k11 => k_is)
    (case a12 => k_is)
    (case l12 => k_is)
    (case c12 => k_is)
    (case k12 => k_is)
    (case a13 => k_is)
    (case l13 => k_is)
    (case c13 => k_is)
    (case k13 => k_is)
    (case a14 => k_is)
    (case l14 => k_is)
    (case c14 => k_is)
    (case k14 => k_is)
    (case a15 => k_is)
    (case l15 => k_is)
    (case c15 => k_is)
    (case k15 => k_is)
    (case a16 => k_is)
    (case l16 => k_is)
    (case c16 => k_is)
    (case k16 => k_is)
    (case z_all => k_is)
    (case z_bool => k_is)
    (case z_enumerate => k_is)
    (case z_int => k_is)
    (case z_isinstance => k_is)
    (case z_len => k_is)
    (case z_list => k_is)
    (case z_max => k_is)
    (case z_min => k_is)
    (case z_range => k_is)
    (case z_sorted => k_is)
    (case z_str => k_is)
    (case z_tuple => k_is)
