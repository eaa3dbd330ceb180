import PyProof.Rows.All
import Wide.All
import OpenK.AllK
import Wide.FinOn
import KE.GoesMore
import KE.KDictZip
import KE.GoesEnum
import PyProof.Draws
import HandS.ForMost
import HandS.Zip
import HandS.Walk
import KE.DataMinMax
import HandS.ForExc
import HandS.Conv
import HandS.TupSets
import HandS.TupMul
import HandS.TupAny
import HandS.TupLe
import HandS.Evl
import HandS.IsInst
import PySem.Challenge.RW_littowers_k40_whole_rows_between
import HandS.WordsExc
import HandS.TryOnly
set_option Elab.async false
set_option linter.all false
set_option maxRecDepth 100000
set_option maxHeartbeats 1000000
namespace ZN
open PySem
section
variable {prog : Program} {w : World} {A : Around} {E : Value → Shared → Prop} {s : Shared}
/-- a zip, whatever it knows of its own tuple -/
abbrev Zf (h : Heap) (z TI TO : Addr) (c : Value) (f : Bool) : Prop :=
  h.get? z = some { cls := .type "zip", dict := none, data := .fields #[c, .bool f, .bool false, .ref TI, .ref TO], slots := #[] }
def Out (c : Value) : Prop := c = .none ∨ ∃ T : Nat, c = rawInt T
theorem isFree {z TI TO : Addr} {c : Value} {f : Bool} {Q : Bool → Shared → Prop} (hz : Zf s.heap z TI TO c f) (hc : Out c) (q1 : Q true s)
    (q2 : ∀ h', Zf h' z TI TO c true → Heap.SameBut z s.heap h' → Q false { s with heap := h' }) : wpAny (model prog w) A (Builtin.SmallTypes.ownedTupleIsFree (.ref z)) Q E s := by
  unfold Builtin.SmallTypes.ownedTupleIsFree
  rcases hc with rfl | ⟨T, rfl⟩
  · exact wpAny_bind (wpAny_field hz rfl (x := .none) rfl (wpAny_pure q1))
  · refine wpAny_bind (wpAny_field hz rfl (x := rawInt T) rfl ?_)
    show wpAny _ _ (loadIfAlive ((T : Int).toNat) >>= _) _ _ _
    rw [Int.toNat_natCast]
    have al : ∀ {R : Option Obj → Shared → Prop}, R (s.heap.get? T) s → wpAny (model prog w) A (loadIfAlive T) R E s := fun h _ _ _ => h
    refine wpAny_bind (al ?_)
    cases hT : s.heap.get? T with
    | none =>
      simp only [Option.isNone_none, if_true]
      exact wpAny_pure q1
    | some oT =>
      simp only [Option.isNone_some, Bool.false_eq_true, if_false]
      refine wpAny_bind (wpAny_field hz rfl (x := .bool f) rfl ?_)
      cases f with
      | true =>
        rw [if_neg (show ¬ ((Value.bool true != Value.bool true) = true) from Bool.false_ne_true)]
        exact wpAny_pure (q2 s.heap hz (Heap.SameBut.refl _ _))
      | false =>
        rw [if_pos (show (Value.bool false != Value.bool true) = true from rfl)]
        exact wpAny_bind (wpAny_setField_rec hz (by simp) fun g hg sg => wpAny_pure (q2 g hg sg))
theorem item {z TI TO i1 i2 l1 l2 : Addr} {k1 k2 : Nat} {xs ys : Array Value} {x y a b c : Value} {f : Bool} {Q : Value → Shared → Prop} (D : ZipApart z TI TO i1 i2 l1 l2)
    (hz : Zf s.heap z TI TO c f) (hc : Out c) (hTI : IsPair s.heap TI (.ref i1) (.ref i2)) (hTO : IsPair s.heap TO a b)
    (h1 : s.heap.IsTupleIter i1 l1 k1) (h2 : s.heap.IsTupleIter i2 l2 k2) (hl1 : s.heap.IsTuple l1 xs) (hl2 : s.heap.IsTuple l2 ys) (hx : xs[k1]? = some x) (hy : ys[k2]? = some y)
    (hQ : ∀ h' c' f', Zf h' z TI TO c' f' → Out c' → (∃ a b, IsPair h' TO a b) → h'.IsTupleIter i1 l1 (k1 + 1) → h'.IsTupleIter i2 l2 (k2 + 1) → IsPair h' s.heap.objs.size x y →
      (∀ e o, e ≠ z → e ≠ TO → e ≠ i1 → e ≠ i2 → s.heap.get? e = some o → h'.get? e = some o) → Q (.ref s.heap.objs.size) { s with heap := h' }) :
    wpAny (model prog w) A (Builtin.«zip.__next__» ⟨[.ref z], []⟩) (fun fin s' => ∃ v, fin = .done (.ret v) ∧ Q v s') E s := by
  show wpAny _ _ (field (.ref z) 2 >>= _) _ _ _
  refine wpAny_bind (wpAny_field hz rfl (x := .bool false) rfl ?_)
  show wpAny _ _ (field (.ref z) 3 >>= _) _ _ _
  refine wpAny_bind (wpAny_field hz rfl (x := .ref TI) rfl ?_)
  refine wpAny_bind (wpAny_seqItems hTI rfl ?_)
  show wpAny _ _ (Builtin.SmallTypes.ownedTupleIsFree (.ref z) >>= _) _ _ _
  refine wpAny_bind (isFree hz hc ?_ fun g0 hg0 sg0 => ?_)
  · simp only [if_true]
    refine wpAny_bind (wpAny_rule (wpAny_bind (wpAny_field hz rfl (x := .ref TO) rfl ?_)))
    refine wpAny_bind (wpAny_setField_rec hz (by simp) fun g1 hz1 s1 => ?_)
    replace hz1 : Zf g1 z TI TO .ellipsis f := hz1
    refine wpAny_bind ?_
    simp only [List.zipIdx_cons, List.zipIdx_nil, List.forIn_cons, List.forIn_nil]
    refine wpAny_bind (wpAny_bind (wpAny_onRaise ?_))
    show wpAny _ _ (Builtin.SmallTypes.nextOf (.ref i1) >>= _) _ _ _
    refine wpAny_bind (wpAny_nextOf_tuple_item (h1.extBut s1.extBut D.i1z) (hl1.extBut s1.extBut D.l1z) hx fun g2 n1 s2 => wpAny_pure ?_)
    have t2 : IsPair g2 TO a b := s2.extBut _ _ D.TOi1 (s1.extBut _ _ D.TOz hTO)
    refine wpAny_bind (wpAny_seqItems t2 rfl (wpAny_bind (wpAny_updateSeq_pair t2 fun g3 t3 s3 => ?_)))
    replace t3 : IsPair g3 TO x b := t3
    refine wpAny_bind (wpAny_letGo (wpAny_pure ?_))
    refine wpAny_bind (wpAny_bind (wpAny_onRaise ?_))
    show wpAny _ _ (Builtin.SmallTypes.nextOf (.ref i2) >>= _) _ _ _
    refine wpAny_bind (wpAny_nextOf_tuple_item (((h2.extBut s1.extBut D.i2z).extBut s2.extBut D.i12.symm).extBut s3.extBut D.TOi2.symm)
      (((hl2.extBut s1.extBut D.l2z).extBut s2.extBut D.l2i1).extBut s3.extBut D.l2TO) hy fun g4 n2 s4 => wpAny_pure ?_)
    have t4 : IsPair g4 TO x b := s4.extBut _ _ D.TOi2 t3
    refine wpAny_bind (wpAny_seqItems t4 rfl (wpAny_bind (wpAny_updateSeq_pair t4 fun g5 t5 s5 => ?_)))
    replace t5 : IsPair g5 TO x y := t5
    refine wpAny_bind (wpAny_letGo (wpAny_pure (wpAny_pure ?_)))
    refine wpAny_bind (wpAny_seqItems t5 rfl (wpAny_bind (wpAny_newTuple ?_)))
    have hsz : g5.objs.size = s.heap.objs.size := by rw [s5.1, s4.1, s3.1, s2.1, s1.1]
    have z5 : Zf g5 z TI TO .ellipsis f := s5.extBut _ _ D.TOz.symm (s4.extBut _ _ D.i2z.symm (s3.extBut _ _ D.TOz.symm (s2.extBut _ _ D.i1z.symm hz1)))
    have k5 : ∀ e o, e ≠ z → e ≠ TO → e ≠ i1 → e ≠ i2 → s.heap.get? e = some o → g5.get? e = some o := fun e o c1 c2 c3 c4 q =>
      s5.extBut _ _ c2 (s4.extBut _ _ c4 (s3.extBut _ _ c2 (s2.extBut _ _ c3 (s1.extBut _ _ c1 q))))
    have m1 : g5.IsTupleIter i1 l1 (k1 + 1) := ((n1.extBut s3.extBut D.TOi1.symm).extBut s4.extBut D.i12).extBut s5.extBut D.TOi1.symm
    have m2 : g5.IsTupleIter i2 l2 (k2 + 1) := n2.extBut s5.extBut D.TOi2.symm
    have zlt : z < g5.objs.size := Heap.lt_size z5
    show wpAny _ _ (Builtin.SmallTypes.ownedTupleHandOut (.ref z) (.ref g5.objs.size) >>= _) _ _ _
    refine wpAny_bind ?_
    unfold Builtin.SmallTypes.ownedTupleHandOut
    have z6 : Zf (g5.push { cls := .type "tuple", data := .seq #[x, y] }) z TI TO .ellipsis f := Heap.get?_push_of_some _ z5
    refine wpAny_bind (wpAny_setField_rec z6 (by simp) fun g7 z7 s7 => ?_)
    replace z7 : Zf g7 z TI TO (rawInt g5.objs.size) f := z7
    refine wpAny_setField_rec z7 (by simp) fun g8 z8 s8 => ?_
    replace z8 : Zf g8 z TI TO (rawInt g5.objs.size) false := z8
    have up : ∀ e o, e ≠ z → g5.get? e = some o → g8.get? e = some o := fun e o c1 q => s8.extBut _ _ c1 (s7.extBut _ _ c1 (Heap.get?_push_of_some _ q))
    have t8 : IsPair g8 g5.objs.size x y := s8.extBut _ _ (Nat.ne_of_gt zlt) (s7.extBut _ _ (Nat.ne_of_gt zlt) (Heap.get?_push_size _ rfl))
    rw [hsz] at z8 t8
    refine wpAny_pure ⟨_, rfl, ?_⟩
    show Q (.ref g5.objs.size) _
    rw [hsz]
    exact hQ g8 _ _ z8 (.inr ⟨_, rfl⟩) ⟨x, y, up _ _ D.TOz t5⟩ (m1.at fun o q => up _ o D.i1z q) (m2.at fun o q => up _ o D.i2z q) t8 fun e o c1 c2 c3 c4 q => up e o c1 (k5 e o c1 c2 c3 c4 q)
  · simp only [Bool.false_eq_true, if_false]
    refine wpAny_bind ?_
    rw [← Array.forIn_toList]
    simp only [List.forIn_cons, List.forIn_nil]
    refine wpAny_bind (wpAny_bind (wpAny_holding ?_))
    show wpAny _ _ (Builtin.SmallTypes.nextOf (.ref i1) >>= _) _ _ _
    refine wpAny_bind (wpAny_nextOf_tuple_item (s := { s with heap := g0 }) (h1.extBut sg0.extBut D.i1z) (hl1.extBut sg0.extBut D.l1z) hx fun g2 n1 s2 => wpAny_pure (wpAny_pure ?_))
    refine wpAny_bind (wpAny_bind (wpAny_holding ?_))
    show wpAny _ _ (Builtin.SmallTypes.nextOf (.ref i2) >>= _) _ _ _
    refine wpAny_bind (wpAny_nextOf_tuple_item (s := { s with heap := g2 }) ((h2.extBut sg0.extBut D.i2z).extBut s2.extBut D.i12.symm) ((hl2.extBut sg0.extBut D.l2z).extBut s2.extBut D.l2i1) hy fun g3 n2 s3 => wpAny_pure (wpAny_pure (wpAny_pure ?_)))
    show wpAny _ _ (newTuple [x, y] >>= _) _ _ _
    refine wpAny_bind (wpAny_newTuple ?_)
    have hsz : g3.objs.size = s.heap.objs.size := by rw [s3.1, s2.1, sg0.1]
    have z3 : Zf g3 z TI TO c true := s3.extBut _ _ D.i2z.symm (s2.extBut _ _ D.i1z.symm hg0)
    have k3 : ∀ e o, e ≠ z → e ≠ i1 → e ≠ i2 → s.heap.get? e = some o → g3.get? e = some o := fun e o c1 c2 c3 q => s3.extBut _ _ c3 (s2.extBut _ _ c2 (sg0.extBut _ _ c1 q))
    have m1 : g3.IsTupleIter i1 l1 (k1 + 1) := n1.extBut s3.extBut D.i12
    refine wpAny_pure ⟨_, rfl, ?_⟩
    show Q (.ref g3.objs.size) _
    have hp : IsPair (g3.push { cls := .type "tuple", data := .seq #[x, y] }) g3.objs.size x y := Heap.get?_push_size _ rfl
    rw [hsz] at hp ⊢
    exact hQ _ _ _ (Heap.get?_push_of_some _ z3) hc ⟨a, b, Heap.get?_push_of_some _ (k3 _ _ D.TOz D.TOi1 D.TOi2 hTO)⟩ (m1.at fun o q => Heap.get?_push_of_some _ q) (n2.at fun o q => Heap.get?_push_of_some _ q) hp
      fun e o c1 c2 c3 c4 q => Heap.get?_push_of_some _ (k3 e o c1 c3 c4 q)
theorem done {z TI TO i1 i2 l1 l2 : Addr} {k1 k2 : Nat} {xs ys : Array Value} {a b c : Value} {f : Bool} {Q : Fin → Shared → Prop} (hh : A.handled = none) (D : ZipApart z TI TO i1 i2 l1 l2)
    (hz : Zf s.heap z TI TO c f) (hc : Out c) (hTI : IsPair s.heap TI (.ref i1) (.ref i2)) (hTO : IsPair s.heap TO a b)
    (h1 : s.heap.IsTupleIter i1 l1 k1) (h2 : s.heap.IsTupleIter i2 l2 k2) (hl1 : s.heap.IsTuple l1 xs) (hl2 : s.heap.IsTuple l2 ys) (hend : xs[k1]? = none)
    (hE : ∀ h' e, (∀ c o, c ≠ z → c ≠ TO → c ≠ i1 → c ≠ i2 → s.heap.get? c = some o → h'.get? c = some o) → (∃ o, h'.get? e = some o ∧ o.cls = .type "StopIteration") → E (.ref e) { s with heap := h' }) :
    wpAny (model prog w) A (Builtin.«zip.__next__» ⟨[.ref z], []⟩) Q E s := by
  show wpAny _ _ (field (.ref z) 2 >>= _) _ _ _
  refine wpAny_bind (wpAny_field hz rfl (x := .bool false) rfl ?_)
  show wpAny _ _ (field (.ref z) 3 >>= _) _ _ _
  refine wpAny_bind (wpAny_field hz rfl (x := .ref TI) rfl ?_)
  refine wpAny_bind (wpAny_seqItems hTI rfl ?_)
  show wpAny _ _ (Builtin.SmallTypes.ownedTupleIsFree (.ref z) >>= _) _ _ _
  refine wpAny_bind (isFree hz hc ?_ fun g0 hg0 sg0 => ?_)
  · simp only [if_true]
    refine wpAny_bind (wpAny_rule (wpAny_bind (wpAny_field hz rfl (x := .ref TO) rfl ?_)))
    refine wpAny_bind (wpAny_setField_rec hz (by simp) fun g1 hz1 s1 => ?_)
    replace hz1 : Zf g1 z TI TO .ellipsis f := hz1
    refine wpAny_bind ?_
    simp only [List.zipIdx_cons, List.zipIdx_nil, List.forIn_cons, List.forIn_nil]
    refine wpAny_bind (wpAny_bind (wpAny_onRaise ?_))
    show wpAny _ _ (Builtin.SmallTypes.nextOf (.ref i1) >>= _) _ _ _
    refine wpAny_bind (wpAny_nextOf_tuple_end hh (h1.extBut s1.extBut D.i1z) (hl1.extBut s1.extBut D.l1z) hend fun g2 e s2 he => ?_)
    obtain ⟨oe, hoe, hce⟩ := he
    have z2 : Zf g2 z TI TO .ellipsis f := s2 _ _ D.i1z.symm hz1
    have ez : e ≠ z := fun q => by
      subst q
      rw [z2] at hoe
      cases hoe
      simp at hce
    exact wpAny_setField_rec z2 (by simp) fun g3 _ s3 => hE g3 e (fun c o c1 _ c3 _ q => s3.extBut _ _ c1 (s2 _ _ c3 (s1.extBut _ _ c1 q))) ⟨oe, s3.extBut _ _ ez hoe, hce⟩
  · simp only [Bool.false_eq_true, if_false]
    refine wpAny_bind ?_
    rw [← Array.forIn_toList]
    simp only [List.forIn_cons, List.forIn_nil]
    refine wpAny_bind (wpAny_bind (wpAny_holding ?_))
    show wpAny _ _ (Builtin.SmallTypes.nextOf (.ref i1) >>= _) _ _ _
    refine wpAny_bind (wpAny_nextOf_tuple_end (s := { s with heap := g0 }) hh (h1.extBut sg0.extBut D.i1z) (hl1.extBut sg0.extBut D.l1z) hend fun g2 e s2 he => ?_)
    exact hE g2 e (fun c o c1 _ c3 _ q => s2 _ _ c3 (sg0.extBut _ _ c1 q)) he
end
end ZN
namespace ZN
open PySem PySem.Spec PyProof.Rows L2
/-- zip of two tuples, the target one name -/
def ItzN (K : PySem.W.Frag) (a b : Addr) : It :=
  ⟨fun i H => ∃ (xs ys : List V) (x y : V), SqT K H a xs ∧ SqT K H b ys ∧ xs[i]? = some x ∧ ys[i]? = some y,
      fun i H v H' => ∃ T x y, v = .ref T ∧ H T = none ∧ H' = upd H T (.tup [x, y]) ∧ (∀ xs, SqT K H a xs → xs[i]? = some x) ∧ ∀ ys, SqT K H b ys → ys[i]? = some y,
      fun i H => ∃ xs ys : List V, SqT K H a xs ∧ SqT K H b ys ∧ xs.length ≤ i⟩
theorem turn {P : Program} {w : World} {K : PySem.W.Frag} {n : Str} {tpos : Pos} {a b z TI TO i1 i2 : Addr} (D : ZipApart z TI TO i1 i2 a b) :
    Turn P w K (.Name n tpos) (ItzN K a b) [z, TI, TO, i1, i2] z
      (fun i h => (∃ c f, Zf h z TI TO c f ∧ Out c) ∧ IsPair h TI (.ref i1) (.ref i2) ∧ (∃ x y, IsPair h TO x y) ∧ h.IsTupleIter i1 a i ∧ h.IsTupleIter i2 b i) where
  mem := by simp
  obj := fun i h st e he => by
    obtain ⟨⟨c, f, hz, _⟩, hTI, ⟨x, y, hTO⟩, ⟨o1, e1, _, d1⟩, ⟨o2, e2, _, d2⟩⟩ := st
    have e' : e = z ∨ e = TI ∨ e = TO ∨ e = i1 ∨ e = i2 := by simpa using he
    rcases e' with rfl | rfl | rfl | rfl | rfl
    · exact ⟨_, hz, fun v q => nomatch q⟩
    · exact ⟨_, hTI, fun v q => nomatch q⟩
    · exact ⟨_, hTO, fun v q => nomatch q⟩
    · exact ⟨o1, e1, fun v q => by rw [d1] at q; cases q⟩
    · exact ⟨o2, e2, fun v q => by rw [d2] at q; cases q⟩
  keep := fun i h h' st k => by
    obtain ⟨⟨c, f, hz, hc⟩, hTI, ⟨x, y, hTO⟩, h1, h2⟩ := st
    exact ⟨⟨c, f, k z (by simp) _ hz, hc⟩, k TI (by simp) _ hTI, ⟨x, y, k TO (by simp) _ hTO⟩, h1.at fun o q => k i1 (by simp) o q, h2.at fun o q => k i2 (by simp) o q⟩
  item := by
    intro X hP hw hK hc i pins s σ H E I hf st hg
    subst hP hw hK
    obtain ⟨⟨c, f, hz, ho⟩, hTI, ⟨x0, y0, hTO⟩, h1, h2⟩ := st
    obtain ⟨xs, ys, x, y, hqx, hqy, hx, hy⟩ := hg
    obtain ⟨its, rv, p, _⟩ := I.tuple hqx
    obtain ⟨its2, rv2, p2, _⟩ := I.tuple hqy
    obtain ⟨u, hu, ru⟩ := rv.get hx
    obtain ⟨u2, hu2, ru2⟩ := rv2.get hy
    have hTy : s.TypeIs (.ref z) "zip" := ⟨_, hz, rfl⟩
    unfold pyNext
    refine wpAny_bind (wpAny_attempt (wpAny_callSpecial?_slot (name := Str.ofString "__next__") hTy F.slot_zip_next (wpAny_call_entry F.slot_zip_next hTy F.entry_zip_next
      (item D hz ho hTI hTO h1 h2 p p2 (x := u) (y := u2) (by simpa using hu) (by simpa using hu2) fun h' c' f' z' o' TO' h1' h2' hT hk => wpAny_pure ?_) (F.args_zip_next_1 _))))
    refine ⟨_, rfl, ?_⟩
    have new : ObjOk X.prog X.w (upd H s.heap.objs.size (.tup [x, y])) h' s.heap.objs.size (.tup [x, y]) :=
      ⟨by show 2 ≤ sizeLine; decide, [u, u2], .cons ru (.cons ru2 .nil), ⟨_, hT, rfl, _, rfl⟩⟩
    have I1 : Inv X pins σ (upd H s.heap.objs.size (.tup [x, y])) { s with heap := h' } :=
      I.turnedNew (t' := s.toks) (ch := [z, TI, TO, i1, i2]) (fun e o hb q => hk e o (fun q' => hb (by simp [q'])) (fun q' => hb (by simp [q'])) (fun q' => hb (by simp [q'])) (fun q' => hb (by simp [q'])) q) hf (Nat.le_refl _) new
    show wpAny _ _ (pure ()) _ _ _
    refine wpAny_pure ⟨.ref s.heap.objs.size, _, I1, rfl, ⟨_, x, y, rfl, I.hok.fresh (Nat.le_refl _), rfl, fun l hl => by rw [I.tuple_inj hl hqx]; exact hx, fun l hl => by rw [I.tuple_inj hl hqy]; exact hy⟩, ⟨⟨c', f', z', o'⟩, ?_, TO', h1', h2'⟩, fun e he => ?_⟩
    · exact hk _ _ D.TIz D.TITO D.TIi1 D.TIi2 hTI
    · have hlt : e < s.heap.objs.size := by
        have e' : e = z ∨ e = TI ∨ e = TO ∨ e = i1 ∨ e = i2 := by simpa using he
        rcases e' with rfl | rfl | rfl | rfl | rfl
        · exact Heap.lt_size hz
        · exact Heap.lt_size hTI
        · exact Heap.lt_size hTO
        · obtain ⟨_, e1, _⟩ := h1; exact Heap.lt_size e1
        · obtain ⟨_, e2, _⟩ := h2; exact Heap.lt_size e2
      rw [upd_ne (Nat.ne_of_lt hlt)]
      exact (hf e he).1
  done := by
    intro X hP hw hK hc i pins s σ H E I hf st hg
    subst hP hw hK
    obtain ⟨⟨c, f, hz, ho⟩, hTI, ⟨x0, y0, hTO⟩, h1, h2⟩ := st
    obtain ⟨xs, ys, hqx, hqy, hend⟩ := hg
    obtain ⟨its, rv, p, _⟩ := I.tuple hqx
    obtain ⟨its2, rv2, p2, _⟩ := I.tuple hqy
    have ln := rv.length
    have hn : its.toArray[i]? = none := by simp; omega
    have hTy : s.TypeIs (.ref z) "zip" := ⟨_, hz, rfl⟩
    unfold pyNext
    refine wpAny_bind (wpAny_attempt (wpAny_callSpecial?_slot (name := Str.ofString "__next__") hTy F.slot_zip_next (wpAny_call_entry F.slot_zip_next hTy F.entry_zip_next
      (done (I.ok.hd hc) D hz ho hTI hTO h1 h2 p p2 hn fun h' e hk he => ?_) (F.args_zip_next_1 _))))
    obtain ⟨o, ho', hc'⟩ := he
    refine wpAny_bind (wpAny_isInstance (T := "StopIteration") (b := true) ⟨o, ho', hc'⟩ isSubtype_stop ?_)
    exact wpAny_pure ⟨rfl, I.turnedL (t' := s.toks) (ch := [z, TI, TO, i1, i2]) (fun e o hb q => hk e o (fun q' => hb (by simp [q'])) (fun q' => hb (by simp [q'])) (fun q' => hb (by simp [q'])) (fun q' => hb (by simp [q'])) q) hf⟩
  self := fun A i s Q E st h => by
    obtain ⟨⟨c, f, hz, _⟩, _⟩ := st
    have hT : s.TypeIs (.ref z) "zip" := ⟨_, hz, rfl⟩
    refine wpAny_pyIter_slot hT F.slot_zip_iter (wpAny_call_entry F.slot_zip_iter hT F.entry_zip_iter ?_ (F.args_zip_iter_1 _))
    show wpAny _ _ (ret (.ref z)) _ _ s
    exact wpAny_pure ⟨_, rfl, "zip", _, hT, F.slot_zip_next.lookup, h⟩
def iZipN (K : PySem.W.Frag) (ta : TA) : TI := fun σ H R => ta σ H fun vs H1 => ∃ a b xs ys, vs = [.ref a, .ref b] ∧ SqT K H1 a xs ∧ SqT K H1 b ys ∧ R (ItzN K a b) H1
theorem pi_zipN {X : Cx} {e e2 : Expr} {ta : TA} {p pos tpos : Pos} {n : Str} (hg : Gl X "zip") (hm : X.mg "zip" = none) (ha : PA X [e, e2] ta)
    (hs : starEach [e, e2] X.env = (false, eval e X.env) :: starEach [e2] X.env := by rfl) (hpl : (backTo pos (starEach [e2] X.env)).any (·.1) = false := by rfl) :
    PI X (.Name n tpos) (.Call (.Name "zip" p) [e, e2] [] pos) (iZipN X.K ta) := by
  refine ⟨fun pins s σ H R I h => ?_⟩
  refine Call_ (ld_blt I hg hm PyProof.Rows.boot_zip (PyProof.Rows.callWith_type1 (thn (ha.run pos pins s σ H _ I h) fun us s1 ⟨vs, H1, I1, r1, q1⟩ => ?_) hs hpl))
  obtain ⟨a, b, xs, ys, rfl, hqx, hqy, q⟩ := q1
  obtain ⟨u1, u2, rfl, r, r'⟩ := vals2 r1
  cases r
  cases r'
  have fresh5 : ∀ c, c ∈ [s1.heap.objs.size + 4, s1.heap.objs.size + 2, s1.heap.objs.size + 3, s1.heap.objs.size, s1.heap.objs.size + 1] → FpOk X pins H1 c := fun c hcm => by
    have hle : s1.heap.objs.size ≤ c := by
      simp only [List.mem_cons, List.not_mem_nil, or_false] at hcm
      rcases hcm with rfl | rfl | rfl | rfl | rfl
      all_goals first | exact Nat.le_refl _ | exact Nat.le_add_right _ _
    exact I1.fpOk hle (I1.hok.fresh hle)
  obtain ⟨its, rv, p1, _⟩ := I1.tuple hqx
  obtain ⟨its2, rv2, p2, _⟩ := I1.tuple hqy
  obtain ⟨o1, ho1, _⟩ := id p1
  obtain ⟨o2, ho2, _⟩ := id p2
  refine RZ.call_zipT (show s1.heap.IsTuple a its.toArray from p1) (show s1.heap.IsTuple b its2.toArray from p2) fun h' hz hTI hTO h1 h2 hsz hk => wpAny_pyIter_zip hz ?_
  exact ⟨s1.heap.objs.size + 4, [s1.heap.objs.size + 4, s1.heap.objs.size + 2, s1.heap.objs.size + 3, s1.heap.objs.size, s1.heap.objs.size + 1], _, _, H1, rfl, I1.kept (t' := s1.toks) hk,
    turn (PySem.W.ktu_apart s1.heap.objs.size a b (Heap.lt_size ho1) (Heap.lt_size ho2)), ⟨⟨_, _, hz, .inl rfl⟩, hTI, ⟨_, _, hTO⟩, h1, h2⟩, fresh5, q⟩
theorem walk_zipN {K : PySem.W.Frag} {a b : Addr} {xs ys : List V} (hl : xs.length = ys.length) : Walk (ItzN K a b) xs.length (fun H => SqT K H a xs ∧ SqT K H b ys) (YPair (fun i => xs[i]?) (fun i => ys[i]?)) := by
  refine ⟨fun i H hi q => ?_, fun H q => ⟨xs, ys, q.1, q.2, Nat.le_refl _⟩, fun i H v H' hi q y => ?_⟩
  · exact ⟨xs, ys, xs[i], ys[i]'(by omega), q.1, q.2, by simp [hi], by simp [show i < ys.length by omega]⟩
  · obtain ⟨T, x, z, h1, h2, h3, h4, h5⟩ := y
    exact ⟨T, x, z, h1, h2, h3, h4 xs q.1, h5 ys q.2⟩
theorem walk_zipT {K : PySem.W.Frag} {a b : Addr} {xs ys : List V} (hl : xs.length = ys.length) : Walk (RZ.ItzT K a b) xs.length (fun H => SqT K H a xs ∧ SqT K H b ys) (YPair (fun i => xs[i]?) (fun i => ys[i]?)) := by
  refine ⟨fun i H hi q => ?_, fun H q => ⟨xs, ys, q.1, q.2, .inl (Nat.le_refl _)⟩, fun i H v H' hi q y => ?_⟩
  · exact ⟨xs, ys, xs[i], ys[i]'(by omega), q.1, q.2, by simp [hi], by simp [show i < ys.length by omega]⟩
  · obtain ⟨T, x, z, h1, h2, h3, h4, h5⟩ := y
    exact ⟨T, x, z, h1, h2, h3, h4 xs q.1, h5 ys q.2⟩
/-! ### enumerate over a tuple -/
theorem meets_enum (l : Addr) (items : Array Value) (n : Nat) (dct : Option Addr) (sl : Array (Option Value)) :
    Meets (Builtin.«enumerate.__new__» ⟨[.type "enumerate", .ref l], []⟩) (fun _ R s => s.heap.get? l = some { cls := .type "tuple", dict := dct, data := .seq items n, slots := sl } ∧
      R (.ok (.ret (.ref (s.heap.push { cls := .type "tuple_iterator", data := .fields #[.ref l, .int 0 0] }).objs.size)))
        { s with heap := (s.heap.push { cls := .type "tuple_iterator", data := .fields #[.ref l, .int 0 0] }).push { cls := .type "enumerate", data := .fields #[.none, .bool false, .ref s.heap.objs.size, rawInt 0, .none, .none] } }) :=
  .of_wp fun prog w A R s h => by
    obtain ⟨hp, g, d, tk, os⟩ := s
    obtain ⟨hl, h⟩ := h
    have hsub := sub_enumerate
    have hL : Heap.IsTuple (Shared.heap ⟨hp, g, d, tk, os⟩) l items := ⟨_, hl, rfl, n, rfl⟩
    wp_walk using AutoSeq1.wpAny_loadPart' hl
    refine wpAny_stack_any fun st => wpAny_pure ?_
    split
    · rename_i c _ _ _ _ _
      cases (c == Value.type "enumerate")
      · wp_walk using AutoSeq1.wpAny_loadPart' hl, wpAny_pyIter_tuple hL
        exact ⟨_, rfl, h⟩
      · wp_walk using AutoSeq1.wpAny_loadPart' hl, wpAny_pyIter_tuple hL
        exact ⟨_, rfl, h⟩
    · wp_walk using AutoSeq1.wpAny_loadPart' hl, wpAny_pyIter_tuple hL
      exact ⟨_, rfl, h⟩
theorem call_enum {prog : Program} {w : World} {A : Around} {E : Value → Shared → Prop} {s : Shared} {l : Addr} {items : Array Value} {Q : Value → Shared → Prop} (hL : s.heap.IsTuple l items)
    (h : ∀ h', IsEnum h' (s.heap.objs.size + 1) s.heap.objs.size 0 .none → h'.IsTupleIter s.heap.objs.size l 0 →
      (∀ b o, s.heap.get? b = some o → h'.get? b = some o) → Q (.ref (s.heap.objs.size + 1)) { s with heap := h' }) :
    wpAny (model prog w) A (call (.type "enumerate") [.ref l]) Q E s := by
  obtain ⟨⟨c, dct, dt, sl⟩, hl, hc, n, hd⟩ := hL
  replace hc : c = .type "tuple" := hc
  replace hd : dt = .seq items n := hd
  subst hc hd
  refine callType_new F.called_enumerate (by decide) (F.typeCall_enumerate_1 _) (F.newCall_enumerate_1 _) (fun obj => F.args_object_init_2 obj _) F.entry_enumerate_new (meets_enum l items n dct sl) ⟨hl, ?_⟩
  have hz : (s.heap.push { cls := .type "tuple_iterator", data := .fields #[.ref l, .int 0 0] }).objs.size = s.heap.objs.size + 1 := Heap.size_push ..
  show _ ∧ _
  rw [hz]
  have he : IsEnum ((s.heap.push { cls := .type "tuple_iterator", data := .fields #[.ref l, .int 0 0] }).push
      { cls := .type "enumerate", data := .fields #[.none, .bool false, .ref s.heap.objs.size, rawInt 0, .none, .none] }) (s.heap.objs.size + 1) s.heap.objs.size 0 .none := by
    have q := Heap.get?_push_size (s.heap.push { cls := .type "tuple_iterator", data := .fields #[.ref l, .int 0 0] })
      (o := { cls := .type "enumerate", data := .fields #[.none, .bool false, .ref s.heap.objs.size, rawInt 0, .none, .none] }) rfl
    rw [hz] at q
    exact q
  exact ⟨⟨_, he, rfl⟩, h _ he ⟨_, Heap.get?_push_of_some _ (Heap.get?_push_size _ rfl), rfl, rfl⟩ fun b o x => Heap.get?_push_of_some _ (Heap.get?_push_of_some _ x)⟩
def IteT (K : PySem.W.Frag) (a : Addr) : It :=
  ⟨fun i H => ∃ (xs : List V) (x : V), SqT K H a xs ∧ xs[i]? = some x, fun i H v H' => ∃ T x, v = .ref T ∧ H T = none ∧ H' = upd H T (.tup [.int (i : Nat), x]) ∧ ∀ xs, SqT K H a xs → xs[i]? = some x,
    fun i H => ∃ xs : List V, SqT K H a xs ∧ xs.length = i⟩
theorem enum_ne {h : Heap} {e it a : Addr} {i : Int} {old : Value} {items : Array Value} (he : IsEnum h e it i old) (ht : h.IsTuple a items) : e ≠ a := fun q => by
  obtain ⟨o, ho, hc, _⟩ := ht
  rw [← q, he] at ho
  cases ho
  exact absurd hc (by simp)
theorem tit_ne {h : Heap} {it a : Addr} {i : Nat} {items : Array Value} (he : h.IsTupleIter it a i) (ht : h.IsTuple a items) : a ≠ it := fun q => by
  obtain ⟨o, ho, hc, _⟩ := ht
  obtain ⟨o', ho', hc', _⟩ := he
  rw [q, ho'] at ho
  cases ho
  rw [hc] at hc'
  exact absurd hc' (by simp)
theorem turnE {P : Program} {w : World} {K : PySem.W.Frag} {elts : List Expr} {kk : Nat} {tpos : Pos} (a e it : Addr) :
    Turn P w K (.Tuple elts kk tpos) (IteT K a) [e, it] e (fun i h => (∃ old, IsEnum h e it ((i : Nat) : Int) old) ∧ h.IsTupleIter it a i ∧ e ≠ it) where
  mem := by simp
  obj := fun i h st b hb => by
    obtain ⟨⟨old, he⟩, ⟨o, ho, hc, hd⟩, _⟩ := st
    have e' : b = e ∨ b = it := by simpa using hb
    rcases e' with rfl | rfl
    · exact ⟨_, he, fun v q => nomatch q⟩
    · exact ⟨o, ho, fun v q => by rw [hd] at q; cases q⟩
  keep := fun i h h' st k => let ⟨⟨old, he⟩, hi, hne⟩ := st; ⟨⟨old, k e (by simp) _ he⟩, hi.at fun o q => k it (by simp) o q, hne⟩
  item := by
    intro X hP hw hK hc i pins s σ H E I hf st hg
    subst hP hw hK
    obtain ⟨⟨old, he⟩, hit, hne⟩ := st
    obtain ⟨xs, x, hq, hx⟩ := hg
    obtain ⟨its, rv, p, hz⟩ := I.tuple hq
    obtain ⟨u, hu, ru⟩ := rv.get hx
    have hel : e < s.heap.objs.size := Heap.lt_size he
    have hil : it < s.heap.objs.size := by obtain ⟨_, q, _⟩ := hit; exact Heap.lt_size q
    have hea : e ≠ a := enum_ne he p
    have hlt : i < its.toArray.size := by
      have := (List.getElem?_eq_some_iff.mp hu).1
      simpa using this
    refine wpAny_pyNext_enum_itemD (Draws.tuple (A := X.A.in1) (I.ok.hd hc) it a (tit_ne hit p) its.toArray) he ⟨hit, p⟩ hlt hne (by simp [hne, hea]) fun v h' tk hv ho hst hT hsz hk => ?_
    have ev : v = u := by
      have hu' : its.toArray[i]? = some u := by simpa using hu
      rw [hu'] at hv
      exact (Option.some.inj hv).symm
    subst ev
    refine ⟨_, rfl, wpAny_letOwnedTupleGo_enum (s := { s with heap := h', toks := tk + 1 }) ho fun h'' he' sb => ?_⟩
    have hT2 : h''.get? s.heap.objs.size = some { cls := .type "tuple", data := .seq #[.int i tk, v] } := (sb.2 _ (Nat.ne_of_gt hel)).trans hT
    have new : ObjOk X.prog X.w (upd H s.heap.objs.size (.tup [.int (i : Nat), x])) h'' s.heap.objs.size (.tup [.int (i : Nat), x]) :=
      ⟨by show 2 ≤ sizeLine; decide, [.int i tk, v], .cons ⟨_, rfl⟩ (.cons ru .nil), ⟨_, hT2, rfl, _, rfl⟩⟩
    have I1 : Inv X pins σ (upd H s.heap.objs.size (.tup [.int (i : Nat), x])) { s with heap := h'', toks := tk + 1 } :=
      I.turnedNew (ch := [e, it]) (fun b ob hb q => (sb.2 b (fun z => hb (by simp [z]))).trans (hk b ob (fun z => hb (by simp [z])) (fun z => hb (by simp [z])) q)) hf (Nat.le_refl _) new
    refine ⟨.ref s.heap.objs.size, _, I1, rfl, ⟨_, x, rfl, I.hok.fresh (Nat.le_refl _), rfl, fun ys hy => by rw [I.tuple_inj hy hq]; exact hx⟩, ⟨⟨v, ?_⟩, hst.1.at fun o q => (sb.2 it (Ne.symm hne)).trans q, hne⟩, fun b hb => ?_⟩
    · have e1 : ((i + 1 : Nat) : Int) = (i : Int) + 1 := by omega
      rw [e1]
      exact he'
    · have hb' : b < s.heap.objs.size := by
        have e' : b = e ∨ b = it := by simpa using hb
        rcases e' with rfl | rfl
        · exact hel
        · exact hil
      rw [upd_ne (Nat.ne_of_lt hb')]
      exact (hf b hb).1
  done := by
    intro X hP hw hK hc i pins s σ H E I hf st hg
    subst hP hw hK
    obtain ⟨⟨old, he⟩, hit, hne⟩ := st
    obtain ⟨xs, hq, hx⟩ := hg
    obtain ⟨its, rv, p, hz⟩ := I.tuple hq
    obtain ⟨f0, f1, f2, f3, f4, f5⟩ := hf it (by simp)
    have hl := rv.length
    have es : i = its.toArray.size := by simp; omega
    subst es
    exact wpAny_pyNext_enum_endD (Draws.tuple (A := X.A.in1) (I.ok.hd hc) it a (tit_ne hit p) its.toArray) he ⟨hit, p⟩ fun h' eb => ⟨rfl, I.turned (t' := s.toks) (fun b o hb q => eb b o hb q) f0 f1 f3 f4 f5⟩
  self := fun A i s Q E st h => let ⟨⟨_, he⟩, _⟩ := st; wpAny_pyIter_enum he h
def iEnumT (K : PySem.W.Frag) (ta : TA) : TI := fun σ H R => ta σ H fun vs H1 => ∃ a xs, vs = [.ref a] ∧ SqT K H1 a xs ∧ R (IteT K a) H1
theorem pi_enumT {X : Cx} {e : Expr} {ta : TA} {p pos tpos : Pos} {elts : List Expr} {kk : Nat} (hg : Gl X "enumerate") (hm : X.mg "enumerate" = none) (ha : PA X [e] ta) (hs : starEach [e] X.env = [(false, eval e X.env)] := by rfl) :
    PI X (.Tuple elts kk tpos) (.Call (.Name "enumerate" p) [e] [] pos) (iEnumT X.K ta) := by
  refine ⟨fun pins s σ H R I h => ?_⟩
  refine Call_ (ld_blt I hg hm boot_enumerate (PyProof.Rows.callWith_type1 (thn (ha.run pos pins s σ H _ I h) fun us s1 ⟨vs, H1, I1, r1, q1⟩ => ?_) hs rfl))
  obtain ⟨a, xs, rfl, hq, q⟩ := q1
  rw [Vals.ref1 r1]
  obtain ⟨its, rv, p', hz⟩ := I1.tuple hq
  refine call_enum p' fun h' he hit hk => wpAny_pyIter_enum he ?_
  refine ⟨s1.heap.objs.size + 1, [s1.heap.objs.size + 1, s1.heap.objs.size], _, _, H1, rfl, I1.kept (t' := s1.toks) hk, turnE a (s1.heap.objs.size + 1) s1.heap.objs.size, ⟨⟨.none, he⟩, hit, Nat.succ_ne_self _⟩, fun b hb => ?_, q⟩
  have hle : s1.heap.objs.size ≤ b := by
    simp only [List.mem_cons, List.not_mem_nil, or_false] at hb
    rcases hb with rfl | rfl
    all_goals first | exact Nat.le_refl _ | exact Nat.le_add_right _ _
  exact I1.fpOk hle (I1.hok.fresh hle)
theorem walk_enumT {K : PySem.W.Frag} {a : Addr} {xs : List V} : Walk (IteT K a) xs.length (fun H => SqT K H a xs) (YPair (fun i => some (.int (i : Nat))) (fun i => xs[i]?)) := by
  refine ⟨fun i H hi q => ⟨xs, xs[i], q, by simp [hi]⟩, fun H q => ⟨xs, q, rfl⟩, fun i H v H' hi q y => ?_⟩
  obtain ⟨T, x, h1, h2, h3, h4⟩ := y
  exact ⟨T, .int (i : Nat), x, h1, h2, h3, rfl, h4 xs q⟩
end ZN
set_option maxHeartbeats 1000000
namespace LR
open PySem PySem.Spec PyProof.Rows L2
section
variable {X : Cx}
/-- a op1 b op2 c op3 d -/
def tChain3 (r r' r2 : R2) (ta tb tc td : TE) : TE := fun σ H Q => ta σ H fun x H1 => tb σ H1 fun y H2 => r x y H2 fun z H3 => ∃ k, z = .bl k ∧
  (if k = true then tc σ H3 fun y2 H4 => r' y y2 H4 fun z' H5 => ∃ k', z' = .bl k' ∧ (if k' = true then td σ H5 fun y3 H6 => r2 y2 y3 H6 Q else Q (.bl false) H5) else Q (.bl false) H3)
theorem pe_chain3 {a b c d : Expr} {ta tb tc td : TE} {pos : Pos} {op op' op2 : CmpOp} {r r' r2 : R2} (ho : OpR X (compareOp op) r) (ho' : OpR X (compareOp op') r') (ho2 : OpR X (compareOp op2) r2) (ha : PE X a ta) (hb : PE X b tb) (hc : PE X c tc) (hd : PE X d td)
    (hm : lastMarks [op, op', op2] [b, c, d] = false := by with_unfolding_all rfl) : PE X (.Compare a [op, op', op2] [b, c, d] pos) (tChain3 r r' r2 ta tb tc td) := by
  refine ⟨fun pins s σ H Q I h => ?_⟩
  refine Compare_chain (thn (ha.run pins s σ H _ I h) fun v s1 ⟨x, H1, I1, r1, q1⟩ => chain_link (thn (hb.run pins s1 σ H1 _ I1 q1) fun u s2 ⟨y, H2, I2, ry, q2⟩ =>
    thn (ho pins s2 σ H2 x y v u _ I2 r1 ry q2) fun e s3 ⟨z, H3, I3, rz, k, ek, q3⟩ => ?_)) hm
  subst ek
  cases rz
  refine wpAny_truthy_bool ?_
  cases k with
  | false => exact ite_ff ⟨.bl false, H3, I3, rfl, q3⟩
  | true =>
    refine ite_tt (chain_link (thn (hc.run pins s3 σ H3 _ I3 q3) fun u' s4 ⟨y2, H4, I4, ry2, q4⟩ => thn (ho' pins s4 σ H4 y y2 u u' _ I4 ry ry2 q4) fun e' s5 ⟨z', H5, I5, rz', k', ek', q5⟩ => ?_))
    subst ek'
    cases rz'
    refine wpAny_truthy_bool ?_
    cases k' with
    | false => exact ite_ff ⟨.bl false, H5, I5, rfl, q5⟩
    | true => exact ite_tt (chain_last (thn (hd.run pins s5 σ H5 _ I5 q5) fun u2 s6 ⟨y3, H6, I6, ry3, q6⟩ => ho2 pins s6 σ H6 y2 y3 u' u2 Q I6 ry2 ry3 q6))
/-- min, max of a tuple of two ints -/
def rMinT (K : PySem.W.Frag) : List V → Hp → VK → Prop := fun vs H Q => ∃ (a : Addr) (i j : Int), vs = [V.ref a] ∧ SqT K H a [V.int i, V.int j] ∧ Q (.int (min i j)) H
def rMaxT (K : PySem.W.Frag) : List V → Hp → VK → Prop := fun vs H Q => ∃ (a : Addr) (i j : Int), vs = [V.ref a] ∧ SqT K H a [V.int i, V.int j] ∧ Q (.int (max i j)) H
theorem two_ints {i j : Int} {us : List Value} (r : Vals [V.int i, V.int j] us) (h : Heap) : ∃ as, ReadsAll h us [PyData.int i, PyData.int j] as := by
  obtain ⟨t, u, rfl⟩ := Vals.int2 r
  exact ⟨_, .cons (.int i t) (.cons (.int j u) .nil)⟩
theorem two_alike {i j : Int} : PySem.W.AlikeAll [PyData.int i, PyData.int j] := by
  refine ⟨fun x hx y hy => ?_, fun x hx => ?_⟩
  · simp only [List.mem_cons, List.not_mem_nil, or_false] at hx hy
    rcases hx with rfl | rfl <;> rcases hy with rfl | rfl <;> rfl
  · simp only [List.mem_cons, List.not_mem_nil, or_false] at hx
    rcases hx with rfl | rfl <;> exact fun z => nomatch z
theorem two_depth (i j : Int) : PyData.depthAll [PyData.int i, PyData.int j] ≤ 1 := by
  simp [PyData.depthAll, PyData.depth]
theorem cr_minT (hc : X.calm = true) (hu : X.A.units + 64 < cLine) : CallR X (.builtin "min") (rMinT X.K) := by
  intro pins s σ H vs us Q I r h
  obtain ⟨a, i, j, rfl, hs, q⟩ := h
  obtain ⟨its, rv, hl, _⟩ := I.tuple hs
  rw [Vals.ref1 r]
  obtain ⟨as, hr⟩ := two_ints rv s.heap
  refine PySem.W.min_tuple_data (I.ok.hd hc) hl (x := .int i) (xs := [.int j]) (as := as) (by simpa using hr) two_alike (by have e := two_depth i j; omega) fun k v h' tk bs hk hv hkeep => ?_
  have e : PySem.W.minD (.int i) [.int j] = .int (min i j) := PySem.W.minD_ints i [j]
  rw [e] at hv
  cases hv with
  | int _ t => exact ⟨.int (min i j), H, I.kept hkeep, ⟨_, rfl⟩, q⟩
theorem cr_maxT (hc : X.calm = true) (hu : X.A.units + 64 < cLine) : CallR X (.builtin "max") (rMaxT X.K) := by
  intro pins s σ H vs us Q I r h
  obtain ⟨a, i, j, rfl, hs, q⟩ := h
  obtain ⟨its, rv, hl, _⟩ := I.tuple hs
  rw [Vals.ref1 r]
  obtain ⟨as, hr⟩ := two_ints rv s.heap
  refine PySem.W.max_tuple_data (I.ok.hd hc) hl (x := .int i) (xs := [.int j]) (as := as) (by simpa using hr) two_alike (by have e := two_depth i j; omega) fun k v h' tk bs hk hv hkeep => ?_
  have e : PySem.W.maxD (.int i) [.int j] = .int (max i j) := PySem.W.maxD_ints i [j]
  rw [e] at hv
  cases hv with
  | int _ t => exact ⟨.int (max i j), H, I.kept hkeep, ⟨_, rfl⟩, q⟩
/-- sorted(d) of a dict whose keys are tuples of d ints -/
def rSortD : List V → Hp → VK → Prop := fun vs H Q => ∃ (a : Addr) (kvs : List (List Key × V)) (d : Nat) (B : Int), vs = [V.ref a] ∧ H a = some (.dT kvs) ∧ 1 ≤ d ∧ kvs.length < 64 ∧
  (∀ p ∈ kvs, ∃ ns : List Int, p.1 = ns.map Sum.inl ∧ ns.length = d ∧ TS.Bd B ns) ∧
  ∀ (ks : List (List Int)) (bs : List Addr) (p : Addr), (ks.map fun ns => ns.map Sum.inl).Perm (kvs.map (·.1)) → ks.Pairwise (fun n m => TS.code B n ≤ TS.code B m) → Paired (fun (b : Addr) (ns : List Int) => H b = some (.tup (ns.map V.int))) bs ks → H p = none → Q (.ref p) (upd H p (.lst (bs.map V.ref)))
theorem cr_sortD (hc : X.calm = true) : CallR X (.builtin "sorted") rSortD := by
  intro pins s σ H xs us Q I r h
  obtain ⟨a, kvs, d, B, rfl, hd, h1, h64, hk, q⟩ := h
  rw [Vals.ref1 r]
  obtain ⟨z, hs, ks, pr, o, es, ep, ho, hx, hdt, he, hn⟩ := (show ObjOk X.prog X.w H s.heap a (.dT kvs) from I.hok a _ hd)
  have l1 : es.size = ks.length := size_of_entries he
  have l2 : kvs.length = ks.length := Paired.length pr
  refine Calls.call_function_entry PyProof.Rows.kind_sorted PyProof.Rows.plain_sorted PyProof.Rows.entry_sorted (PyProof.Rows.args_sorted1 _) ?_
  unfold Builtin.«sorted»
  refine wpAny_bind (m := checkCount "sorted" 1 1 _) (wpAny_pure ?_)
  refine wpAny_bind (PySem.W.kdu_collect (A := X.A.in1) (kdl_raw hs hx hdt) (I.ok.hd hc) ho (by omega) fun h' tk acc kp hacc => ?_)
  have ea : acc.toList = ks.map fun x => Value.ref x.2.1 := by
    have hl : acc.toList.length = ks.length := by rw [Array.length_toList, hacc.1]; exact l1
    apply List.ext_getElem?
    intro j
    rw [List.getElem?_map]
    cases hj : acc.toList[j]? with
    | none =>
      have g1 := List.getElem?_eq_none_iff.mp hj
      rw [List.getElem?_eq_none (by omega)] <;> rfl
    | some v =>
      obtain ⟨en, hen, hv⟩ := hacc.2 j v (by rw [← Array.getElem?_toList]; exact hj)
      have qe := entry_at he j
      rw [hen] at qe
      cases hb : ks[j]? with
      | none =>
        rw [hb] at qe
        exact nomatch (show some en = none from qe)
      | some b =>
        rw [hb] at qe
        have e2 : en = entryOfKey (tupleKind (mixKind X.prog X.w)) b := Option.some.inj qe
        rw [hv, e2] <;> rfl
  have I1 : Inv X pins σ H { s with heap := h', toks := tk } := I.kept kp
  have hal : acc.toList.length < 64 := by rw [ea, List.length_map]; omega
  -- each key's object
  have key : ∀ (kvs : List (List Key × V)) (ks : List (List Key × Addr × Value)), KT H kvs ks → (∀ p ∈ kvs, ∃ ns : List Int, p.1 = ns.map Sum.inl ∧ ns.length = d ∧ TS.Bd B ns) →
      (∀ u ∈ ks.map fun x => Value.ref x.2.1, ∃ b ns, u = Value.ref b ∧ H b = some (.tup (ns.map V.int)) ∧ ns.length = d ∧ TS.Bd B ns) ∧
      ∀ h : Heap, (∀ b ns, H b = some (.tup (ns.map V.int)) → TS.intsOf h (.ref b) = ns) → (ks.map fun x => Value.ref x.2.1).map (fun u => (TS.intsOf h u).map (Sum.inl : Int → Key)) = kvs.map (·.1) := by
    intro kvs ks pr hk
    induction pr with
    | nil => exact ⟨fun u hu => by simp at hu, fun h hh => rfl⟩
    | @cons p x l1 l2 r t ih =>
      obtain ⟨i1, i2⟩ := ih fun p hp => hk p (List.mem_cons_of_mem _ hp)
      obtain ⟨ns, e1, e2, e3⟩ := hk p List.mem_cons_self
      have hb : H x.2.1 = some (.tup (ns.map V.int)) := by
        have := r.2.1
        rw [e1, List.map_map] at this
        exact this
      refine ⟨fun u hu => ?_, fun h hh => ?_⟩
      · rcases List.mem_cons.mp hu with rfl | hu
        · exact ⟨_, ns, rfl, hb, e2, e3⟩
        · exact i1 u hu
      · rw [List.map_cons, List.map_cons, List.map_cons, i2 h hh, hh _ _ hb, e1]
  obtain ⟨key1, key2⟩ := key kvs ks pr hk
  refine wpAny_bind (wpAny_newList ?_ (by rw [sizeLine_eq]; omega))
  have hoL : (h'.push (seqObj "list" acc.toList.toArray 0)).get? h'.objs.size = some (seqObj "list" acc.toList.toArray 0) := Heap.get?_push_size _ rfl
  show wpAny _ _ _ _ _ { s with heap := h'.push (seqObj "list" acc.toList.toArray 0), toks := tk }
  generalize hh2 : h'.push (seqObj "list" acc.toList.toArray 0) = h2 at hoL ⊢
  have kp2 : ∀ b o, s.heap.get? b = some o → h2.get? b = some o := fun b o e => by rw [← hh2]; exact Heap.get?_push_of_some _ (kp b o e)
  have tups : ∀ b ns, H b = some (.tup (ns.map V.int)) → TS.TupInts h2 (.ref b) ns := fun b ns e => (tupI_raw I (SqT.of e)).keeps fun b o q _ => kp2 b o q
  have tok : TS.TupsOk h2 d B acc.toList := fun v hv => by
    rw [ea] at hv
    obtain ⟨b, ns, rfl, hb, e2, e3⟩ := key1 v hv
    exact ⟨ns, tups b ns hb, e2, e3⟩
  refine wpAny_bind (wpAny_holding (wpAny_call_entry PyProof.Rows.slot_list_sort ⟨_, hoL, rfl⟩ PyProof.Rows.entry_list_sort
    (TS.sort_tups (s := { s with heap := h2, toks := tk }) hoL hal h1 tok (fun v => TS.code B (TS.intsOf h2 v)) (fun v hv ns t => by show TS.code B (TS.intsOf h2 v) = TS.code B ns; rw [t.ints]) fun out g1 g2 => ⟨_, rfl, ?_⟩) (PyProof.Rows.args_list_sort _)))
  obtain ⟨e', he'⟩ := PyProof.Rows.sortedHeap_at (vs := acc.toList) (out := out) hoL
  have mem : ∀ u ∈ out.toList, ∃ b ns, u = Value.ref b ∧ H b = some (.tup (ns.map V.int)) ∧ ns.length = d ∧ TS.Bd B ns := fun u hu => key1 u (by rw [← ea]; exact g1.mem_iff.mp hu)
  have mk : ∀ l : List Value, (∀ u ∈ l, ∃ b ns, u = Value.ref b ∧ H b = some (.tup (ns.map V.int)) ∧ ns.length = d ∧ TS.Bd B ns) →
      ∃ bs : List Addr, l = bs.map Value.ref ∧ Paired (fun (b : Addr) (ns : List Int) => H b = some (.tup (ns.map V.int))) bs (l.map (TS.intsOf h2)) := by
    intro l
    induction l with
    | nil => exact fun _ => ⟨[], rfl, .nil⟩
    | cons u l ih =>
      intro hl
      obtain ⟨bs, e1, e2⟩ := ih fun u hu => hl u (List.mem_cons_of_mem _ hu)
      obtain ⟨b, ns, rfl, hb, _⟩ := hl u List.mem_cons_self
      refine ⟨b :: bs, by rw [List.map_cons, ← e1], .cons ?_ e2⟩
      rw [(tups b ns hb).ints]
      exact hb
  obtain ⟨bs, eb, pb⟩ := mk _ mem
  have hn2 : H h'.objs.size = none := I1.hok.fresh (Nat.le_refl _)
  have hlb : bs.length = acc.toList.length := by
    have e3 := congrArg List.length eb
    rw [List.length_map] at e3
    rw [← e3]
    exact g1.length_eq
  have hlen : (bs.map V.ref).length ≤ sizeLine := by
    rw [List.length_map, hlb, sizeLine_eq]
    omega
  refine wpAny_pure ⟨_, rfl, .ref h'.objs.size, upd H h'.objs.size (.lst (bs.map V.ref)), I1.laid (t' := tk) (fun b u e => ?_) (Nat.le_refl _)
    (show ObjOk X.prog X.w _ _ _ (.lst (bs.map V.ref)) from ⟨hlen, out.toList, e', by rw [eb]; exact vals_refs bs, by rw [Array.toArray_toList]; exact he'⟩), rfl, q (out.toList.map (TS.intsOf h2)) bs _ ?_ ?_ pb hn2⟩
  · have hb : b < h'.objs.size := Heap.lt_size e
    rw [PyProof.Rows.sortedHeap_old (Nat.ne_of_lt hb) (by rw [← hh2, size_push']; exact Nat.lt_succ_of_lt hb), ← hh2]
    exact Heap.get?_push_of_some _ e
  · rw [← key2 h2 (fun b ns e => (tups b ns e).ints), ← ea, List.map_map]
    exact g1.map _
  · rw [List.pairwise_map]
    exact g2
/-- t * k, k from 1 on -/
def rRepA (K : PySem.W.Frag) : R2 := fun x y H Q => ∃ l k xs, x = .ref l ∧ y = .int k ∧ SqT K H l xs ∧ xs ≠ [] ∧ 1 ≤ k ∧ k ≤ 1000 ∧ xs.length ≤ 1000 ∧
  (k = 1 → Q (.ref l) H) ∧ (2 ≤ k → ∀ p, H p = none → Q (.ref p) (upd H p (.tup (List.replicate k.toNat xs).flatten)))
theorem tuple_mul1 (l : Addr) (items : Array Value) (n : Nat) (dct : Option Addr) (sl : Array (Option Value)) (u : Tok) :
    Meets (Builtin.«tuple.__mul__» ⟨[.ref l, .int 1 u], []⟩) (fun _ R s => s.heap.get? l = some { cls := .type "tuple", dict := dct, data := .seq items n, slots := sl } ∧ R (.ok (.ret (Value.ref l))) s) :=
  .of_wp fun prog w A R s h => by
    obtain ⟨hp, g, d, tk, os⟩ := s
    obtain ⟨hl, h⟩ := h
    have f1 := AutoSeq1.idx_int
    wp_walk using AutoSeq1.wpAny_loadPart' hl
    exact ⟨_, rfl, h⟩
theorem op_repA : OpR X (binaryOp .Mult) (rRepA X.K) := by
  intro pins s σ H x y v u Q I rx ry h
  obtain ⟨l, k, xs, rfl, rfl, hT, hne, h1, h2, hz, q1, q2⟩ := h
  by_cases hk : k = 1
  · subst hk
    cases rx
    obtain ⟨t, rfl⟩ := ry
    obtain ⟨its, r, ⟨⟨cls, dd, data, sl⟩, ho, hc, n, hd⟩, hs⟩ := I.tuple hT
    simp only at hc hd
    subst hc hd
    refine wpAny_binaryOp_repeat_ref (T := "tuple") (U := "int") (by decide) ⟨_, ho, rfl⟩ (fun s' => typeIs_int s' 1 t) noFill_tuple_mul F.fills_int_mul F.slot_int_rmul repeat_tuple F.slot_int_index.lookup
      (call_meets F.slot_int_rmul (typeIs_int s 1 t) F.entry_int_rmul (F.args_int_rmul_2 _ _) (int_rmul_tuple 1 t l its.toArray n dd sl)
        ⟨ho, rfl, ⟨_, ho, rfl⟩, call_meets F.slot_tuple_mul ⟨_, ho, rfl⟩ F.entry_tuple_mul (F.args_tuple_mul_2 _ _) (tuple_mul1 l its.toArray n dd sl t) ⟨ho, ?_⟩⟩)
    exact ⟨.ref l, H, I, rfl, q1 rfl⟩
  · exact op_repT pins s σ H _ _ v u Q I rx ry ⟨l, k, xs, rfl, rfl, hT, hne, by omega, h2, hz, q2 (by omega)⟩
/-- X() of an own error class without __init__ -/
theorem pmk_own0 {C : Addr} {bmB : List Value} {B newId initId : String} {x : Str} {p pos : Pos} (F : ExcBaseFacts B newId initId bmB) (q : PySem.W.excIn X.K C bmB newId = true) (gC : X.mg x = some (.ref C)) (kC : PySem.W.keepIn X.K (.ref C) = true) (r : Raises X (.ref C)) (hg : Gl X x)
    (hdb : (x == ("__debug__" : Str)) = false := by decide) : PMk X (.Call (.Name x p) [] [] pos) (fun _ H Q => Q (.ref C) none H) := by
  intro pins s σ H Q I h
  refine wpAny_Call_Name_kw (ld_glob I hg gC ?_ hdb)
  refine PySem.W.callWith_K0 I.kIn kC ?_
  obtain ⟨bm, N, nm, qn, bs, hdct, sn, sub, ab, col, dd, k0, k1, k2, k3, k5, mN, hC, hN, hni, T⟩ := exc_obj I.kIn q
  obtain ⟨hp1, g1, d1, tk1, os1⟩ := s
  refine wpAny_call_exc_subT F T hC hN hni (fun h' e hm => ?_) (Nat.zero_le _)
  exact mk_of I hm r h (I.hok.gone hm.new)
end
end LR
set_option maxHeartbeats 1000000
namespace Lt
open PySem L2 Evl

/-! ### what a value is, told of the heap; it stays so while the heap grows -/
structure VP where
  is : Hp → V → Prop
  mono : ∀ {H H' : Hp} {v : V}, Ex H H' → is H v → is H' v
abbrev All (H : Hp) (Ps : List VP) (vs : List V) : Prop := Paired (fun (P : VP) (x : V) => P.is H x) Ps vs
theorem pmap {α β : Type} {F G : α → β → Prop} : ∀ {l : List α} {m : List β}, Paired F l m → (∀ a b, F a b → G a b) → Paired G l m
  | _, _, .nil, _ => .nil
  | _, _, .cons r t, f => .cons (f _ _ r) (pmap t f)
theorem All.mono {H H' : Hp} {Ps : List VP} {vs : List V} (e : Ex H H') (a : All H Ps vs) : All H' Ps vs := pmap a fun P _ h => P.mono e h
theorem paired_get {α β : Type} {F : α → β → Prop} : ∀ {l : List α} {m : List β}, Paired F l m → ∀ {i : Nat} {a : α}, l[i]? = some a → ∃ b, m[i]? = some b ∧ F a b
  | _, _, .nil, i, a, e => by simp at e
  | _, _, .cons (a := x) (b := y) r t, 0, a, e => by
    have e' : x = a := by simpa using e
    exact ⟨y, rfl, e' ▸ r⟩
  | _, _, .cons r t, i + 1, a, e => by
    obtain ⟨b, h1, h2⟩ := paired_get (i := i) (a := a) t (by simpa using e)
    exact ⟨b, by simpa using h1, h2⟩
theorem paired_getB {α β : Type} {F : α → β → Prop} : ∀ {l : List α} {m : List β}, Paired F l m → ∀ {i : Nat} {b : β}, m[i]? = some b → ∃ a, l[i]? = some a ∧ F a b
  | _, _, .nil, i, a, e => by simp at e
  | _, _, .cons (a := x) (b := y) r t, 0, b, e => by
    have e' : y = b := by simpa using e
    exact ⟨x, rfl, e' ▸ r⟩
  | _, _, .cons r t, i + 1, b, e => by
    obtain ⟨a, h1, h2⟩ := paired_getB (i := i) (b := b) t (by simpa using e)
    exact ⟨a, by simpa using h1, h2⟩
theorem paired_snoc {α β : Type} {F : α → β → Prop} {a : α} {b : β} (r : F a b) : ∀ {l : List α} {m : List β}, Paired F l m → Paired F (l ++ [a]) (m ++ [b])
  | _, _, .nil => .cons r .nil
  | _, _, .cons q t => .cons q (paired_snoc r t)
theorem paired_app {α β : Type} {F : α → β → Prop} {l2 : List α} {m2 : List β} (r : Paired F l2 m2) : ∀ {l : List α} {m : List β}, Paired F l m → Paired F (l ++ l2) (m ++ m2)
  | _, _, .nil => r
  | _, _, .cons q t => .cons q (paired_app r t)

def vV (x : V) : VP := ⟨fun _ v => v = x, fun _ h => h⟩
abbrev vI (i : Int) : VP := vV (.int i)
abbrev vB (b : Bool) : VP := vV (.bl b)
abbrev vN : VP := vV .non
abbrev vTy (n : String) : VP := vV (.ty n)
def vT (Ps : List VP) : VP := ⟨fun H v => ∃ p xs, v = .ref p ∧ H p = some (.tup xs) ∧ All H Ps xs, fun e ⟨p, xs, h1, h2, h3⟩ => ⟨p, xs, h1, e _ _ h2, h3.mono e⟩⟩
def vL (Ps : List VP) : VP := ⟨fun H v => ∃ p xs, v = .ref p ∧ H p = some (.lst xs) ∧ All H Ps xs, fun e ⟨p, xs, h1, h2, h3⟩ => ⟨p, xs, h1, e _ _ h2, h3.mono e⟩⟩
/-- a list that may be the script -/
def vS (K : PySem.W.Frag) (ns : List Int) : VP := ⟨fun H v => ∃ p, v = .ref p ∧ SqL K H p (ns.map V.int), fun e ⟨p, h1, h2⟩ => ⟨p, h1, ex_l e h2⟩⟩
/-- some value of which one of these holds -/
def vSome {α : Type} (P : α → VP) (R : α → Prop) : VP := ⟨fun H v => ∃ a, R a ∧ (P a).is H v, fun e ⟨a, r, h⟩ => ⟨a, r, (P a).mono e h⟩⟩
abbrev vRow (r : List Int) : VP := vT (r.map vI)
abbrev vIL (r : List Int) : VP := vL (r.map vI)
abbrev vBL (r : List Bool) : VP := vL (r.map vB)
theorem all_vV {H : Hp} {α : Type} {f : α → V} : ∀ {r : List α} {xs : List V}, All H (r.map fun a => vV (f a)) xs → xs = r.map f
  | [], _, .nil => rfl
  | a :: r, _, .cons h t => by
    have e : _ = f a := h
    rw [e, all_vV t] <;> rfl
theorem all_of {H : Hp} {α : Type} {f : α → V} : ∀ (r : List α), All H (r.map fun a => vV (f a)) (r.map f)
  | [] => .nil
  | a :: r => .cons rfl (all_of r)
theorem vRow_is {H : Hp} {r : List Int} {v : V} (h : (vRow r).is H v) : ∃ p, v = .ref p ∧ H p = some (.tup (r.map V.int)) := by
  obtain ⟨p, xs, h1, h2, h3⟩ := h
  rw [all_vV (f := V.int) h3] at h2
  exact ⟨p, h1, h2⟩
theorem vIL_is {H : Hp} {r : List Int} {v : V} (h : (vIL r).is H v) : ∃ p, v = .ref p ∧ H p = some (.lst (r.map V.int)) := by
  obtain ⟨p, xs, h1, h2, h3⟩ := h
  rw [all_vV (f := V.int) h3] at h2
  exact ⟨p, h1, h2⟩
theorem vBL_is {H : Hp} {r : List Bool} {v : V} (h : (vBL r).is H v) : ∃ p, v = .ref p ∧ H p = some (.lst (r.map V.bl)) := by
  obtain ⟨p, xs, h1, h2, h3⟩ := h
  rw [all_vV (f := V.bl) h3] at h2
  exact ⟨p, h1, h2⟩
theorem is_vRow {H : Hp} {r : List Int} {p : Addr} (h : H p = some (.tup (r.map V.int))) : (vRow r).is H (.ref p) := ⟨p, _, rfl, h, all_of r⟩
theorem is_vIL {H : Hp} {r : List Int} {p : Addr} (h : H p = some (.lst (r.map V.int))) : (vIL r).is H (.ref p) := ⟨p, _, rfl, h, all_of r⟩

/-! ### what evaluates to what -/
def EvP (te : TE) (σ : L2.St) (H : Hp) (P : VP) : Prop := ∀ H1, Ex H H1 → ∀ Q : VK, (∀ v H2, Ex H1 H2 → P.is H2 v → Q v H2) → te σ H1 Q
def EvA (ta : TA) (σ : L2.St) (H : Hp) (Ps : List VP) : Prop := ∀ H1, Ex H H1 → ∀ Q : List V → Hp → Prop, (∀ vs H2, Ex H1 H2 → All H2 Ps vs → Q vs H2) → ta σ H1 Q
section
variable {K : PySem.W.Frag} {σ : L2.St} {H H' : Hp} {ta tb tc td te tx : TE} {t u : TT} {P P1 P2 P3 : VP} {r : R2}
theorem EvP.mono (e : Ex H H') (h : EvP te σ H P) : EvP te σ H' P := fun H1 a Q q => h H1 (e.trans a) Q q
theorem EvA.mono {ta : TA} {Ps : List VP} (e : Ex H H') (h : EvA ta σ H Ps) : EvA ta σ H' Ps := fun H1 a Q q => h H1 (e.trans a) Q q
theorem EvP.to (h : EvP te σ H P) (k : ∀ H v, P.is H v → P2.is H v) : EvP te σ H P2 := fun H1 a Q q => h H1 a Q fun v H2 e p => q v H2 e (k H2 v p)
theorem e_is {i j : Int} (h : EvP te σ H (vI i)) (e : i = j) : EvP te σ H (vI j) := e ▸ h
theorem e_var {i : Nat} {v : V} (h : σ[i]? = some (some v)) (p : P.is H v) : EvP (tVar i) σ H P := fun H1 e Q q => ⟨v, h, q v H1 (Ex.refl H1) (P.mono e p)⟩
theorem e_c {x : V} : EvP (tC x) σ H (vV x) := fun H1 _ Q q => q x H1 (Ex.refl H1) rfl
theorem a_nil : EvA tNil σ H [] := fun H1 _ Q q => q [] H1 (Ex.refl H1) .nil
theorem a_cons {tr : TA} {Ps : List VP} (h : EvP te σ H P) (hr : EvA tr σ H Ps) : EvA (tCons te tr) σ H (P :: Ps) := fun H1 e Q q =>
  h H1 e _ fun v H2 e2 p => hr H2 (e.trans e2) _ fun vs H3 e3 ps => q _ H3 (e2.trans e3) (.cons (P.mono e3 p) ps)
theorem e_op (ha : EvP ta σ H P1) (hb : EvP tb σ H P2) (hr : ∀ x y H1, Ex H H1 → P1.is H1 x → P2.is H1 y → ∀ Q : VK, (∀ v H2, Ex H1 H2 → P.is H2 v → Q v H2) → r x y H1 Q) : EvP (tOp r ta tb) σ H P := fun H1 e Q q =>
  ha H1 e _ fun x H2 e2 p1 => hb H2 (e.trans e2) _ fun y H3 e3 p2 => hr x y H3 ((e.trans e2).trans e3) (P1.mono e3 p1) p2 Q fun v H4 e4 p => q v H4 ((e2.trans e3).trans e4) p
/-- two ints -/
theorem e_I0 {g : Int → Int → V} {i j : Int} (ha : EvP ta σ H (vI i)) (hb : EvP tb σ H (vI j)) : EvP (tOp (rI0 g) ta tb) σ H (vV (g i j)) :=
  e_op ha hb fun x y H1 _ px py Q q => ⟨i, j, px, py, q _ H1 (Ex.refl H1) rfl⟩
theorem e_I {C : Int → Int → Prop} {g : Int → Int → V} {i j : Int} (ha : EvP ta σ H (vI i)) (hb : EvP tb σ H (vI j)) (hc : C i j) : EvP (tOp (rI C g) ta tb) σ H (vV (g i j)) :=
  e_op ha hb fun x y H1 _ px py Q q => ⟨i, j, px, py, hc, q _ H1 (Ex.refl H1) rfl⟩
theorem e_eq {x y : V} (ha : EvP ta σ H (vV x)) (hb : EvP tb σ H (vV y)) (h : scal x y = true) : EvP (tOp rEq ta tb) σ H (vB (decide (x = y))) :=
  e_op ha hb fun x' y' H1 _ px py Q q => by
    obtain rfl : x' = x := px
    obtain rfl : y' = y := py
    exact ⟨h, q _ H1 (Ex.refl H1) rfl⟩
theorem e_ne {x y : V} (ha : EvP ta σ H (vV x)) (hb : EvP tb σ H (vV y)) (h : scal x y = true) : EvP (tOp rNe ta tb) σ H (vB (!decide (x = y))) :=
  e_op ha hb fun x' y' H1 _ px py Q q => by
    obtain rfl : x' = x := px
    obtain rfl : y' = y := py
    exact ⟨h, q _ H1 (Ex.refl H1) rfl⟩
/-- subscripts -/
theorem e_ixT {Ps : List VP} {k : Nat} (ha : EvP ta σ H (vT Ps)) (hb : EvP tb σ H (vI (k : Int))) (h : Ps[k]? = some P) : EvP (tOp (rIxT K) ta tb) σ H P :=
  e_op ha hb fun x y H1 _ px py Q q => by
    obtain ⟨p, xs, rfl, hp, hall⟩ := px
    obtain rfl : y = .int (k : Int) := py
    obtain ⟨v, hv, pv⟩ := paired_get hall h
    exact ⟨p, xs, (k : Int), v, rfl, rfl, st_of hp, atI_nat hv, q v H1 (Ex.refl H1) pv⟩
theorem e_ixL {Ps : List VP} {k : Nat} (ha : EvP ta σ H (vL Ps)) (hb : EvP tb σ H (vI (k : Int))) (h : Ps[k]? = some P) : EvP (tOp (rIxL K) ta tb) σ H P :=
  e_op ha hb fun x y H1 _ px py Q q => by
    obtain ⟨p, xs, rfl, hp, hall⟩ := px
    obtain rfl : y = .int (k : Int) := py
    obtain ⟨v, hv, pv⟩ := paired_get hall h
    exact ⟨p, xs, (k : Int), v, rfl, rfl, sq_of hp, atI_nat hv, q v H1 (Ex.refl H1) pv⟩
theorem row_get {rw : List Int} {k : Nat} (h : k < rw.length) : (rw.map vI)[k]? = some (vI (rw.getD k 0)) := by
  rw [List.getElem?_map, List.getElem?_eq_getElem h, List.getD_eq_getElem?_getD, List.getElem?_eq_getElem h] <;> rfl
theorem e_row {rw : List Int} {k : Nat} (ha : EvP ta σ H (vRow rw)) (hb : EvP tb σ H (vI (k : Int))) (h : k < rw.length) : EvP (tOp (rIxT K) ta tb) σ H (vI (rw.getD k 0)) := e_ixT ha hb (row_get h)
theorem e_il {rw : List Int} {k : Nat} (ha : EvP ta σ H (vIL rw)) (hb : EvP tb σ H (vI (k : Int))) (h : k < rw.length) : EvP (tOp (rIxL K) ta tb) σ H (vI (rw.getD k 0)) := e_ixL ha hb (row_get h)
/-- displays -/
theorem e_tup {ta : TA} {Ps : List VP} (h : EvA ta σ H Ps) (hl : Ps.length ≤ 100000) : EvP (tTup ta) σ H (vT Ps) := fun H1 e Q q =>
  h H1 e _ fun vs H2 e2 ps => ⟨by rw [← Paired.length ps]; exact sz_of hl, fun p hp => q _ _ (e2.trans (Ex.new hp)) ⟨p, vs, rfl, upd_same, ps.mono (Ex.new hp)⟩⟩
theorem e_lst {ta : TA} {Ps : List VP} (h : EvA ta σ H Ps) (hl : Ps.length ≤ 100000) : EvP (tLst ta) σ H (vL Ps) := fun H1 e Q q =>
  h H1 e _ fun vs H2 e2 ps => ⟨by rw [← Paired.length ps]; exact sz_of hl, fun p hp => q _ _ (e2.trans (Ex.new hp)) ⟨p, vs, rfl, upd_same, ps.mono (Ex.new hp)⟩⟩
/-- conditional -/
theorem e_if {b : Bool} (h : EvT t σ H b) (h1 : b = true → EvP ta σ H P) (h2 : b = false → EvP tb σ H P) : EvP (tIf t ta tb) σ H P := fun H1 e Q q => h H1 e _ fun H2 e2 => by
  cases b with
  | true => exact h1 rfl H2 (e.trans e2) Q fun v H3 e3 => q v H3 (e2.trans e3)
  | false => exact h2 rfl H2 (e.trans e2) Q fun v H3 e3 => q v H3 (e2.trans e3)
/-- and, or, not, tests -/
theorem t_test {b : Bool} (h : EvP te σ H (vB b)) : EvT (tTest te) σ H b := fun H1 e Q q => h H1 e _ fun v H2 e2 p => ⟨b, p, q H2 e2⟩
theorem t_B {b : Bool} (h : EvP te σ H (vB b)) : EvT (tB te) σ H b := fun H1 e Q q => h H1 e _ fun v H2 e2 p => ⟨b, p, q H2 e2⟩
theorem e_and {a b : Bool} (h1 : EvP ta σ H (vB a)) (h2 : a = true → EvP tb σ H (vB b)) : EvP (tAndV ta tb) σ H (vB (a && b)) := fun H1 e Q q => h1 H1 e _ fun v H2 e2 p => ⟨a, p, by
  cases a with
  | true => exact h2 rfl H2 (e.trans e2) Q fun v H3 e3 => q v H3 (e2.trans e3)
  | false => exact q _ H2 e2 rfl⟩
theorem e_not {a : Bool} (h1 : EvP ta σ H (vB a)) : EvP (tNotV ta) σ H (vB (!a)) := fun H1 e Q q => h1 H1 e _ fun v H2 e2 p => ⟨a, p, q _ H2 e2 rfl⟩
theorem e_bool {a b : Bool} (h : EvP te σ H (vB a)) (e : a = b) : EvP te σ H (vB b) := e ▸ h
/-- a <= b < c, of ints -/
theorem e_chain2 {g g' : Int → Int → Bool} {i j k : Int} (ha : EvP ta σ H (vI i)) (hb : EvP tb σ H (vI j)) (hc : EvP tc σ H (vI k)) :
    EvP (tChain (rI0 fun i j => .bl (g i j)) (rI0 fun i j => .bl (g' i j)) ta tb tc) σ H (vB (g i j && g' j k)) := fun H1 e Q q =>
  ha H1 e _ fun x H2 e2 px => hb H2 (e.trans e2) _ fun y H3 e3 py => ⟨i, j, px, py, g i j, rfl, by
    cases hg : g i j with
    | true =>
      refine hc H3 ((e.trans e2).trans e3) _ fun z H4 e4 pz => ⟨j, k, py, pz, ?_⟩
      have := q (.bl (g' j k)) H4 ((e2.trans e3).trans e4) (by rw [hg] <;> rfl)
      exact this
    | false => exact q _ H3 (e2.trans e3) (by rw [hg] <;> rfl)⟩
theorem t_chain2 {g g' : Int → Int → Bool} {i j k : Int} (ha : EvP ta σ H (vI i)) (hb : EvP tb σ H (vI j)) (hc : EvP tc σ H (vI k)) :
    EvT (tTest (tChain (rI0 fun i j => .bl (g i j)) (rI0 fun i j => .bl (g' i j)) ta tb tc)) σ H (g i j && g' j k) := t_test (e_chain2 ha hb hc)
theorem e_chain3 {g g' g2 : Int → Int → Bool} {i j k l : Int} (ha : EvP ta σ H (vI i)) (hb : EvP tb σ H (vI j)) (hc : EvP tc σ H (vI k)) (hd : EvP td σ H (vI l)) :
    EvP (LR.tChain3 (rI0 fun i j => .bl (g i j)) (rI0 fun i j => .bl (g' i j)) (rI0 fun i j => .bl (g2 i j)) ta tb tc td) σ H (vB (g i j && (g' j k && g2 k l))) := fun H1 e Q q =>
  ha H1 e _ fun x H2 e2 px => hb H2 (e.trans e2) _ fun y H3 e3 py => ⟨i, j, px, py, g i j, rfl, by
    cases hg : g i j with
    | false => exact q _ H3 (e2.trans e3) (by rw [hg] <;> rfl)
    | true =>
      refine hc H3 ((e.trans e2).trans e3) _ fun z H4 e4 pz => ⟨j, k, py, pz, g' j k, rfl, ?_⟩
      cases hg' : g' j k with
      | false => exact q _ H4 ((e2.trans e3).trans e4) (by rw [hg, hg'] <;> rfl)
      | true =>
        refine hd H4 (((e.trans e2).trans e3).trans e4) _ fun z' H5 e5 pz' => ⟨k, l, pz, pz', ?_⟩
        exact q (.bl (g2 k l)) H5 (((e2.trans e3).trans e4).trans e5) (by rw [hg, hg'] <;> rfl)⟩
/-- calls of built-ins -/
theorem e_cb {r : List V → Hp → VK → Prop} {ta : TA} {Ps : List VP} (h : EvA ta σ H Ps) (hr : ∀ vs H1, Ex H H1 → All H1 Ps vs → ∀ Q : VK, (∀ v H2, Ex H1 H2 → P.is H2 v → Q v H2) → r vs H1 Q) : EvP (tCB r ta) σ H P := fun H1 e Q q =>
  h H1 e _ fun vs H2 e2 ps => hr vs H2 (e.trans e2) ps Q fun v H3 e3 p => q v H3 (e2.trans e3) p
theorem all1 {P : VP} {vs : List V} (h : All H [P] vs) : ∃ v, vs = [v] ∧ P.is H v := by
  cases h with
  | cons a b => cases b; exact ⟨_, rfl, a⟩
theorem all2 {P P2 : VP} {vs : List V} (h : All H [P, P2] vs) : ∃ v w, vs = [v, w] ∧ P.is H v ∧ P2.is H w := by
  cases h with
  | cons a b =>
    obtain ⟨w, rfl, c⟩ := all1 b
    exact ⟨_, w, rfl, a, c⟩
theorem all3 {P P2 P3 : VP} {vs : List V} (h : All H [P, P2, P3] vs) : ∃ v w x, vs = [v, w, x] ∧ P.is H v ∧ P2.is H w ∧ P3.is H x := by
  cases h with
  | cons a b =>
    obtain ⟨w, x, rfl, c, d⟩ := all2 b
    exact ⟨_, w, x, rfl, a, c, d⟩
theorem all4 {P P2 P3 P4 : VP} {vs : List V} (h : All H [P, P2, P3, P4] vs) : ∃ v w x y, vs = [v, w, x, y] ∧ P.is H v ∧ P2.is H w ∧ P3.is H x ∧ P4.is H y := by
  cases h with
  | cons a b =>
    obtain ⟨w, x, y, rfl, c, d, e⟩ := all3 b
    exact ⟨_, w, x, y, rfl, a, c, d, e⟩
theorem e_lenT {Ps : List VP} (ha : EvP ta σ H (vT Ps)) : EvP (tCB (fun xs H Q => ∃ p ys, xs = [.ref p] ∧ (SqL K H p ys ∨ SqT K H p ys) ∧ Q (.int ys.length) H) (tCons ta tNil)) σ H (vI (Ps.length : Int)) :=
  e_cb (a_cons ha a_nil) fun vs H1 _ ps Q q => by
    obtain ⟨v, rfl, p, xs, rfl, hp, hall⟩ := all1 ps
    exact ⟨p, xs, rfl, .inr (st_of hp), q _ H1 (Ex.refl H1) (by show V.int _ = V.int _; rw [Paired.length hall])⟩
theorem e_lenL {Ps : List VP} (ha : EvP ta σ H (vL Ps)) : EvP (tCB (fun xs H Q => ∃ p ys, xs = [.ref p] ∧ (SqL K H p ys ∨ SqT K H p ys) ∧ Q (.int ys.length) H) (tCons ta tNil)) σ H (vI (Ps.length : Int)) :=
  e_cb (a_cons ha a_nil) fun vs H1 _ ps Q q => by
    obtain ⟨v, rfl, p, xs, rfl, hp, hall⟩ := all1 ps
    exact ⟨p, xs, rfl, .inl (sq_of hp), q _ H1 (Ex.refl H1) (by show V.int _ = V.int _; rw [Paired.length hall])⟩
theorem e_max2 {i j : Int} (ha : EvP ta σ H (vI i)) (hb : EvP tb σ H (vI j)) : EvP (tCB (fun xs H Q => ∃ i j, xs = [.int i, .int j] ∧ Q (.int (if j > i then j else i)) H) (tCons ta (tCons tb tNil))) σ H (vI (max i j)) :=
  e_cb (a_cons ha (a_cons hb a_nil)) fun vs H1 _ ps Q q => by
    obtain ⟨v, w, rfl, p1, p2⟩ := all2 ps
    obtain rfl : v = .int i := p1
    obtain rfl : w = .int j := p2
    exact ⟨i, j, rfl, q _ H1 (Ex.refl H1) (by show V.int _ = V.int _; congr 1; omega)⟩
theorem e_min2 {i j : Int} (ha : EvP ta σ H (vI i)) (hb : EvP tb σ H (vI j)) : EvP (tCB (fun xs H Q => ∃ i j, xs = [.int i, .int j] ∧ Q (.int (if j < i then j else i)) H) (tCons ta (tCons tb tNil))) σ H (vI (min i j)) :=
  e_cb (a_cons ha (a_cons hb a_nil)) fun vs H1 _ ps Q q => by
    obtain ⟨v, w, rfl, p1, p2⟩ := all2 ps
    obtain rfl : v = .int i := p1
    obtain rfl : w = .int j := p2
    exact ⟨i, j, rfl, q _ H1 (Ex.refl H1) (by show V.int _ = V.int _; congr 1; omega)⟩
theorem e_abs {i : Int} (ha : EvP ta σ H (vI i)) : EvP (tCB (fun xs H Q => ∃ i, xs = [.int i] ∧ Q (.int (if i < 0 then -i else i)) H) (tCons ta tNil)) σ H (vI (if i < 0 then -i else i)) :=
  e_cb (a_cons ha a_nil) fun vs H1 _ ps Q q => by
    obtain ⟨v, rfl, p1⟩ := all1 ps
    obtain rfl : v = .int i := p1
    exact ⟨i, rfl, q _ H1 (Ex.refl H1) rfl⟩
theorem e_int {i : Int} (ha : EvP ta σ H (vI i)) : EvP (tCB (fun xs H Q => (∃ i, xs = [.int i] ∧ Q (.int i) H) ∨ ∃ k, xs = [.bl k] ∧ Q (.int (if k then 1 else 0)) H) (tCons ta tNil)) σ H (vI i) :=
  e_cb (a_cons ha a_nil) fun vs H1 _ ps Q q => by
    obtain ⟨v, rfl, p1⟩ := all1 ps
    obtain rfl : v = .int i := p1
    exact .inl ⟨i, rfl, q _ H1 (Ex.refl H1) rfl⟩
/-- the greatest, the least of a list -/
def mx : List Int → Int
  | [] => 0
  | x :: xs => xs.foldl max x
def mn : List Int → Int
  | [] => 0
  | x :: xs => xs.foldl min x
theorem foldl_max : ∀ (xs : List Int) (x : Int), (xs.foldl max x = x ∨ xs.foldl max x ∈ xs) ∧ x ≤ xs.foldl max x ∧ ∀ y ∈ xs, y ≤ xs.foldl max x
  | [], x => ⟨.inl rfl, Int.le_refl _, fun y h => by simp at h⟩
  | a :: xs, x => by
    obtain ⟨h1, h2, h3⟩ := foldl_max xs (max x a)
    show (xs.foldl max (max x a) = x ∨ xs.foldl max (max x a) ∈ a :: xs) ∧ x ≤ xs.foldl max (max x a) ∧ ∀ y ∈ a :: xs, y ≤ xs.foldl max (max x a)
    refine ⟨?_, by omega, fun y hy => ?_⟩
    · rcases h1 with h1 | h1
      · by_cases hx : a ≤ x
        · exact .inl (by omega)
        · exact .inr (by rw [h1, show max x a = a by omega]; exact List.mem_cons_self)
      · exact .inr (List.mem_cons_of_mem _ h1)
    · rcases List.mem_cons.mp hy with rfl | hy
      · omega
      · exact h3 y hy
theorem foldl_min : ∀ (xs : List Int) (x : Int), (xs.foldl min x = x ∨ xs.foldl min x ∈ xs) ∧ xs.foldl min x ≤ x ∧ ∀ y ∈ xs, xs.foldl min x ≤ y
  | [], x => ⟨.inl rfl, Int.le_refl _, fun y h => by simp at h⟩
  | a :: xs, x => by
    obtain ⟨h1, h2, h3⟩ := foldl_min xs (min x a)
    show (xs.foldl min (min x a) = x ∨ xs.foldl min (min x a) ∈ a :: xs) ∧ xs.foldl min (min x a) ≤ x ∧ ∀ y ∈ a :: xs, xs.foldl min (min x a) ≤ y
    refine ⟨?_, by omega, fun y hy => ?_⟩
    · rcases h1 with h1 | h1
      · by_cases hx : x ≤ a
        · exact .inl (by omega)
        · exact .inr (by rw [h1, show min x a = a by omega]; exact List.mem_cons_self)
      · exact .inr (List.mem_cons_of_mem _ h1)
    · rcases List.mem_cons.mp hy with rfl | hy
      · omega
      · exact h3 y hy
theorem mx_mem {ns : List Int} (h : ns ≠ []) : mx ns ∈ ns := by
  cases ns with
  | nil => exact absurd rfl h
  | cons x xs =>
    rcases (foldl_max xs x).1 with e | e
    · show xs.foldl max x ∈ x :: xs
      rw [e]
      exact List.mem_cons_self
    · exact List.mem_cons_of_mem _ e
theorem mx_ge {ns : List Int} {y : Int} (h : y ∈ ns) : y ≤ mx ns := by
  cases ns with
  | nil => simp at h
  | cons x xs =>
    rcases List.mem_cons.mp h with rfl | h
    · exact (foldl_max xs y).2.1
    · exact (foldl_max xs x).2.2 y h
theorem mn_mem {ns : List Int} (h : ns ≠ []) : mn ns ∈ ns := by
  cases ns with
  | nil => exact absurd rfl h
  | cons x xs =>
    rcases (foldl_min xs x).1 with e | e
    · show xs.foldl min x ∈ x :: xs
      rw [e]
      exact List.mem_cons_self
    · exact List.mem_cons_of_mem _ e
theorem mn_le {ns : List Int} {y : Int} (h : y ∈ ns) : mn ns ≤ y := by
  cases ns with
  | nil => simp at h
  | cons x xs =>
    rcases List.mem_cons.mp h with rfl | h
    · exact (foldl_min xs y).2.1
    · exact (foldl_min xs x).2.2 y h
theorem e_mxL {ns : List Int} (ha : EvP ta σ H (vIL ns)) (hne : ns ≠ []) : EvP (tCB (rMax K) (tCons ta tNil)) σ H (vI (mx ns)) :=
  e_cb (a_cons ha a_nil) fun vs H1 _ ps Q q => by
    obtain ⟨v, rfl, pv⟩ := all1 ps
    obtain ⟨p, rfl, hp⟩ := vIL_is pv
    refine ⟨p, ns, rfl, sq_of hp, List.length_pos_iff.mpr hne, fun m hm hle => ?_⟩
    have e : m = mx ns := Int.le_antisymm (mx_ge hm) (hle _ (mx_mem hne))
    exact q _ H1 (Ex.refl H1) (by show V.int _ = V.int _; rw [e])
theorem e_mnL {ns : List Int} (ha : EvP ta σ H (vIL ns)) (hne : ns ≠ []) : EvP (tCB (rMin K) (tCons ta tNil)) σ H (vI (mn ns)) :=
  e_cb (a_cons ha a_nil) fun vs H1 _ ps Q q => by
    obtain ⟨v, rfl, pv⟩ := all1 ps
    obtain ⟨p, rfl, hp⟩ := vIL_is pv
    refine ⟨p, ns, rfl, sq_of hp, List.length_pos_iff.mpr hne, fun m hm hle => ?_⟩
    have e : m = mn ns := Int.le_antisymm (hle _ (mn_mem hne)) (mn_le hm)
    exact q _ H1 (Ex.refl H1) (by show V.int _ = V.int _; rw [e])
theorem e_mxT {i j : Int} (ha : EvP ta σ H (vT [vI i, vI j])) : EvP (tCB (LR.rMaxT K) (tCons ta tNil)) σ H (vI (max i j)) :=
  e_cb (a_cons ha a_nil) fun vs H1 _ ps Q q => by
    obtain ⟨v, rfl, p, xs, rfl, hp, hall⟩ := all1 ps
    obtain ⟨v, w, rfl, p1, p2⟩ := all2 hall
    obtain rfl : v = .int i := p1
    obtain rfl : w = .int j := p2
    exact ⟨p, i, j, rfl, st_of hp, q _ H1 (Ex.refl H1) rfl⟩
theorem e_mnT {i j : Int} (ha : EvP ta σ H (vT [vI i, vI j])) : EvP (tCB (LR.rMinT K) (tCons ta tNil)) σ H (vI (min i j)) :=
  e_cb (a_cons ha a_nil) fun vs H1 _ ps Q q => by
    obtain ⟨v, rfl, p, xs, rfl, hp, hall⟩ := all1 ps
    obtain ⟨v, w, rfl, p1, p2⟩ := all2 hall
    obtain rfl : v = .int i := p1
    obtain rfl : w = .int j := p2
    exact ⟨p, i, j, rfl, st_of hp, q _ H1 (Ex.refl H1) rfl⟩
theorem e_any {bs : List Bool} (ha : EvP ta σ H (vBL bs)) : EvP (tCB (rAny K) (tCons ta tNil)) σ H (vB (bs.any id)) :=
  e_cb (a_cons ha a_nil) fun vs H1 _ ps Q q => by
    obtain ⟨v, rfl, pv⟩ := all1 ps
    obtain ⟨p, rfl, hp⟩ := vBL_is pv
    exact ⟨p, bs, rfl, sq_of hp, q _ H1 (Ex.refl H1) rfl⟩
theorem e_all {bs : List Bool} (ha : EvP ta σ H (vBL bs)) : EvP (tCB (rAll K) (tCons ta tNil)) σ H (vB (bs.all id)) :=
  e_cb (a_cons ha a_nil) fun vs H1 _ ps Q q => by
    obtain ⟨v, rfl, pv⟩ := all1 ps
    obtain ⟨p, rfl, hp⟩ := vBL_is pv
    exact ⟨p, bs, rfl, sq_of hp, q _ H1 (Ex.refl H1) rfl⟩
/-- tuple(list), list(tuple) -/
theorem e_tupleOf {Ps : List VP} (ha : EvP ta σ H (vL Ps)) : EvP (tCB (fun xs H Q => ∃ p ys, xs = [.ref p] ∧ ((SqL K H p ys ∧ ∀ l, H l = none → Q (.ref l) (upd H l (.tup ys))) ∨ (SqT K H p ys ∧ Q (.ref p) H))) (tCons ta tNil)) σ H (vT Ps) :=
  e_cb (a_cons ha a_nil) fun vs H1 _ ps Q q => by
    obtain ⟨v, rfl, p, xs, rfl, hp, hall⟩ := all1 ps
    exact ⟨p, xs, rfl, .inl ⟨sq_of hp, fun l hl => q _ _ (Ex.new hl) ⟨l, xs, rfl, upd_same, hall.mono (Ex.new hl)⟩⟩⟩
theorem e_listOf {Ps : List VP} (ha : EvP ta σ H (vT Ps)) : EvP (tCB (fun xs H Q => ∃ p ys, xs = [.ref p] ∧ (SqL K H p ys ∨ SqT K H p ys) ∧ ∀ l, H l = none → Q (.ref l) (upd H l (.lst ys))) (tCons ta tNil)) σ H (vL Ps) :=
  e_cb (a_cons ha a_nil) fun vs H1 _ ps Q q => by
    obtain ⟨v, rfl, p, xs, rfl, hp, hall⟩ := all1 ps
    exact ⟨p, xs, rfl, .inr (st_of hp), fun l hl => q _ _ (Ex.new hl) ⟨l, xs, rfl, upd_same, hall.mono (Ex.new hl)⟩⟩
/-- sums of lists and tuples -/
theorem e_cat {Ps Qs : List VP} (ha : EvP ta σ H (vL Ps)) (hb : EvP tb σ H (vL Qs)) (hz : Ps.length + Qs.length ≤ 100000) : EvP (tOp rCat ta tb) σ H (vL (Ps ++ Qs)) :=
  e_op ha hb fun x y H1 _ px py Q q => by
    obtain ⟨a, xs, rfl, h1, a1⟩ := px
    obtain ⟨b, ys, rfl, h2, a2⟩ := py
    exact ⟨a, b, xs, ys, rfl, rfl, h1, h2, by rw [← Paired.length a1, ← Paired.length a2]; exact sz_of hz, fun p hp => q _ _ (Ex.new hp) ⟨p, _, rfl, upd_same, paired_app (a2.mono (Ex.new hp)) (a1.mono (Ex.new hp))⟩⟩
theorem e_catA {Ps Qs : List VP} (ha : EvP ta σ H (vT Ps)) (hb : EvP tb σ H (vT Qs)) (hz : Ps.length + Qs.length ≤ 100000) : EvP (tOp (rCatA K) ta tb) σ H (vT (Ps ++ Qs)) :=
  e_op ha hb fun x y H1 _ px py Q q => by
    obtain ⟨a, xs, rfl, h1, a1⟩ := px
    obtain ⟨b, ys, rfl, h2, a2⟩ := py
    refine ⟨a, b, xs, ys, rfl, rfl, st_of h1, st_of h2, by rw [← Paired.length a1, ← Paired.length a2]; exact sz_of hz, fun e => ?_, fun _ e => ?_, fun _ _ p hp => ?_⟩
    · subst e
      cases a1
      exact q _ H1 (Ex.refl H1) ⟨b, ys, rfl, h2, a2⟩
    · subst e
      cases a2
      rw [List.append_nil] at q
      exact q _ H1 (Ex.refl H1) ⟨a, xs, rfl, h1, a1⟩
    · exact q _ _ (Ex.new hp) ⟨p, _, rfl, upd_same, paired_app (a2.mono (Ex.new hp)) (a1.mono (Ex.new hp))⟩
/-- isinstance of an int, of a tuple -/
theorem e_isiI {n : String} {b : Bool} {i : Int} (ha : EvP ta σ H (vI i)) (hb : EvP tb σ H (vTy n)) (hk : kitB "int" n = some b) : EvP (tCB (rIsi K) (tCons ta (tCons tb tNil))) σ H (vB b) :=
  e_cb (a_cons ha (a_cons hb a_nil)) fun vs H1 _ ps Q q => by
    obtain ⟨v, w, rfl, p1, p2⟩ := all2 ps
    obtain rfl : v = .int i := p1
    obtain rfl : w = .ty n := p2
    exact ⟨_, _, .type "int", .type n, b, rfl, .ty n, .base (.int i), kit_ty hk, q _ H1 (Ex.refl H1) rfl⟩
theorem e_isiT {n : String} {b : Bool} {Ps : List VP} (ha : EvP ta σ H (vT Ps)) (hb : EvP tb σ H (vTy n)) (hk : kitB "tuple" n = some b) : EvP (tCB (rIsi K) (tCons ta (tCons tb tNil))) σ H (vB b) :=
  e_cb (a_cons ha (a_cons hb a_nil)) fun vs H1 _ ps Q q => by
    obtain ⟨v, w, rfl, ⟨p, xs, rfl, hp, _⟩, p2⟩ := all2 ps
    obtain rfl : w = .ty n := p2
    exact ⟨_, _, .type "tuple", .type n, b, rfl, .ty n, .base (.tup hp), kit_ty hk, q _ H1 (Ex.refl H1) rfl⟩
theorem e_isiL {n : String} {b : Bool} {Ps : List VP} (ha : EvP ta σ H (vL Ps)) (hb : EvP tb σ H (vTy n)) (hk : kitB "list" n = some b) : EvP (tCB (rIsi K) (tCons ta (tCons tb tNil))) σ H (vB b) :=
  e_cb (a_cons ha (a_cons hb a_nil)) fun vs H1 _ ps Q q => by
    obtain ⟨v, w, rfl, ⟨p, xs, rfl, hp, _⟩, p2⟩ := all2 ps
    obtain rfl : w = .ty n := p2
    exact ⟨_, _, .type "list", .type n, b, rfl, .ty n, .base (.lst hp), kit_ty hk, q _ H1 (Ex.refl H1) rfl⟩
end
end Lt
set_option maxHeartbeats 1000000
namespace Lt
open PySem L2 Evl
/-! ### values that a changed list does not touch -/
def Stb (O : VP) : Prop := ∀ (H : Hp) (p : Addr) (xs ys : List V) (v : V), H p = some (.lst xs) → O.is H v → O.is (upd H p (.lst ys)) v
theorem stb_V {x : V} : Stb (vV x) := fun _ _ _ _ _ _ h => h
theorem all_stb {H : Hp} {p : Addr} {xs ys : List V} (hp : H p = some (.lst xs)) : ∀ {Os : List VP} {vs : List V}, (∀ O ∈ Os, Stb O) → All H Os vs → All (upd H p (.lst ys)) Os vs
  | _, _, _, .nil => .nil
  | _, _, hs, .cons r t => .cons (hs _ List.mem_cons_self H p xs ys _ hp r) (all_stb hp (fun O hO => hs O (List.mem_cons_of_mem _ hO)) t)
theorem stb_T {Os : List VP} (h : ∀ O ∈ Os, Stb O) : Stb (vT Os) := fun H p xs ys v hp ⟨q, zs, h1, h2, h3⟩ => ⟨q, zs, h1, by
  rw [upd_ne (ne_of h2 hp (by intro z; cases z))]
  exact h2, all_stb hp h h3⟩
theorem stb_row {r : List Int} : Stb (vRow r) := stb_T fun O hO => by
  obtain ⟨i, _, rfl⟩ := List.mem_map.mp hO
  exact stb_V

/-! ### what is walked -/
/-- n turns; at turn i an item of which I i holds -/
def EvI (wi : TI) (σ : L2.St) (H : Hp) (n : Nat) (I : Nat → VP) : Prop := ∀ H1, Ex H H1 → ∀ R : It → Hp → Prop,
  (∀ J H2 (G : Hp → Prop), Ex H1 H2 → (∀ H3, Ex H2 H3 → G H3) → Walk J n G (fun i H x H' => Ex H H' ∧ (I i).is H' x) → R J H2) → wi σ H1 R
section
variable {K : PySem.W.Frag} {σ : L2.St} {H H' : Hp} {ta tb tc td te tx : TE} {t u : TT} {P P1 P2 P3 : VP} {r : R2}
theorem i_range1 {ta : TA} {n : Int} (h : EvA ta σ H [vI n]) (hn : 0 ≤ n ∧ n ≤ 40000) : EvI (iRng1 ta) σ H n.toNat (fun i => vI (i : Int)) := fun H1 e R q =>
  h H1 e _ fun vs H2 e2 ps => by
    obtain ⟨v, rfl, pv⟩ := all1 ps
    obtain rfl : v = .int n := pv
    refine ⟨n, rfl, by omega, by omega, q _ H2 (fun _ => True) e2 (fun _ _ => trivial) ?_⟩
    refine walk_range.mono (fun _ h => h) fun i H x H' _ _ y => ?_
    obtain ⟨rfl, rfl⟩ := y
    exact ⟨Ex.refl _, by show V.int _ = V.int _; rw [Int.zero_add]⟩
theorem i_range2 {ta : TA} {lo n : Int} (h : EvA ta σ H [vI lo, vI n]) (hn : -40000 ≤ lo ∧ lo ≤ 40000 ∧ -40000 ≤ n ∧ n ≤ 40000) : EvI (iRng2 ta) σ H (n - lo).toNat (fun i => vI (lo + (i : Int))) := fun H1 e R q =>
  h H1 e _ fun vs H2 e2 ps => by
    obtain ⟨v, w, rfl, pv, pw⟩ := all2 ps
    obtain rfl : v = .int lo := pv
    obtain rfl : w = .int n := pw
    refine ⟨lo, n, rfl, ⟨by omega, by omega, by omega, by omega⟩, q _ H2 (fun _ => True) e2 (fun _ _ => trivial) ?_⟩
    refine walk_range.mono (fun _ h => h) fun i H x H' _ _ y => ?_
    obtain ⟨rfl, rfl⟩ := y
    exact ⟨Ex.refl _, rfl⟩
theorem i_list {Ps : List VP} {n : Nat} {I : Nat → VP} (h : EvP te σ H (vL Ps)) (hn : Ps.length = n) (hI : ∀ i, i < n → Ps[i]? = some (I i)) : EvI (iList K te) σ H n I := fun H1 e R q =>
  h H1 e _ fun v H2 e2 pv => by
    obtain ⟨p, xs, rfl, hp, hall⟩ := pv
    refine ⟨p, rfl, ⟨xs, sq_of hp⟩, q _ H2 (fun H3 => SqL K H3 p xs ∧ All H3 Ps xs) e2 (fun H3 e3 => ⟨sq_of (e3 _ _ hp), hall.mono e3⟩) ?_⟩
    have ln : xs.length = n := by rw [← Paired.length hall]; exact hn
    subst ln
    refine walk_list.mono (fun _ h => h.1) fun i H x H' hi hG y => ?_
    obtain ⟨rfl, hx⟩ := y
    obtain ⟨w, hw, pw⟩ := paired_get hG.2 (hI i hi)
    rw [hx] at hw
    cases hw
    exact ⟨Ex.refl _, pw⟩
theorem i_tup {Ps : List VP} {n : Nat} {I : Nat → VP} (h : EvP te σ H (vT Ps)) (hn : Ps.length = n) (hI : ∀ i, i < n → Ps[i]? = some (I i)) : EvI (iTup K te) σ H n I := fun H1 e R q =>
  h H1 e _ fun v H2 e2 pv => by
    obtain ⟨p, xs, rfl, hp, hall⟩ := pv
    refine ⟨p, rfl, ⟨xs, st_of hp⟩, q _ H2 (fun H3 => SqT K H3 p xs ∧ All H3 Ps xs) e2 (fun H3 e3 => ⟨st_of (e3 _ _ hp), hall.mono e3⟩) ?_⟩
    have ln : xs.length = n := by rw [← Paired.length hall]; exact hn
    subst ln
    refine walk_tup.mono (fun _ h => h.1) fun i H x H' hi hG y => ?_
    obtain ⟨rfl, hx⟩ := y
    obtain ⟨w, hw, pw⟩ := paired_get hG.2 (hI i hi)
    rw [hx] at hw
    cases hw
    exact ⟨Ex.refl _, pw⟩
theorem pair_is {H H' : Hp} {T : Addr} {x y : V} (nT : H T = none) (e : H' = upd H T (.tup [x, y])) (h1 : P1.is H x) (h2 : P2.is H y) : Ex H H' ∧ (vT [P1, P2]).is H' (.ref T) := by
  subst e
  exact ⟨Ex.new nT, T, [x, y], rfl, upd_same, .cons (P1.mono (Ex.new nT) h1) (.cons (P2.mono (Ex.new nT) h2) .nil)⟩
theorem i_enumT {Ps : List VP} {n : Nat} {I : Nat → VP} (h : EvP te σ H (vT Ps)) (hn : Ps.length = n) (hI : ∀ i, i < n → Ps[i]? = some (I i)) : EvI (ZN.iEnumT K (tCons te tNil)) σ H n (fun i => vT [vI (i : Int), I i]) := fun H1 e R q =>
  a_cons h a_nil H1 e _ fun vs H2 e2 ps => by
    obtain ⟨v, rfl, p, xs, rfl, hp, hall⟩ := all1 ps
    refine ⟨p, xs, rfl, st_of hp, q _ H2 (fun H3 => SqT K H3 p xs ∧ All H3 Ps xs) e2 (fun H3 e3 => ⟨st_of (e3 _ _ hp), hall.mono e3⟩) ?_⟩
    have ln : xs.length = n := by rw [← Paired.length hall]; exact hn
    subst ln
    refine ZN.walk_enumT.mono (fun _ h => h.1) fun i H x H' hi hG y => ?_
    obtain ⟨T, a, b, rfl, nT, eH, ha, hb⟩ := y
    cases ha
    obtain ⟨w, hw, pw⟩ := paired_get hG.2 (hI i hi)
    have e' : some b = some w := hb.symm.trans hw
    cases e'
    exact pair_is nT eH rfl pw
theorem zip_core {Ps Qs : List VP} {n : Nat} {I I' : Nat → VP} {J : Addr → Addr → It} (hn : Ps.length = n) (hn' : Qs.length = n) (hI : ∀ i, i < n → Ps[i]? = some (I i)) (hI' : ∀ i, i < n → Qs[i]? = some (I' i))
    (hJ : ∀ {a b : Addr} {xs ys : List V}, xs.length = ys.length → Walk (J a b) xs.length (fun H => SqT K H a xs ∧ SqT K H b ys) (YPair (fun i => xs[i]?) (fun i => ys[i]?)))
    {H1 H2 : Hp} {vs : List V} {R : It → Hp → Prop} (e2 : Ex H1 H2) (ps : All H2 [vT Ps, vT Qs] vs) (q : ∀ J H2 (G : Hp → Prop), Ex H1 H2 → (∀ H3, Ex H2 H3 → G H3) → Walk J n G (fun i H x H' => Ex H H' ∧ (vT [I i, I' i]).is H' x) → R J H2) :
    ∃ a b xs ys, vs = [.ref a, .ref b] ∧ SqT K H2 a xs ∧ SqT K H2 b ys ∧ R (J a b) H2 := by
  obtain ⟨v, w, rfl, ⟨p, xs, rfl, hp, hall⟩, p', ys, rfl, hp', hall'⟩ := all2 ps
  refine ⟨p, p', xs, ys, rfl, st_of hp, st_of hp', q _ H2 (fun H3 => (SqT K H3 p xs ∧ SqT K H3 p' ys) ∧ All H3 Ps xs ∧ All H3 Qs ys) e2 (fun H3 e3 => ⟨⟨st_of (e3 _ _ hp), st_of (e3 _ _ hp')⟩, hall.mono e3, hall'.mono e3⟩) ?_⟩
  have ln : xs.length = n := by rw [← Paired.length hall]; exact hn
  have ln' : ys.length = n := by rw [← Paired.length hall']; exact hn'
  subst ln
  refine (hJ ln'.symm).mono (fun _ h => h.1) fun i H x H' hi hG y => ?_
  obtain ⟨T, a, b, rfl, nT, eH, ha, hb⟩ := y
  obtain ⟨w, hw, pw⟩ := paired_get hG.2.1 (hI i hi)
  obtain ⟨w', hw', pw'⟩ := paired_get hG.2.2 (hI' i hi)
  have e1 : some a = some w := ha.symm.trans hw
  have e2 : some b = some w' := hb.symm.trans hw'
  cases e1
  cases e2
  exact pair_is nT eH pw pw'
theorem i_zipN {Ps Qs : List VP} {n : Nat} {I I' : Nat → VP} (h : EvP ta σ H (vT Ps)) (h' : EvP tb σ H (vT Qs)) (hn : Ps.length = n) (hn' : Qs.length = n) (hI : ∀ i, i < n → Ps[i]? = some (I i)) (hI' : ∀ i, i < n → Qs[i]? = some (I' i)) :
    EvI (ZN.iZipN K (tCons ta (tCons tb tNil))) σ H n (fun i => vT [I i, I' i]) := fun H1 e R q =>
  a_cons h (a_cons h' a_nil) H1 e _ fun vs H2 e2 ps => zip_core hn hn' hI hI' ZN.walk_zipN e2 ps q
theorem i_zipT {Ps Qs : List VP} {n : Nat} {I I' : Nat → VP} (h : EvP ta σ H (vT Ps)) (h' : EvP tb σ H (vT Qs)) (hn : Ps.length = n) (hn' : Qs.length = n) (hI : ∀ i, i < n → Ps[i]? = some (I i)) (hI' : ∀ i, i < n → Qs[i]? = some (I' i)) :
    EvI (RZ.iZipA K (tCons ta (tCons tb tNil))) σ H n (fun i => vT [I i, I' i]) := fun H1 e R q =>
  a_cons h (a_cons h' a_nil) H1 e _ fun vs H2 e2 ps => by
    obtain ⟨a, b, xs, ys, e1, s1, s2, r⟩ := zip_core hn hn' hI hI' ZN.walk_zipT e2 ps q
    exact ⟨a, b, xs, ys, e1, .inr ⟨s1, s2, r⟩⟩

/-! ### comprehensions -/
/-- those of the first n turns that are kept -/
def giv {α : Type} (n : Nat) (f : Nat → Bool) (O : Nat → α) : List α := ((List.range n).filter f).map O
theorem giv_yes {α : Type} {n : Nat} {f : Nat → Bool} {O : Nat → α} (h : f n = true) : giv (n + 1) f O = giv n f O ++ [O n] := by
  unfold giv
  rw [List.range_succ, List.filter_append, List.map_append, List.filter_cons, if_pos h] <;> rfl
theorem giv_no {α : Type} {n : Nat} {f : Nat → Bool} {O : Nat → α} (h : f n = false) : giv (n + 1) f O = giv n f O := by
  unfold giv
  rw [List.range_succ, List.filter_append, List.map_append, List.filter_cons, if_neg (by rw [h]; decide)]
  show _ ++ [] = _
  rw [List.append_nil]
theorem giv_len {α : Type} (n : Nat) (f : Nat → Bool) (O : Nat → α) : (giv n f O).length ≤ n := by
  unfold giv
  rw [List.length_map]
  have h := List.length_filter_le f (List.range n)
  rw [List.length_range] at h
  exact h
theorem giv_all {α : Type} (n : Nat) (O : Nat → α) : giv n (fun _ => true) O = (List.range n).map O := by
  unfold giv
  congr 1
  exact List.filter_eq_self.mpr fun _ _ => rfl
theorem giv_mem {α : Type} {n : Nat} {f : Nat → Bool} {O : Nat → α} {x : α} (h : x ∈ giv n f O) : ∃ i, i < n ∧ f i = true ∧ x = O i := by
  unfold giv at h
  obtain ⟨i, hi, rfl⟩ := List.mem_map.mp h
  obtain ⟨h1, h2⟩ := List.mem_filter.mp hi
  exact ⟨i, List.mem_range.mp h1, h2, rfl⟩
/-- [te for g in wi if tt]; gs: the slots behind the target's store -/
theorem e_lc {wi : TI} {g : TG} {tt : TT} {vs : List Nat} {n : Nat} {I O : Nat → VP} (f : Nat → Bool) (hI : EvI wi σ H n I) (hz : n ≤ 40000) (hO : ∀ i, i < n → f i = true → Stb (O i))
    (hg : ∀ (i : Nat) (x : V) (H1 : Hp) (Q : L2.St → Hp → Prop), i < n → Ex H H1 → (I i).is H1 x → (∀ σ2 H2, Ex H1 H2 → wipe σ2 vs = wipe σ vs → EvT tt σ2 H2 (f i) → (f i = true → EvP te σ2 H2 (O i)) → Q σ2 H2) → g x (wipe σ vs) H1 Q) :
    EvP (tLc wi g tt te vs) σ H (vL (giv n f O)) := fun H0 e Q q => hI H0 e _ fun J H1 G e1 hG hW Dl hD => by
  refine lc_it hW (Pv := fun i H' => Ex H1 H' ∧ ∃ acc, H' Dl = some (.lst acc) ∧ All H' (giv i f O) acc) ?_ ?_ ?_ ?_
  · exact ⟨Ex.new hD, [], upd_same, .nil⟩
  · exact fun i H' _ p => hG H' p.1
  · rintro i x H3 H4 hi ⟨p1, acc, p2, p3⟩ ⟨y1, y2⟩
    refine hg i x H4 _ hi ((e.trans e1).trans (p1.trans y1)) y2 fun σ2 H5 e5 hw ht he => ⟨hw, ?_⟩
    refine ht H5 (Ex.refl _) _ fun H6 e6 => ?_
    have up : Ex H3 H6 := (y1.trans e5).trans e6
    cases hf : f i with
    | true =>
      refine he hf H6 e6 _ fun v H7 e7 pv => ⟨acc, (up.trans e7) _ _ p2, ?_, Ex.mut (p1.trans (up.trans e7)) hD, acc ++ [v], upd_same, ?_⟩
      · have l := Paired.length p3
        have l2 := giv_len i f O
        exact sz_lt (by omega)
      · rw [giv_yes hf]
        have hl := (up.trans e7) _ _ p2
        refine paired_snoc (F := fun (P : VP) (x : V) => P.is (upd H7 Dl (.lst (acc ++ [v]))) x) (hO i hi hf _ _ _ _ _ hl pv) (all_stb hl (fun o ho => ?_) (p3.mono (up.trans e7)))
        obtain ⟨j, hj, hfj, rfl⟩ := giv_mem ho
        exact hO j (by omega) hfj
    | false =>
      refine ⟨p1.trans up, acc, up _ _ p2, ?_⟩
      rw [giv_no hf]
      exact p3.mono up
  · rintro H' ⟨p1, acc, p2, p3⟩
    exact q _ H' (e1.trans p1) ⟨Dl, acc, rfl, p2, p3⟩
/-- the target one name, every turn kept -/
theorem e_lcN {wi : TI} {j : Nat} {vs : List Nat} {n : Nat} {I O : Nat → VP} (hI : EvI wi σ H n I) (hz : n ≤ 40000) (hO : ∀ i, i < n → Stb (O i)) (hw : ∀ x, wipe ((wipe σ vs).set j (some x)) vs = wipe σ vs)
    (he : ∀ (i : Nat) (x : V) H1, i < n → Ex H H1 → (I i).is H1 x → EvP te ((wipe σ vs).set j (some x)) H1 (O i)) : EvP (tLc wi (gName j) tYes te vs) σ H (vL ((List.range n).map O)) := by
  rw [← giv_all]
  exact e_lc _ hI hz (fun i hi _ => hO i hi) fun i x H1 Q hi e px k => k _ H1 (Ex.refl _) (hw x) (fun H2 _ Q q => q H2 (Ex.refl _)) fun _ => he i x H1 hi e px
/-- .. with a test -/
theorem e_lcNf {wi : TI} {j : Nat} {vs : List Nat} {n : Nat} {I O : Nat → VP} (f : Nat → Bool) (hI : EvI wi σ H n I) (hz : n ≤ 40000) (hO : ∀ i, i < n → Stb (O i)) (hw : ∀ x, wipe ((wipe σ vs).set j (some x)) vs = wipe σ vs)
    (ht : ∀ (i : Nat) (x : V) H1, i < n → Ex H H1 → (I i).is H1 x → EvT t ((wipe σ vs).set j (some x)) H1 (f i))
    (he : ∀ (i : Nat) (x : V) H1, i < n → Ex H H1 → (I i).is H1 x → f i = true → EvP te ((wipe σ vs).set j (some x)) H1 (O i)) : EvP (tLc wi (gName j) t te vs) σ H (vL (giv n f O)) :=
  e_lc f hI hz (fun i hi _ => hO i hi) fun i x H1 Q hi e px k => k _ H1 (Ex.refl _) (hw x) (ht i x H1 hi e px) (he i x H1 hi e px)
/-- the target two names -/
theorem g_two {i j : Nat} {v : V} {Q : L2.St → Hp → Prop} (h : (vT [P1, P2]).is H v) (k : ∀ x y, P1.is H x → P2.is H y → Q ((σ.set i (some x)).set j (some y)) H) : gTup K 2 (gCons (gName i) (gCons (gName j) gNil)) v σ H Q := by
  obtain ⟨p, xs, rfl, hp, hall⟩ := h
  obtain ⟨x, y, rfl, px, py⟩ := all2 hall
  exact ⟨p, [x, y], rfl, st_of hp, rfl, x, [y], rfl, y, [], rfl, rfl, k x y px py⟩
theorem g_three {i j l : Nat} {v : V} {Q : L2.St → Hp → Prop} (h : (vT [P1, P2, P3]).is H v) (k : ∀ x y z, P1.is H x → P2.is H y → P3.is H z → Q (((σ.set i (some x)).set j (some y)).set l (some z)) H) : gTup K 3 (gCons (gName i) (gCons (gName j) (gCons (gName l) gNil))) v σ H Q := by
  obtain ⟨p, xs, rfl, hp, hall⟩ := h
  obtain ⟨x, y, z, rfl, px, py, pz⟩ := all3 hall
  exact ⟨p, [x, y, z], rfl, st_of hp, rfl, x, [y, z], rfl, y, [z], rfl, z, [], rfl, rfl, k x y z px py pz⟩
theorem e_lc2 {wi : TI} {j l : Nat} {vs : List Nat} {n : Nat} {I I' O : Nat → VP} (hI : EvI wi σ H n (fun i => vT [I i, I' i])) (hz : n ≤ 40000) (hO : ∀ i, i < n → Stb (O i)) (hw : ∀ x y, wipe (((wipe σ vs).set j (some x)).set l (some y)) vs = wipe σ vs)
    (he : ∀ (i : Nat) (x y : V) H1, i < n → Ex H H1 → (I i).is H1 x → (I' i).is H1 y → EvP te (((wipe σ vs).set j (some x)).set l (some y)) H1 (O i)) : EvP (tLc wi (gTup K 2 (gCons (gName j) (gCons (gName l) gNil))) tYes te vs) σ H (vL ((List.range n).map O)) := by
  rw [← giv_all]
  exact e_lc _ hI hz (fun i hi _ => hO i hi) fun i x H1 Q hi e px k => g_two px fun a b pa pb => k _ H1 (Ex.refl _) (hw a b) (fun H2 _ Q q => q H2 (Ex.refl _)) fun _ => he i a b H1 hi e pa pb

/-! ### calls of the program's own defs -/
/-- a promise: such arguments, such an answer; all that stood stands -/
def spF (R : List VP → VP → Prop) : Sp := fun vs H Q _ => ∃ Ps P, R Ps P ∧ All H Ps vs ∧ ∀ v H2, Ex H H2 → P.is H2 v → Q v H2
theorem e_call {R : List VP → VP → Prop} {E : XK} {ta : TA} {Ps : List VP} (h : EvA ta σ H Ps) (hR : R Ps P) : EvP (tCall (spF R) [] E ta) σ H P := fun H1 e Q q =>
  h H1 e _ fun vs H2 e2 ps => ⟨Ps, P, hR, by rw [List.append_nil]; exact ps, fun v H3 e3 p => q v H3 (e2.trans e3) p⟩

/-! ### statements -/
variable {D : Ends} {tu tw tz : TS} {g : TG}
theorem p_set {i : Nat} (h : EvP te σ H P) (k : ∀ v H1, Ex H H1 → P.is H1 v → tz D (σ.set i (some v)) H1) : tSeq (tAsg te (gName i)) tz D σ H := h H (Ex.refl H) _ k
theorem p_set1 {i : Nat} (h : EvP te σ H P) (k : ∀ v H1, Ex H H1 → P.is H1 v → D.nx (σ.set i (some v)) H1) : tAsg te (gName i) D σ H := h H (Ex.refl H) _ k
theorem p_ret (h : EvP te σ H P) (k : ∀ v H1, Ex H H1 → P.is H1 v → D.rt v H1) : tRet te D σ H := h H (Ex.refl H) _ k
theorem p_drop (h : EvP te σ H P) (k : ∀ H1, Ex H H1 → tz D σ H1) : tSeq (tDrop te) tz D σ H := h H (Ex.refl H) _ fun _ H1 e _ => k H1 e
theorem p_par {i j : Nat} {ta : TA} (h : EvA ta σ H [P1, P2]) (k : ∀ v w H1, Ex H H1 → P1.is H1 v → P2.is H1 w → tz D ((σ.set i (some v)).set j (some w)) H1) : tSeq (tPar i j ta) tz D σ H := h H (Ex.refl H) _ fun vs H1 e ps => by
  obtain ⟨v, w, rfl, p1, p2⟩ := all2 ps
  exact ⟨v, w, rfl, k v w H1 e p1 p2⟩
theorem p_two {i j : Nat} (h : EvP te σ H (vT [P1, P2])) (k : ∀ v w H1, Ex H H1 → P1.is H1 v → P2.is H1 w → tz D ((σ.set i (some v)).set j (some w)) H1) : tSeq (tAsg te (gTup K 2 (gCons (gName i) (gCons (gName j) gNil)))) tz D σ H := h H (Ex.refl H) _ fun v H1 e p =>
  g_two p fun x y px py => k x y H1 e px py
theorem p_if {b : Bool} (h : EvT t σ H b) (h1 : b = true → ∀ H1, Ex H H1 → tu { D with nx := tz D } σ H1) (h2 : b = false → ∀ H1, Ex H H1 → tw { D with nx := tz D } σ H1) : tSeq (tIfS t tu tw) tz D σ H := h H (Ex.refl H) _ fun H1 e => by
  cases b with
  | true => exact h1 rfl H1 e
  | false => exact h2 rfl H1 e
theorem p_if1 {b : Bool} (h : EvT t σ H b) (h1 : b = true → ∀ H1, Ex H H1 → tu D σ H1) (h2 : b = false → ∀ H1, Ex H H1 → tw D σ H1) : tIfS t tu tw D σ H := h H (Ex.refl H) _ fun H1 e => by
  cases b with
  | true => exact h1 rfl H1 e
  | false => exact h2 rfl H1 e
/-- an if whose test is false, without else -/
theorem p_no (h : EvT t σ H false) (k : ∀ H1, Ex H H1 → tz D σ H1) : tSeq (tIfS t tu tNext) tz D σ H := h H (Ex.refl H) _ fun H1 e => k H1 e
theorem p_no1 (h : EvT t σ H false) (k : ∀ H1, Ex H H1 → D.nx σ H1) : tIfS t tu tNext D σ H := h H (Ex.refl H) _ fun H1 e => k H1 e
theorem p_ends (h : tz D σ H) : tSeq tNext tz D σ H := h
end
end Lt
set_option maxHeartbeats 1000000
namespace Lt
open PySem L2 Evl
/-! ### loops whose body changes something: what is walked is told of a heap H0 that knows less -/
def EvW (wi : TI) (σ : L2.St) (H0 : Hp) (n : Nat) (I : Nat → VP) : Prop := ∀ H1, Ex H0 H1 → ∀ R : It → Hp → Prop,
  (∀ J H2 (G : Hp → Prop), Ex H1 H2 → (∀ H3, Ex H0 H3 → G H3) → Walk J n G (fun i H x H' => Ex H H' ∧ (I i).is H' x) → R J H2) → wi σ H1 R
section
variable {K : PySem.W.Frag} {σ : L2.St} {H H' H0 : Hp} {ta tb tc td te tx : TE} {t u : TT} {P P1 P2 P3 : VP} {r : R2}
theorem w_range1 {ta : TA} {n : Int} (h : EvA ta σ H [vI n]) (hn : 0 ≤ n ∧ n ≤ 40000) : EvW (iRng1 ta) σ H n.toNat (fun i => vI (i : Int)) := fun H1 e R q =>
  h H1 e _ fun vs H2 e2 ps => by
    obtain ⟨v, rfl, pv⟩ := all1 ps
    obtain rfl : v = .int n := pv
    refine ⟨n, rfl, by omega, by omega, q _ H2 (fun _ => True) e2 (fun _ _ => trivial) ?_⟩
    refine walk_range.mono (fun _ h => h) fun i H x H' _ _ y => ?_
    obtain ⟨rfl, rfl⟩ := y
    exact ⟨Ex.refl _, by show V.int _ = V.int _; rw [Int.zero_add]⟩
theorem w_rangeN {ta : TA} {n : Nat} (h : EvA ta σ H [vI (n : Int)]) (hn : n ≤ 40000) : EvW (iRng1 ta) σ H n (fun i => vI (i : Int)) := w_range1 h ⟨by omega, by omega⟩
theorem i_rangeN {ta : TA} {n : Nat} (h : EvA ta σ H [vI (n : Int)]) (hn : n ≤ 40000) : EvI (iRng1 ta) σ H n (fun i => vI (i : Int)) := i_range1 h ⟨by omega, by omega⟩
theorem w_range2 {ta : TA} {lo n : Int} (h : EvA ta σ H [vI lo, vI n]) (hn : -40000 ≤ lo ∧ lo ≤ 40000 ∧ -40000 ≤ n ∧ n ≤ 40000) : EvW (iRng2 ta) σ H (n - lo).toNat (fun i => vI (lo + (i : Int))) := fun H1 e R q =>
  h H1 e _ fun vs H2 e2 ps => by
    obtain ⟨v, w, rfl, pv, pw⟩ := all2 ps
    obtain rfl : v = .int lo := pv
    obtain rfl : w = .int n := pw
    refine ⟨lo, n, rfl, ⟨by omega, by omega, by omega, by omega⟩, q _ H2 (fun _ => True) e2 (fun _ _ => trivial) ?_⟩
    refine walk_range.mono (fun _ h => h) fun i H x H' _ _ y => ?_
    obtain ⟨rfl, rfl⟩ := y
    exact ⟨Ex.refl _, rfl⟩
theorem w_tup {Ps : List VP} {n : Nat} {I : Nat → VP} {v : V} (h : Ev te σ H v) (pv : (vT Ps).is H v) (hn : Ps.length = n) (hI : ∀ i, i < n → Ps[i]? = some (I i)) : EvW (iTup K te) σ H n I := fun H1 e R q =>
  h H1 e _ fun H2 e2 => by
    obtain ⟨p, xs, rfl, hp, hall⟩ := pv
    refine ⟨p, rfl, ⟨xs, st_of ((e.trans e2) _ _ hp)⟩, q _ H2 (fun H3 => SqT K H3 p xs ∧ All H3 Ps xs) e2 (fun H3 e3 => ⟨st_of (e3 _ _ hp), hall.mono e3⟩) ?_⟩
    have ln : xs.length = n := by rw [← Paired.length hall]; exact hn
    subst ln
    refine walk_tup.mono (fun _ h => h.1) fun i H x H' hi hG y => ?_
    obtain ⟨rfl, hx⟩ := y
    obtain ⟨w, hw, pw⟩ := paired_get hG.2 (hI i hi)
    rw [hx] at hw
    cases hw
    exact ⟨Ex.refl _, pw⟩
theorem w_list {Ps : List VP} {n : Nat} {I : Nat → VP} {v : V} (h : Ev te σ H v) (pv : (vL Ps).is H v) (hn : Ps.length = n) (hI : ∀ i, i < n → Ps[i]? = some (I i)) : EvW (iList K te) σ H n I := fun H1 e R q =>
  h H1 e _ fun H2 e2 => by
    obtain ⟨p, xs, rfl, hp, hall⟩ := pv
    refine ⟨p, rfl, ⟨xs, sq_of ((e.trans e2) _ _ hp)⟩, q _ H2 (fun H3 => SqL K H3 p xs ∧ All H3 Ps xs) e2 (fun H3 e3 => ⟨sq_of (e3 _ _ hp), hall.mono e3⟩) ?_⟩
    have ln : xs.length = n := by rw [← Paired.length hall]; exact hn
    subst ln
    refine walk_list.mono (fun _ h => h.1) fun i H x H' hi hG y => ?_
    obtain ⟨rfl, hx⟩ := y
    obtain ⟨w, hw, pw⟩ := paired_get hG.2 (hI i hi)
    rw [hx] at hw
    cases hw
    exact ⟨Ex.refl _, pw⟩
theorem w_enumT {Ps : List VP} {n : Nat} {I : Nat → VP} {v : V} (h : Ev te σ H v) (pv : (vT Ps).is H v) (hn : Ps.length = n) (hI : ∀ i, i < n → Ps[i]? = some (I i)) : EvW (ZN.iEnumT K (tCons te tNil)) σ H n (fun i => vT [vI (i : Int), I i]) := fun H1 e R q =>
  h H1 e _ fun H2 e2 => by
    obtain ⟨p, xs, rfl, hp, hall⟩ := pv
    refine ⟨p, xs, rfl, st_of ((e.trans e2) _ _ hp), q _ H2 (fun H3 => SqT K H3 p xs ∧ All H3 Ps xs) e2 (fun H3 e3 => ⟨st_of (e3 _ _ hp), hall.mono e3⟩) ?_⟩
    have ln : xs.length = n := by rw [← Paired.length hall]; exact hn
    subst ln
    refine ZN.walk_enumT.mono (fun _ h => h.1) fun i H x H' hi hG y => ?_
    obtain ⟨T, a, b, rfl, nT, eH, ha, hb⟩ := y
    cases ha
    obtain ⟨w, hw, pw⟩ := paired_get hG.2 (hI i hi)
    have e' : some b = some w := hb.symm.trans hw
    cases e'
    exact pair_is nT eH rfl pw
theorem map_get {α : Type} {f : α → VP} {l : List α} (z : α) : ∀ i, i < l.length → (l.map f)[i]? = some (f (l.getD i z)) := fun i h => by
  rw [List.getElem?_map, List.getElem?_eq_getElem h, List.getD_eq_getElem?_getD, List.getElem?_eq_getElem h] <;> rfl
theorem ev_v {i : Nat} {v : V} (h : σ[i]? = some (some v)) : Ev (tVar i) σ H v := ev_var h

variable {D : Ends} {tu tw tz : TS} {g : TG}
theorem p_for {wi : TI} {n : Nat} {I : Nat → VP} (hI : EvW wi σ H0 n I) (h0 : Ex H0 H) (Pv : Nat → L2.St → Hp → Prop) (hi : ∀ H1, Ex H H1 → Pv 0 σ H1) (hE : ∀ i σ' H', Pv i σ' H' → Ex H0 H')
    (hs : ∀ i x σ' H' H1, i < n → Pv i σ' H' → Ex H' H1 → (I i).is H1 x → g x σ' H1 fun σ2 H2 => tu { D with nx := Pv (i + 1), ct := Pv (i + 1), bk := tz D } σ2 H2) (hd : ∀ σ' H', Pv n σ' H' → tz D σ' H') : tSeq (tFor wi g tu) tz D σ H :=
  hI H h0 _ fun J H2 G e2 hG hW => for_it (D := { D with nx := tz D }) hW Pv (hi H2 e2) (fun i σ' H' _ p => hG H' (hE i σ' H' p)) (fun i x σ' H3 H4 hi p y => hs i x σ' H3 H4 hi p y.1 y.2) hd
theorem p_for1 {wi : TI} {n : Nat} {I : Nat → VP} (hI : EvW wi σ H0 n I) (h0 : Ex H0 H) (Pv : Nat → L2.St → Hp → Prop) (hi : ∀ H1, Ex H H1 → Pv 0 σ H1) (hE : ∀ i σ' H', Pv i σ' H' → Ex H0 H')
    (hs : ∀ i x σ' H' H1, i < n → Pv i σ' H' → Ex H' H1 → (I i).is H1 x → g x σ' H1 fun σ2 H2 => tu { D with nx := Pv (i + 1), ct := Pv (i + 1), bk := D.nx } σ2 H2) (hd : ∀ σ' H', Pv n σ' H' → D.nx σ' H') : tFor wi g tu D σ H :=
  hI H h0 _ fun J H2 G e2 hG hW => for_it (D := D) hW Pv (hi H2 e2) (fun i σ' H' _ p => hG H' (hE i σ' H' p)) (fun i x σ' H3 H4 hi p y => hs i x σ' H3 H4 hi p y.1 y.2) hd

/-! ### a list that grows: new with respect to H0 -/
structure Mut (H0 H : Hp) (l : Addr) (Ps : List VP) : Prop where
  new : H0 l = none
  ex : Ex H0 H
  is : (vL Ps).is H (.ref l)
theorem Mut.mono {l : Addr} {Ps : List VP} (e : Ex H H') (h : Mut H0 H l Ps) : Mut H0 H' l Ps := ⟨h.new, h.ex.trans e, (vL Ps).mono e h.is⟩
theorem mut_appS {l : Addr} {Ps : List VP} {D : Ends} (hm : Mut H0 H l Ps) (hl : Ev ta σ H (.ref l)) (h : EvP te σ H P) (hz : Ps.length < 100000) (hs : ∀ O ∈ Ps ++ [P], Stb O) (k : ∀ H1, Mut H0 H1 l (Ps ++ [P]) → (∀ O v, Stb O → O.is H v → O.is H1 v) → D.nx σ H1) :
    tDrop (tBM K "list" rAppend ta (tCons te tNil)) D σ H := by
  obtain ⟨m1, m2, p, xs, ep, hx, hall⟩ := hm
  cases ep
  refine hl H (Ex.refl H) _ fun H1 e1 => ⟨Or.inl ⟨rfl, xs, sq_of (e1 _ _ hx)⟩, h H1 e1 _ fun v H2 e2 pv => ⟨l, xs, v, rfl, rfl, (e1.trans e2) _ _ hx, sz_lt (by rw [← Paired.length hall]; exact hz), k _ ⟨m1, Ex.mut (m2.trans (e1.trans e2)) m1, l, xs ++ [v], rfl, upd_same, ?_⟩ fun O u hS hO => hS _ _ _ _ _ ((e1.trans e2) _ _ hx) (O.mono (e1.trans e2) hO)⟩⟩
  have hx2 := (e1.trans e2) _ _ hx
  exact paired_snoc (F := fun (P : VP) (x : V) => P.is (upd H2 l (.lst (xs ++ [v]))) x) (hs P (by simp) _ _ _ _ _ hx2 pv) (all_stb hx2 (fun O hO => hs O (List.mem_append_left _ hO)) (hall.mono (e1.trans e2)))
theorem mut_app {l : Addr} {Ps : List VP} {D : Ends} (hm : Mut H0 H l Ps) (hl : Ev ta σ H (.ref l)) (h : EvP te σ H P) (hz : Ps.length < 100000) (hs : ∀ O ∈ Ps ++ [P], Stb O) (k : ∀ H1, Mut H0 H1 l (Ps ++ [P]) → D.nx σ H1) :
    tDrop (tBM K "list" rAppend ta (tCons te tNil)) D σ H := mut_appS hm hl h hz hs fun H1 m _ => k H1 m
theorem mut_ext {l : Addr} {Ps Qs : List VP} {D : Ends} (hm : Mut H0 H l Ps) (hl : Ev ta σ H (.ref l)) (h : EvP te σ H (vL Qs)) (hz : Ps.length + Qs.length ≤ 100000) (hs : ∀ O ∈ Ps ++ Qs, Stb O) (k : ∀ H1, Mut H0 H1 l (Ps ++ Qs) → D.nx σ H1) :
    tDrop (tBM K "list" rExtend ta (tCons te tNil)) D σ H := by
  obtain ⟨m1, m2, p, xs, ep, hx, hall⟩ := hm
  cases ep
  refine hl H (Ex.refl H) _ fun H1 e1 => ⟨Or.inl ⟨rfl, xs, sq_of (e1 _ _ hx)⟩, h H1 e1 _ fun v H2 e2 ⟨b, zs, ev, hb, hall2⟩ => ?_⟩
  subst ev
  have hx2 := (e1.trans e2) _ _ hx
  refine ⟨l, b, xs, zs, rfl, rfl, hx2, hb, sz_of (by rw [← Paired.length hall, ← Paired.length hall2]; exact hz), k _ ⟨m1, Ex.mut (m2.trans (e1.trans e2)) m1, l, xs ++ zs, rfl, upd_same, ?_⟩⟩
  exact paired_app (F := fun (P : VP) (x : V) => P.is (upd H2 l (.lst (xs ++ zs))) x) (all_stb hx2 (fun O hO => hs O (List.mem_append_right _ hO)) hall2) (all_stb hx2 (fun O hO => hs O (List.mem_append_left _ hO)) (hall.mono (e1.trans e2)))
theorem p_ext {l : Addr} {Ps Qs : List VP} (hm : Mut H0 H l Ps) (hl : Ev ta σ H (.ref l)) (h : EvP te σ H (vL Qs)) (hz : Ps.length + Qs.length ≤ 100000) (hs : ∀ O ∈ Ps ++ Qs, Stb O) (k : ∀ H1, Mut H0 H1 l (Ps ++ Qs) → tz D σ H1) :
    tSeq (tDrop (tBM K "list" rExtend ta (tCons te tNil))) tz D σ H := mut_ext (D := { D with nx := tz D }) hm hl h hz hs k
/-- l = [] -/
theorem mut_new {i : Nat} (h0 : Ex H0 H) (k : ∀ l H1, Mut H0 H1 l [] → Ex H H1 → tz D (σ.set i (some (.ref l))) H1) : tSeq (tAsg (tLst tNil) (gName i)) tz D σ H :=
  ⟨sz_of (by show (0 : Nat) ≤ 100000; omega), fun p hp => k p _ ⟨fresh_back h0 hp, h0.trans (Ex.new hp), p, [], rfl, upd_same, .nil⟩ (Ex.new hp)⟩
/-! ### tables -/
def vTab (n : Nat) (d : Nat → Nat → Int) : VP := vL ((List.range n).map fun i => vIL ((List.range n).map fun j => d i j))
theorem rg_get {n i : Nat} {α : Type} {f : Nat → α} (h : i < n) : ((List.range n).map f)[i]? = some (f i) := by
  rw [List.getElem?_map, List.getElem?_range h] <;> rfl
theorem rg_getD {n i : Nat} {f : Nat → Int} (h : i < n) : ((List.range n).map f).getD i 0 = f i := by
  rw [List.getD_eq_getElem?_getD, rg_get h] <;> rfl
theorem e_trow {n : Nat} {d : Nat → Nat → Int} {i : Nat} (h : EvP ta σ H (vTab n d)) (hi : EvP tb σ H (vI (i : Int))) (hn : i < n) : EvP (tOp (rIxL K) ta tb) σ H (vIL ((List.range n).map fun j => d i j)) := e_ixL h hi (rg_get hn)
theorem e_tab {n : Nat} {d : Nat → Nat → Int} {i j : Nat} (h : EvP ta σ H (vTab n d)) (hi : EvP tb σ H (vI (i : Int))) (hj : EvP tc σ H (vI (j : Int))) (hn : i < n) (hm : j < n) : EvP (tOp (rIxL K) (tOp (rIxL K) ta tb) tc) σ H (vI (d i j)) :=
  e_is (e_il (e_trow h hi hn) hj (by simpa using hm)) (rg_getD hm)
/-- a table whose rows are new with respect to H0 -/
structure Tab (H0 H : Hp) (p : Addr) (n : Nat) (d : Nat → Nat → Int) : Prop where
  new : H0 p = none
  ex : Ex H0 H
  rows : ∃ q : Nat → Addr, H p = some (.lst ((List.range n).map fun i => V.ref (q i))) ∧ ∀ i, i < n → H0 (q i) = none ∧ q i ≠ p ∧ H (q i) = some (.lst ((List.range n).map fun j => V.int (d i j))) ∧ ∀ j, j < n → j ≠ i → q j ≠ q i
theorem Tab.mono {p : Addr} {n : Nat} {d : Nat → Nat → Int} (e : Ex H H') (h : Tab H0 H p n d) : Tab H0 H' p n d := by
  obtain ⟨h1, h2, q, h3, h4⟩ := h
  exact ⟨h1, h2.trans e, q, e _ _ h3, fun i hi => by
    obtain ⟨a, b, c, f⟩ := h4 i hi
    exact ⟨a, b, e _ _ c, f⟩⟩
theorem paired_map {α β γ : Type} {F : β → γ → Prop} {f : α → β} {g : α → γ} : ∀ (l : List α), (∀ a ∈ l, F (f a) (g a)) → Paired F (l.map f) (l.map g)
  | [], _ => .nil
  | a :: l, h => .cons (h a List.mem_cons_self) (paired_map l fun b hb => h b (List.mem_cons_of_mem _ hb))
theorem Tab.is {p : Addr} {n : Nat} {d : Nat → Nat → Int} (h : Tab H0 H p n d) : (vTab n d).is H (.ref p) := by
  obtain ⟨h1, h2, q, h3, h4⟩ := h
  refine ⟨p, _, rfl, h3, paired_map (F := fun (P : VP) (x : V) => P.is H x) _ fun i hi => ?_⟩
  refine is_vIL ?_
  rw [(h4 i (List.mem_range.mp hi)).2.2.1, List.map_map] <;> rfl
def dset (d : Nat → Nat → Int) (i j : Nat) (x : Int) : Nat → Nat → Int := fun a b => if a = i ∧ b = j then x else d a b
theorem rg_set {n j : Nat} {f g : Nat → V} {x : V} (hx : g j = x) (hf : ∀ b, b ≠ j → g b = f b) : ((List.range n).map f).set j x = (List.range n).map g := by
  apply List.ext_getElem?
  intro b
  rw [List.getElem?_set]
  by_cases hb : b < n
  · by_cases e : j = b
    · subst e
      simp [hb, hx]
    · rw [if_neg e, rg_get hb, rg_get hb, hf b (fun z => e z.symm)]
  · rw [List.getElem?_eq_none (l := (List.range n).map g) (by simpa using hb), List.getElem?_eq_none (l := (List.range n).map f) (by simpa using hb)]
    by_cases e : j = b
    · subst e
      simp [hb]
    · rw [if_neg e]
/-- found[i][j] = x -/
theorem tab_set {p : Addr} {n : Nat} {d : Nat → Nat → Int} {x : Int} {i j f : Nat} {D : Ends} (hT : Tab H0 H p n d) (hf : σ[f]? = some (some (.ref p))) (hx : EvP te σ H (vI x)) (hi : EvP tb σ H (vI (i : Int))) (hj : EvP tc σ H (vI (j : Int))) (hin : i < n) (hjn : j < n)
    (k : ∀ H1, Tab H0 H1 p n (dset d i j x) → D.nx σ H1) : tAsg te (gSub (tOp (rIxL K) (tVar f) tb) tc rSetL) D σ H := by
  obtain ⟨h1, h2, q, h3, h4⟩ := hT
  obtain ⟨a, b, c, e⟩ := h4 i hin
  refine hx H (Ex.refl H) _ fun v H1 e1 pv => ?_
  obtain rfl : v = .int x := pv
  refine ⟨.ref p, hf, hi H1 e1 _ fun v2 H2 e2 pv2 => ?_⟩
  obtain rfl : v2 = .int (i : Int) := pv2
  have E2 := e1.trans e2
  refine ⟨p, _, (i : Int), .ref (q i), rfl, rfl, sq_of (E2 _ _ h3), atI_nat (rg_get hin), hj H2 E2 _ fun v3 H3 e3 pv3 => ?_⟩
  obtain rfl : v3 = .int (j : Int) := pv3
  have E3 := E2.trans e3
  refine ⟨q i, _, (j : Int), j, rfl, rfl, E3 _ _ c, ixN_nat (by simpa using hjn), k _ ⟨h1, Ex.mut (h2.trans E3) a, q, ?_, fun i' hi' => ?_⟩⟩
  · rw [upd_ne (Ne.symm b)]
    exact E3 _ _ h3
  · obtain ⟨a', b', c', e'⟩ := h4 i' hi'
    refine ⟨a', b', ?_, e'⟩
    by_cases ei : i' = i
    · subst ei
      rw [upd_same]
      congr 2
      exact rg_set (by show V.int (dset d i' j x i' j) = _; unfold dset; rw [if_pos ⟨rfl, rfl⟩]) fun b hb => by show V.int (dset d i' j x i' b) = _; unfold dset; rw [if_neg fun z => hb z.2]
    · rw [upd_ne (e i' hi' ei), E3 _ _ c']
      congr 2
      apply List.map_congr_left
      intro b _
      show _ = V.int (dset d i j x i' b)
      unfold dset
      rw [if_neg fun z => ei z.1]
def qset (q : Nat → Addr) (i : Nat) (p : Addr) : Nat → Addr := fun a => if a = i then p else q a
theorem qset_eq {q : Nat → Addr} {i : Nat} {p : Addr} : qset q i p i = p := if_pos rfl
theorem qset_ne {q : Nat → Addr} {i a : Nat} {p : Addr} (h : a ≠ i) : qset q i p a = q a := if_neg h
/-- [row(i) for i in range(n)] -/
theorem tab_mk {n : Nat} {d : Nat → Nat → Int} {ta : TA} {j : Nat} {vs : List Nat} {Q : VK} (h : EvA ta σ H [vI (n : Int)]) (hz : n ≤ 40000) (hw : ∀ x, wipe ((wipe σ vs).set j (some x)) vs = wipe σ vs)
    (he : ∀ (i : Nat) H1, i < n → Ex H H1 → EvL te ((wipe σ vs).set j (some (.int (i : Int)))) H1 ((List.range n).map fun b => V.int (d i b)))
    (k : ∀ p H1, Tab H H1 p n d → Q (.ref p) H1) : tLc (iRng1 ta) (gName j) tYes te vs σ H Q := by
  refine i_rangeN h hz H (Ex.refl H) _ fun J H1 G e1 hG hW Dl hD => ?_
  have nD := fresh_back e1 hD
  refine lc_it hW (Pv := fun i H' => Ex H1 H' ∧ ∃ q : Nat → Addr, H' Dl = some (.lst ((List.range i).map fun a => V.ref (q a))) ∧ ∀ a, a < i → H (q a) = none ∧ q a ≠ Dl ∧ H' (q a) = some (.lst ((List.range n).map fun b => V.int (d a b))) ∧ ∀ b, b < i → b ≠ a → q b ≠ q a) ?_ ?_ ?_ ?_
  · exact ⟨Ex.new hD, fun _ => Dl, upd_same, fun a ha => absurd ha (by omega)⟩
  · exact fun i H' _ p => hG H' p.1
  · rintro i x H3 H4 hi ⟨p1, q, p2, p3⟩ ⟨y1, y2⟩
    obtain rfl : x = .int (i : Int) := y2
    refine ⟨hw _, he i H4 hi (e1.trans (p1.trans y1)) H4 (Ex.refl _) _ fun p H5 np e5 h5 => ?_⟩
    have up : Ex H3 H5 := y1.trans e5
    have npD : p ≠ Dl := fun z => by
      rw [z, y1 _ _ p2] at np
      cases np
    have nH : H p = none := fresh_back (e1.trans (p1.trans y1)) np
    refine ⟨_, up _ _ p2, by rw [List.length_map, List.length_range]; exact sz_lt (by omega), Ex.mut (p1.trans up) hD, qset q i p, ?_, fun a ha => ?_⟩
    · rw [upd_same, List.range_succ, List.map_append]
      congr 3
      · apply List.map_congr_left
        intro a ha
        have := List.mem_range.mp ha
        rw [qset_ne (by omega)]
      · simp [qset_eq]
    · by_cases ea : a = i
      · subst ea
        rw [qset_eq]
        refine ⟨nH, npD, by rw [upd_ne npD]; exact h5, fun b hb hba => ?_⟩
        rw [qset_ne hba]
        intro z
        rw [← z, y1 _ _ (p3 b (by omega)).2.2.1] at np
        cases np
      · rw [qset_ne ea]
        obtain ⟨a1, a2, a3, a4⟩ := p3 a (by omega)
        refine ⟨a1, a2, by rw [upd_ne a2]; exact up _ _ a3, fun b hb hba => ?_⟩
        by_cases eb : b = i
        · rw [eb, qset_eq]
          intro z
          rw [z, y1 _ _ a3] at np
          cases np
        · rw [qset_ne eb]
          exact a4 b (by omega) hba
  · rintro H' ⟨p1, q, p2, p3⟩
    exact k Dl H' ⟨nD, e1.trans p1, q, p2, p3⟩
/-- the start of a table -/
def d0 (c : Int) : Nat → Nat → Int := fun i j => if i = j then 0 else c
theorem given_all (n : Nat) (v : Nat → V) : given n (fun _ => true) v = (List.range n).map v := by
  unfold given
  congr 1
  exact List.filter_eq_self.mpr fun _ _ => rfl
theorem row0 {n : Nat} {ta : TA} {c : Int} {i a j : Nat} {vs : List Nat} (h : Evl.EvA ta σ H [.int (n : Int)]) (hz : n ≤ 40000) (hw : ∀ x, wipe ((wipe σ vs).set j (some x)) vs = wipe σ vs)
    (ha : ∀ x, ((wipe σ vs).set j (some x))[a]? = some (some (.int (i : Int)))) (hj : ∀ x, ((wipe σ vs).set j (some x))[j]? = some (some x)) :
    EvL (tLc (iRng1 ta) (gName j) tYes (tIf (tTest (tOp rEq (tVar a) (tVar j))) (tC (.int 0)) (tC (.int c))) vs) σ H ((List.range n).map fun b => V.int (d0 c i b)) := by
  have e := el_lcR1 (σ := σ) (H := H) (t := tYes) (vs := vs) (j := j) (te := tIf (tTest (tOp rEq (tVar a) (tVar j))) (tC (.int 0)) (tC (.int c))) (n := (n : Int)) (fun _ => true) (fun b => V.int (d0 c i b)) h ⟨by omega, by omega⟩ hw (fun i H1 _ _ H2 _ Q q => q H2 (Ex.refl _)) (fun b H1 _ hb _ => by
    refine ev_if (et_test (ev_op (ev_var (ha _)) (ev_var (hj _)) (rv_eq rfl))) (fun q => ?_) (fun q => ?_)
    · have q' := of_decide_eq_true q
      have e2 : i = b := by
        have : (i : Int) = (b : Int) := by injection q'
        omega
      refine ev_is ev_c ?_
      show V.int 0 = V.int (d0 c i b)
      unfold d0
      rw [if_pos e2]
    · have q' := of_decide_eq_false q
      refine ev_is ev_c ?_
      show V.int c = V.int (d0 c i b)
      unfold d0
      rw [if_neg fun z => q' (by rw [z])])
  rw [given_all] at e
  exact e
end
end Lt
set_option maxHeartbeats 1000000
/-! rules whose reading names the part K that was written, K given: so they fit within a comprehension too -/
namespace LK
open PySem PySem.Spec PyProof.Rows L2
theorem ix_list {X : Cx} (K : PySem.W.Frag) (hK : X.K = K := by rfl) : IxR X (rIxL K) := hK ▸ L2.ix_list
theorem ix_tup {X : Cx} (K : PySem.W.Frag) (hK : X.K = K := by rfl) : IxR X (rIxT K) := hK ▸ L2.ix_tup
theorem ix_seq {X : Cx} (K : PySem.W.Frag) (hK : X.K = K := by rfl) : IxR X (rIx K) := hK ▸ L2.ix_seq
theorem call_len_seq {X : Cx} (K : PySem.W.Frag) (hK : X.K = K := by rfl) : CallR X (.builtin "len") (fun xs H Q => ∃ p ys, xs = [.ref p] ∧ (SqL K H p ys ∨ SqT K H p ys) ∧ Q (.int ys.length) H) := hK ▸ L2.call_len_seq
theorem cr_max {X : Cx} (K : PySem.W.Frag) (hK : X.K = K := by rfl) (hc : X.calm = true := by rfl) : CallR X (.builtin "max") (rMax K) := hK ▸ L2.cr_max hc
theorem cr_min {X : Cx} (K : PySem.W.Frag) (hK : X.K = K := by rfl) (hc : X.calm = true := by rfl) : CallR X (.builtin "min") (rMin K) := hK ▸ L2.cr_min hc
theorem cr_any {X : Cx} (K : PySem.W.Frag) (hK : X.K = K := by rfl) (hc : X.calm = true := by rfl) : CallR X (.builtin "any") (rAny K) := hK ▸ L2.cr_any hc
theorem cr_all {X : Cx} (K : PySem.W.Frag) (hK : X.K = K := by rfl) (hc : X.calm = true := by rfl) : CallR X (.builtin "all") (rAll K) := hK ▸ L2.cr_all hc
theorem cr_maxT {X : Cx} (K : PySem.W.Frag) (hu : X.A.units + 64 < cLine) (hK : X.K = K := by rfl) (hc : X.calm = true := by rfl) : CallR X (.builtin "max") (LR.rMaxT K) := hK ▸ LR.cr_maxT hc hu
theorem cr_minT {X : Cx} (K : PySem.W.Frag) (hu : X.A.units + 64 < cLine) (hK : X.K = K := by rfl) (hc : X.calm = true := by rfl) : CallR X (.builtin "min") (LR.rMinT K) := hK ▸ LR.cr_minT hc hu
theorem call_isi {X : Cx} (K : PySem.W.Frag) (hK : X.K = K := by rfl) : CallR X (.builtin "isinstance") (rIsi K) := hK ▸ L2.call_isi
theorem call_isiT {X : Cx} (K : PySem.W.Frag) (hK : X.K = K := by rfl) : CallR X (.builtin "isinstance") (rIsiT K) := hK ▸ L2.call_isiT
theorem op_in_seq {X : Cx} (K : PySem.W.Frag) (hK : X.K = K := by rfl) : OpR X (compareOp .In) (rIn K false) := hK ▸ L2.op_in_seq
theorem op_leT {X : Cx} (K : PySem.W.Frag) (hu : X.A.units < cLine) (hK : X.K = K := by rfl) : OpR X (compareOp .LtE) (rLeT K) := hK ▸ L2.op_leT hu
theorem op_eqD {X : Cx} (K : PySem.W.Frag) (hu : X.A.units + 64 < cLine) (hK : X.K = K := by rfl) : OpR X (compareOp .Eq) (rEqD K) := hK ▸ L2.op_eqD hu
theorem sl_tupA {X : Cx} (K : PySem.W.Frag) (hK : X.K = K := by rfl) : SlR X (rSlA K) := hK ▸ L2.sl_tupA
theorem op_catA {X : Cx} (K : PySem.W.Frag) (hK : X.K = K := by rfl) : OpR X (binaryOp .Add) (rCatA K) := hK ▸ L2.op_catA
theorem op_repA {X : Cx} (K : PySem.W.Frag) (hK : X.K = K := by rfl) : OpR X (binaryOp .Mult) (LR.rRepA K) := hK ▸ LR.op_repA
theorem call_tuple_of {X : Cx} (K : PySem.W.Frag) (hK : X.K = K := by rfl) : CallR X (.type "tuple") (fun xs H Q => ∃ p ys, xs = [.ref p] ∧ ((SqL K H p ys ∧ ∀ l, H l = none → Q (.ref l) (upd H l (.tup ys))) ∨ (SqT K H p ys ∧ Q (.ref p) H))) := hK ▸ L2.call_tuple_of
theorem call_list_of {X : Cx} (K : PySem.W.Frag) (hK : X.K = K := by rfl) : CallR X (.type "list") (fun xs H Q => ∃ p ys, xs = [.ref p] ∧ (SqL K H p ys ∨ SqT K H p ys) ∧ ∀ l, H l = none → Q (.ref l) (upd H l (.lst ys))) := hK ▸ L2.call_list_of
theorem pi_list {X : Cx} {tg l : Expr} {tl : TE} (K : PySem.W.Frag) (hl : PE X l tl) (hK : X.K = K := by rfl) : PI X tg l (iList K tl) := hK ▸ L2.pi_list hl
theorem pi_tup {X : Cx} {tg l : Expr} {tl : TE} (K : PySem.W.Frag) (hl : PE X l tl) (hK : X.K = K := by rfl) : PI X tg l (iTup K tl) := hK ▸ L2.pi_tup hl
theorem call_min2 {X : Cx} (hc : X.calm = true := by rfl) : CallR X (.builtin "min") (fun xs H Q => ∃ i j, xs = [.int i, .int j] ∧ Q (.int (if j < i then j else i)) H) := L2.call_min2 hc
theorem call_max2 {X : Cx} (hc : X.calm = true := by rfl) : CallR X (.builtin "max") (fun xs H Q => ∃ i j, xs = [.int i, .int j] ∧ Q (.int (if j > i then j else i)) H) := L2.call_max2 hc
end LK
set_option maxHeartbeats 1000000
namespace Lt
open PySem L2 Evl
def topS (i : Nat) : Stmt := PySem.Challenge.pw_littowers_k40_whole_rows_between.main.body.getD i (.Pass ⟨0, 0, 0, 0⟩)
/-- whole: slots 0:value -/
abbrev s_whole : Stmt := topS 11
abbrev n_whole : List Str := ["value"]
abbrev p_whole : List Str := ["value"]
theorem sc_whole : FnScope n_whole p_whole (defScope s_whole) := ⟨rfl, rfl, rfl, by decide +kernel, rfl, by decide +kernel, by decide +kernel⟩
/-- within: slots 0:value 1:low 2:high -/
abbrev s_within : Stmt := topS 12
abbrev n_within : List Str := ["value", "low", "high"]
abbrev p_within : List Str := ["value", "low", "high"]
theorem sc_within : FnScope n_within p_within (defScope s_within) := ⟨rfl, rfl, rfl, by decide +kernel, rfl, by decide +kernel, by decide +kernel⟩
/-- need_number: slots 0:value 1:low 2:high -/
abbrev s_need_number : Stmt := topS 13
abbrev n_need_number : List Str := ["value", "low", "high"]
abbrev p_need_number : List Str := ["value", "low", "high"]
theorem sc_need_number : FnScope n_need_number p_need_number (defScope s_need_number) := ⟨rfl, rfl, rfl, by decide +kernel, rfl, by decide +kernel, by decide +kernel⟩
/-- tuple_of: slots 0:value 1:low 2:high -/
abbrev s_tuple_of : Stmt := topS 14
abbrev n_tuple_of : List Str := ["value", "low", "high"]
abbrev p_tuple_of : List Str := ["value", "low", "high"]
theorem sc_tuple_of : FnScope n_tuple_of p_tuple_of (defScope s_tuple_of) := ⟨rfl, rfl, rfl, by decide +kernel, rfl, by decide +kernel, by decide +kernel⟩
/-- is_rod: slots 0:many 1:value 2:told -/
abbrev s_is_rod : Stmt := topS 15
abbrev n_is_rod : List Str := ["many", "value", "told"]
abbrev p_is_rod : List Str := ["many", "value"]
theorem sc_is_rod : FnScope n_is_rod p_is_rod (defScope s_is_rod) := ⟨rfl, rfl, rfl, by decide +kernel, rfl, by decide +kernel, by decide +kernel⟩
/-- need_net: slots 0:value 1:many 2:rods 3:index 4:rod 5:seen 6:turn 7:one 8:other 9:length -/
abbrev s_need_net : Stmt := topS 16
abbrev n_need_net : List Str := ["value", "many", "rods", "index", "rod", "seen", "turn", "one", "other", "length"]
abbrev p_need_net : List Str := ["value"]
theorem sc_need_net : FnScope n_need_net p_need_net (defScope s_need_net) := ⟨rfl, rfl, rfl, by decide +kernel, rfl, by decide +kernel, by decide +kernel⟩
/-- need_row: slots 0:net 1:row 2:index 3:height -/
abbrev s_need_row : Stmt := topS 17
abbrev n_need_row : List Str := ["net", "row", "index", "height"]
abbrev p_need_row : List Str := ["net", "row"]
theorem sc_need_row : FnScope n_need_row p_need_row (defScope s_need_row) := ⟨rfl, rfl, rfl, by decide +kernel, rfl, by decide +kernel, by decide +kernel⟩
/-- table_of: slots 0:net 1:many 2:rods 3:one 4:other 5:found 6:length 7:middle -/
abbrev s_table_of : Stmt := topS 19
abbrev n_table_of : List Str := ["net", "many", "rods", "one", "other", "found", "length", "middle"]
abbrev p_table_of : List Str := ["net"]
theorem sc_table_of : FnScope n_table_of p_table_of (defScope s_table_of) := ⟨rfl, rfl, rfl, by decide +kernel, rfl, by decide +kernel, by decide +kernel⟩
/-- roof_of: slots 0:table 1:row 2:many 3:place 4:one -/
abbrev s_roof_of : Stmt := topS 21
abbrev n_roof_of : List Str := ["table", "row", "many", "place", "one"]
abbrev p_roof_of : List Str := ["table", "row"]
theorem sc_roof_of : FnScope n_roof_of p_roof_of (defScope s_roof_of) := ⟨rfl, rfl, rfl, by decide +kernel, rfl, by decide +kernel, by decide +kernel⟩
/-- floor_of: slots 0:table 1:row 2:many 3:place 4:one -/
abbrev s_floor_of : Stmt := topS 22
abbrev n_floor_of : List Str := ["table", "row", "many", "place", "one"]
abbrev p_floor_of : List Str := ["table", "row"]
theorem sc_floor_of : FnScope n_floor_of p_floor_of (defScope s_floor_of) := ⟨rfl, rfl, rfl, by decide +kernel, rfl, by decide +kernel, by decide +kernel⟩
/-- bounds_at: slots 0:table 1:row 2:place 3:most 4:least 5:one 6:height -/
abbrev s_bounds_at : Stmt := topS 25
abbrev n_bounds_at : List Str := ["table", "row", "place", "most", "least", "one", "height"]
abbrev p_bounds_at : List Str := ["table", "row", "place", "most"]
theorem sc_bounds_at : FnScope n_bounds_at p_bounds_at (defScope s_bounds_at) := ⟨rfl, rfl, rfl, by decide +kernel, rfl, by decide +kernel, by decide +kernel⟩
/-- number_between: slots 0:net 1:low 2:high -/
abbrev s_number_between : Stmt := topS 26
abbrev n_number_between : List Str := ["net", "low", "high"]
abbrev p_number_between : List Str := ["net", "low", "high"]
theorem sc_number_between : FnScope n_number_between p_number_between (defScope s_number_between) := ⟨rfl, rfl, rfl, by decide +kernel, rfl, by decide +kernel, by decide +kernel⟩
/-- between_of: slots 0:table 1:low 2:high 3:least 4:limit 5:rows 6:place 7:later 8:row 9:first 10:last 11:height -/
abbrev s_between_of : Stmt := topS 27
abbrev n_between_of : List Str := ["table", "low", "high", "least", "limit", "rows", "place", "later", "row", "first", "last", "height"]
abbrev p_between_of : List Str := ["table", "low", "high"]
theorem sc_between_of : FnScope n_between_of p_between_of (defScope s_between_of) := ⟨rfl, rfl, rfl, by decide +kernel, rfl, by decide +kernel, by decide +kernel⟩
/-- first_between: slots 0:net 1:low 2:high 3:table 4:least 5:limit 6:one 7:other -/
abbrev s_first_between : Stmt := topS 28
abbrev n_first_between : List Str := ["net", "low", "high", "table", "least", "limit", "one", "other"]
abbrev p_first_between : List Str := ["net", "low", "high"]
theorem sc_first_between : FnScope n_first_between p_first_between (defScope s_first_between) := ⟨rfl, rfl, rfl, by decide +kernel, rfl, by decide +kernel, by decide +kernel⟩
/-- rows_above: slots 0:net 1:row 2:most -/
abbrev s_rows_above : Stmt := topS 29
abbrev n_rows_above : List Str := ["net", "row", "most"]
abbrev p_rows_above : List Str := ["net", "row", "most"]
theorem sc_rows_above : FnScope n_rows_above p_rows_above (defScope s_rows_above) := ⟨rfl, rfl, rfl, by decide +kernel, rfl, by decide +kernel, by decide +kernel⟩
/-- _law_taken: slots 0:_law_row 1:_law_many 2:_law_found 3:_law_cell -/
abbrev s__law_taken : Stmt := topS 31
abbrev n__law_taken : List Str := ["_law_row", "_law_many", "_law_found", "_law_cell"]
abbrev p__law_taken : List Str := ["_law_row", "_law_many"]
theorem sc__law_taken : FnScope n__law_taken p__law_taken (defScope s__law_taken) := ⟨rfl, rfl, rfl, by decide +kernel, rfl, by decide +kernel, by decide +kernel⟩
/-- _law_net: slots 0:_law_row 1:_law_most 2:_law_long 3:_law_many 4:_law_rods 5:_law_place 6:_law_turn 7:_law_one 8:_law_other -/
abbrev s__law_net : Stmt := topS 32
abbrev n__law_net : List Str := ["_law_row", "_law_most", "_law_long", "_law_many", "_law_rods", "_law_place", "_law_turn", "_law_one", "_law_other"]
abbrev p__law_net : List Str := ["_law_row", "_law_most", "_law_long"]
theorem sc__law_net : FnScope n__law_net p__law_net (defScope s__law_net) := ⟨rfl, rfl, rfl, by decide +kernel, rfl, by decide +kernel, by decide +kernel⟩
/-- _law_pick: slots 0:_law_row 1:_law_things -/
abbrev s__law_pick : Stmt := topS 33
abbrev n__law_pick : List Str := ["_law_row", "_law_things"]
abbrev p__law_pick : List Str := ["_law_row", "_law_things"]
theorem sc__law_pick : FnScope n__law_pick p__law_pick (defScope s__law_pick) := ⟨rfl, rfl, rfl, by decide +kernel, rfl, by decide +kernel, by decide +kernel⟩
/-- _law_far: slots 0:_law_net_here 1:_law_many 2:_law_one 3:_law_other 4:_law_found 5:_law_turn 6:_law_length 7:_law_place -/
abbrev s__law_far : Stmt := topS 34
abbrev n__law_far : List Str := ["_law_net_here", "_law_many", "_law_one", "_law_other", "_law_found", "_law_turn", "_law_length", "_law_place"]
abbrev p__law_far : List Str := ["_law_net_here"]
theorem sc__law_far : FnScope n__law_far p__law_far (defScope s__law_far) := ⟨rfl, rfl, rfl, by decide +kernel, rfl, by decide +kernel, by decide +kernel⟩
/-- _law_heights: slots 0:_law_row 1:_law_many 2:_law_most 3:_law_place -/
abbrev s__law_heights : Stmt := topS 35
abbrev n__law_heights : List Str := ["_law_row", "_law_many", "_law_most", "_law_place"]
abbrev p__law_heights : List Str := ["_law_row", "_law_many", "_law_most"]
theorem sc__law_heights : FnScope n__law_heights p__law_heights (defScope s__law_heights) := ⟨rfl, rfl, rfl, by decide +kernel, rfl, by decide +kernel, by decide +kernel⟩
/-- _law_roof: slots 0:_law_far_here 1:_law_row 2:_law_found 3:_law_changed 4:_law_one 5:_law_other -/
abbrev s__law_roof : Stmt := topS 36
abbrev n__law_roof : List Str := ["_law_far_here", "_law_row", "_law_found", "_law_changed", "_law_one", "_law_other"]
abbrev p__law_roof : List Str := ["_law_far_here", "_law_row"]
theorem sc__law_roof : FnScope n__law_roof p__law_roof (defScope s__law_roof) := ⟨rfl, rfl, rfl, by decide +kernel, rfl, by decide +kernel, by decide +kernel⟩
/-- _law_slopes: slots 0:_law_far_here 1:_law_most 2:_law_rows 3:_law_place 4:_law_later 5:_law_row 6:_law_height 7:_law_one -/
abbrev s__law_slopes : Stmt := topS 37
abbrev n__law_slopes : List Str := ["_law_far_here", "_law_most", "_law_rows", "_law_place", "_law_later", "_law_row", "_law_height", "_law_one"]
abbrev p__law_slopes : List Str := ["_law_far_here", "_law_most"]
theorem sc__law_slopes : FnScope n__law_slopes p__law_slopes (defScope s__law_slopes) := ⟨rfl, rfl, rfl, by decide +kernel, rfl, by decide +kernel, by decide +kernel⟩
/-- _law_alike: slots 0:_law_found 1:_law_due 2:_law_k -/
abbrev s__law_alike : Stmt := topS 38
abbrev n__law_alike : List Str := ["_law_found", "_law_due", "_law_k"]
abbrev p__law_alike : List Str := ["_law_found", "_law_due"]
theorem sc__law_alike : FnScope n__law_alike p__law_alike (defScope s__law_alike) := ⟨rfl, rfl, rfl, by decide +kernel, rfl, by decide +kernel, by decide +kernel⟩
/-- law: slots 0:_law_script 1:_law_row 2:_law_net_here 3:_law_many 4:_law_far_here 5:_law_most 6:_law_one 7:_law_other 8:_law_rows 9:_law_found 10:_law_least 11:_law_limit 12:_law_due 13:_law_pair 14:_law_told 15:_law_at -/
abbrev s_law : Stmt := topS 39
abbrev n_law : List Str := ["_law_script", "_law_row", "_law_net_here", "_law_many", "_law_far_here", "_law_most", "_law_one", "_law_other", "_law_rows", "_law_found", "_law_least", "_law_limit", "_law_due", "_law_pair", "_law_told", "_law_at"]
abbrev p_law : List Str := ["_law_script"]
theorem sc_law : FnScope n_law p_law (defScope s_law) := ⟨rfl, rfl, rfl, by decide +kernel, rfl, by decide +kernel, by decide +kernel⟩
/-- what the top holds -/
structure Txt (K : PySem.W.Frag) (mg : Str → Option Value) (C : Addr) : Prop where
  range : mg "range" = none
  len : mg "len" = none
  max : mg "max" = none
  min : mg "min" = none
  tuple : mg "tuple" = none
  list : mg "list" = none
  int : mg "int" = none
  bool : mg "bool" = none
  str : mg "str" = none
  isinstance : mg "isinstance" = none
  all : mg "all" = none
  any : mg "any" = none
  enumerate : mg "enumerate" = none
  zip : mg "zip" = none
  sorted : mg "sorted" = none
  abs : mg "abs" = none
  MOST_PLACES : ∃ t, mg "MOST_PLACES" = some (.int 8 t)
  MOST_LENGTH : ∃ t, mg "MOST_LENGTH" = some (.int 9 t)
  MOST_HEIGHT : ∃ t, mg "MOST_HEIGHT" = some (.int 99 t)
  MOST_BEGINNINGS : ∃ t, mg "MOST_BEGINNINGS" = some (.int 20000 t)
  gP : mg "NoRow" = some (.ref C)
  kP : PySem.W.keepIn K (.ref C) = true
  xP : PySem.W.excIn K C [.type "ValueError", .type "Exception", .type "BaseException", .type "object"] "ValueError.__new__" = true
  bP : PySem.W.subIn K (.ref C) (.type "BaseException") = some true
  tP : PySem.W.typeIn K (.ref C) = some (.type "type")
  eP : PySem.W.exmOne K (.ref C) (.ref C) = some true
/-- a def of the top -/
structure Fd (K : PySem.W.Frag) (mg : Str → Option Value) (nm : Str) (st : Stmt) (ps : List Str) where
  f : Addr
  fd : FuncData
  F : Fun K nm nm st f fd
  g : mg nm = some (.ref f)
  b : Binds K fd ps []
end Lt
set_option maxHeartbeats 1000000
namespace Lt
open PySem L2 Evl
theorem spF_len {R : List VP → VP → Prop} {n : Nat} (hR : ∀ Ps P, R Ps P → Ps.length = n) : ∀ vs H Q E, spF R vs H Q E → vs.length = n := fun vs H Q E ⟨Ps, P, h, a, _⟩ => by
  rw [← Paired.length a]
  exact hR Ps P h
abbrev Rd3 := Nat × Nat × Int
abbrev vRod (r : Rd3) : VP := vT [vI (r.1 : Int), vI (r.2.1 : Int), vI r.2.2]
abbrev vNet (n : Nat) (rods : List Rd3) : VP := vT [vI (n : Int), vT (rods.map vRod)]
def RodOk (n : Nat) (r : Rd3) : Prop := r.1 < r.2.1 ∧ r.2.1 < n ∧ 1 ≤ r.2.2 ∧ r.2.2 ≤ 9
def R_whole : List VP → VP → Prop := fun Ps P => ∃ i : Int, Ps = [vI i] ∧ P = vB true
def R_within : List VP → VP → Prop := fun Ps P => ∃ v lo hi : Int, Ps = [vI v, vI lo, vI hi] ∧ P = vB (decide (lo ≤ v) && decide (v ≤ hi))
def R_need_number : List VP → VP → Prop := fun Ps P => ∃ v lo hi : Int, Ps = [vI v, vI lo, vI hi] ∧ lo ≤ v ∧ v ≤ hi ∧ P = vN
def R_tuple_of : List VP → VP → Prop := fun Ps P => ∃ (Qs : List VP) (lo hi : Int), Ps = [vT Qs, vI lo, vI hi] ∧ P = vB (decide (lo ≤ (Qs.length : Int)) && decide ((Qs.length : Int) ≤ hi))
def R_is_rod : List VP → VP → Prop := fun Ps P => ∃ (n : Nat) (r : Rd3), Ps = [vI (n : Int), vRod r] ∧ RodOk n r ∧ P = vB true
section
variable {P : Program} {w : World} {K : PySem.W.Frag} {mg : Str → Option Value} {base : Heap} {C : Addr}
theorem ok_whole (T : Txt K mg C) (F_whole : Fd K mg "whole" s_whole p_whole) : FnOk P w K mg base CX0 1 F_whole.f F_whole.fd p_whole (spF R_whole) := by
  refine F_whole.F.ok sc_whole (spF_len fun Ps P ⟨i, e, _⟩ => by subst e; rfl) (fun cdv A outer s H vs Q E hr h => ?_)
  obtain ⟨Ps, P, ⟨i, rfl, rfl⟩, hall, q⟩ := h
  obtain ⟨v, rfl, p1⟩ := all1 hall
  refine ⟨_, (pss_one (ps_ret (pe_and (pe_callB (LK.call_isi K) (by rfl) T.isinstance (by decide +kernel) (pa_cons (pv 0) (pa_cons (pe_bltn (v := .ty "int") (by rfl) T.int (by decide +kernel) rfl) pa_nil))) (pe_one (pe_not (pe_callB (LK.call_isi K) (by rfl) T.isinstance (by decide +kernel) (pa_cons (pv 0) (pa_cons (pe_bltn (v := .ty "bool") (by rfl) T.bool (by decide +kernel) rfl) pa_nil)))))))), ?_⟩
  exact p_ret (e_and (e_isiI (e_var rfl p1) e_c rfl) fun _ => e_not (e_isiI (e_var rfl p1) e_c rfl)) q
theorem ok_within (T : Txt K mg C) (F_within : Fd K mg "within" s_within p_within) (F_whole : Fd K mg "whole" s_whole p_whole) (ok_whole : FnOk P w K mg base CX0 1 F_whole.f F_whole.fd p_whole (spF R_whole)) : FnOk P w K mg base CX0 2 F_within.f F_within.fd p_within (spF R_within) := by
  refine F_within.F.ok sc_within (spF_len fun Ps P ⟨i, _, _, e, _⟩ => by subst e; rfl) (fun cdv A outer s H vs Q E hr h => ?_)
  obtain ⟨Ps, P, ⟨v, lo, hi, rfl, rfl⟩, hall, q⟩ := h
  obtain ⟨v1, v2, v3, rfl, p1, p2, p3⟩ := all3 hall
  refine ⟨_, (pss_one (ps_ret (pe_and (pe_call ok_whole (hr.mono (by decide)) (by rfl) F_whole.g F_whole.F.kp F_whole.b .nil pass0 (pa_cons (pv 0) pa_nil)) (pe_one (pe_chain op_le op_le (pv 1) (pv 0) (pv 2)))))), ?_⟩
  exact p_ret (e_and (e_call (P := vB true) (a_cons (e_var rfl p1) a_nil) ⟨_, rfl, rfl⟩) fun _ => e_chain2 (e_var rfl p2) (e_var rfl p1) (e_var rfl p3)) q
theorem ok_need_number (T : Txt K mg C) (F_need_number : Fd K mg "need_number" s_need_number p_need_number) (F_within : Fd K mg "within" s_within p_within) (ok_within : FnOk P w K mg base CX0 2 F_within.f F_within.fd p_within (spF R_within)) : FnOk P w K mg base CX0 3 F_need_number.f F_need_number.fd p_need_number (spF R_need_number) := by
  refine F_need_number.F.ok sc_need_number (spF_len fun Ps P ⟨i, _, _, e, _⟩ => by subst e; rfl) (fun cdv A outer s H vs Q E hr h => ?_)
  obtain ⟨Ps, P, ⟨v, lo, hi, rfl, h1, h2, rfl⟩, hall, q⟩ := h
  obtain ⟨v1, v2, v3, rfl, p1, p2, p3⟩ := all3 hall
  refine ⟨_, (pss_one (ps_if (pt_not (pt_val (pe_call ok_within (hr.mono (by decide)) (by rfl) F_within.g F_within.F.kp F_within.b .nil pass0 (pa_cons (pv 0) (pa_cons (pv 1) (pa_cons (pv 2) pa_nil)))))) (pss_one ps_never) pss_nil)), ?_⟩
  refine p_no1 (et_is (et_not (t_test (e_call (a_cons (e_var rfl p1) (a_cons (e_var rfl p2) (a_cons (e_var rfl p3) a_nil))) ⟨_, _, _, rfl, rfl⟩))) ?_) fun H1 e => q _ _ e rfl
  rw [decide_eq_true h1, decide_eq_true h2] <;> rfl
theorem ok_tuple_of (T : Txt K mg C) (F_tuple_of : Fd K mg "tuple_of" s_tuple_of p_tuple_of) : FnOk P w K mg base CX0 1 F_tuple_of.f F_tuple_of.fd p_tuple_of (spF R_tuple_of) := by
  refine F_tuple_of.F.ok sc_tuple_of (spF_len fun Ps P ⟨i, _, _, e, _⟩ => by subst e; rfl) (fun cdv A outer s H vs Q E hr h => ?_)
  obtain ⟨Ps, P, ⟨v, lo, hi, rfl, rfl⟩, hall, q⟩ := h
  obtain ⟨v1, v2, v3, rfl, p1, p2, p3⟩ := all3 hall
  refine ⟨_, (pss_one (ps_ret (pe_and (pe_callB (LK.call_isi K) (by rfl) T.isinstance (by decide +kernel) (pa_cons (pv 0) (pa_cons (pe_bltn (v := .ty "tuple") (by rfl) T.tuple (by decide +kernel) rfl) pa_nil))) (pe_one (pe_chain op_le op_le (pv 1) (pe_callB (LK.call_len_seq K) (by rfl) T.len (by decide +kernel) (pa_cons (pv 0) pa_nil)) (pv 2)))))), ?_⟩
  exact p_ret (e_and (e_isiT (e_var rfl p1) e_c rfl) fun _ => e_chain2 (e_var rfl p2) (e_lenT (e_var rfl p1)) (e_var rfl p3)) q
theorem ok_is_rod (T : Txt K mg C) (F_is_rod : Fd K mg "is_rod" s_is_rod p_is_rod) (F_whole : Fd K mg "whole" s_whole p_whole) (F_tuple_of : Fd K mg "tuple_of" s_tuple_of p_tuple_of) (ok_whole : FnOk P w K mg base CX0 1 F_whole.f F_whole.fd p_whole (spF R_whole)) (ok_tuple_of : FnOk P w K mg base CX0 1 F_tuple_of.f F_tuple_of.fd p_tuple_of (spF R_tuple_of)) :
    FnOk P w K mg base CX0 2 F_is_rod.f F_is_rod.fd p_is_rod (spF R_is_rod) := by
  refine F_is_rod.F.ok sc_is_rod (spF_len fun Ps P ⟨i, _, e, _⟩ => by subst e; rfl) (fun cdv A outer s H vs Q E hr h => ?_)
  obtain ⟨Ps, P, ⟨n, r, rfl, ⟨h1, h2, h3, h4⟩, rfl⟩, hall, q⟩ := h
  obtain ⟨v1, v2, rfl, p1, p2⟩ := all2 hall
  refine ⟨_, (pss_cons (ps_if (PW.pt (pw_or (pt_not (pt_val (pe_call ok_tuple_of (hr.mono (by decide)) (by rfl) F_tuple_of.g F_tuple_of.F.kp F_tuple_of.b .nil pass0 (pa_cons (pv 1) (pa_cons pe_int (pa_cons pe_int pa_nil)))))) (pw_or1 (pt_not (pt_val (pe_callB (LK.cr_all K) (by rfl) T.all (by decide +kernel) (pa_cons (pe_lc (own := [("told", 2)]) (g := (gName 2)) rfl sc_is_rod.nd (LK.pi_tup K (pv 1)) (blkOk_by (own := [("told", 2)]) (N := n_is_rod) (sc := defScope s_is_rod) (by decide +kernel)) (fun _ _ _ _ _ => (pg_name (i := 2) sc_is_rod.nd rfl (Or.inl rfl))) (fun _ _ _ _ _ => pts_nil) (fun _ _ _ _ _ => (pe_call ok_whole (hr.mono (by decide)) (by rfl) F_whole.g F_whole.F.kp F_whole.b .nil pass0 (pa_cons (pv 2) pa_nil)))) pa_nil))))))) (pss_one (ps_ret pe_bl)) pss_nil)
      (pss_one (ps_ret (pe_and (LR.pe_chain3 op_le op_lt op_lt pe_int (pe_ix (LK.ix_tup K) (pv 1) pe_int (fun _ _ => rfl)) (pe_ix (LK.ix_tup K) (pv 1) pe_int (fun _ _ => rfl)) (pv 0)) (pe_one (pe_chain op_le op_le pe_int (pe_ix (LK.ix_tup K) (pv 1) pe_int (fun _ _ => rfl)) (pe_glob (v := .int 9) (by rfl) T.MOST_LENGTH.choose_spec ⟨_, rfl⟩))))))), ?_⟩
  have b3 : (vBL [true, true, true]) = vL ((List.range 3).map fun _ => vB true) := rfl
  refine p_no (et_is (et_or (et_not (t_test (e_call (a_cons (e_var rfl p2) (a_cons e_c (a_cons e_c a_nil))) ⟨_, _, _, rfl, rfl⟩))) fun _ => et_not (t_test (e_all (bs := [true, true, true]) (b3 ▸ e_lcN (n := 3) (O := fun _ => vB true) (i_tup (I := fun i => vI ([(r.1 : Int), (r.2.1 : Int), r.2.2].getD i 0)) (e_var rfl p2) rfl ?_) (by omega) (fun _ _ => stb_V) (fun _ => rfl) fun i x H1 hi e px => e_call (a_cons (e_var rfl px) a_nil) ⟨_, rfl, rfl⟩)))) (by rfl)) fun H1 e => ?_
  · intro i hi
    match i, hi with
    | 0, _ => rfl
    | 1, _ => rfl
    | 2, _ => rfl
  have p1' := (vI (n : Int)).mono e p1
  have p2' := (vRod r).mono e p2
  refine p_ret (e_bool (e_and (e_chain3 e_c (e_ixT (k := 0) (e_var rfl p2') e_c rfl) (e_ixT (k := 1) (e_var rfl p2') e_c rfl) (e_var rfl p1')) fun _ => e_chain2 e_c (e_ixT (k := 2) (e_var rfl p2') e_c rfl) e_c) ?_) fun v H2 e2 p3 => q v H2 (e.trans e2) p3
  simp
  omega
end
end Lt
set_option maxHeartbeats 1000000
namespace Lt
open PySem L2 Evl
theorem paired_take {α β : Type} {F : α → β → Prop} : ∀ {l : List α} {m : List β}, Paired F l m → ∀ k, Paired F (l.take k) (m.take k)
  | _, _, .nil, k => by rw [List.take_nil, List.take_nil]; exact .nil
  | _, _, .cons r t, 0 => .nil
  | _, _, .cons r t, k + 1 => .cons r (paired_take t k)
section
variable {K : PySem.W.Frag} {σ : L2.St} {H : Hp} {ta tb te th : TE}
/-- t[:k] -/
theorem e_slT {Ps : List VP} {k : Nat} (ha : EvP te σ H (vT Ps)) (hb : EvP th σ H (vI (k : Int))) : EvP (tSl (rSlA K) te tNoPart (tPart th)) σ H (vT (Ps.take k)) := fun H1 e Q q =>
  ha H1 e _ fun v H2 e2 pa => hb H2 (e.trans e2) _ fun u H3 e3 pb => by
    obtain rfl : u = .int (k : Int) := pb
    refine ⟨(k : Int), rfl, ?_⟩
    obtain ⟨p, xs, rfl, hp, hall⟩ := (vT Ps).mono e3 pa
    have ln : xs.length = Ps.length := (Paired.length hall).symm
    refine ⟨p, xs, rfl, st_of hp, fun ⟨h1, h2⟩ => ?_, fun hn p' hp' => ?_⟩
    · rw [HT.sIx_nat] at h2
      refine q _ H3 (e2.trans e3) ⟨p, xs, rfl, hp, ?_⟩
      rw [List.take_of_length_le (by omega)]
      exact hall
    · refine q _ _ ((e2.trans e3).trans (Ex.new hp')) ⟨p', _, rfl, upd_same, ?_⟩
      have ec : cutV xs none (some (k : Int)) = xs.take k := by
        unfold cutV
        rw [HT.sIx_nat, HT.sIx_none, List.drop_zero, Nat.sub_zero]
        by_cases hk : k ≤ xs.length
        · rw [Nat.min_eq_left hk]
        · rw [Nat.min_eq_right (by omega), List.take_of_length_le (Nat.le_refl _), List.take_of_length_le (by omega)]
      rw [ec]
      exact All.mono (Ex.new hp') (paired_take hall k)
theorem e_leT {ns ms : List Int} (ha : EvP ta σ H (vRow ns)) (hb : EvP tb σ H (vRow ms)) : EvP (tOp (rLeT K) ta tb) σ H (vB (Ob.lexAt (fun j => decide (ns.getD j 0 = ms.getD j 0)) (fun j => decide (ns.getD j 0 ≤ ms.getD j 0)) (decide (ns.length ≤ ms.length)) 0 (min ns.length ms.length))) :=
  e_op ha hb fun x y H1 _ px py Q q => by
    obtain ⟨a, rfl, h1⟩ := vRow_is px
    obtain ⟨b, rfl, h2⟩ := vRow_is py
    exact ⟨a, b, ns, ms, rfl, rfl, st_of h1, st_of h2, q _ H1 (Ex.refl H1) rfl⟩
theorem lex2 {a b c d : Int} (h : c < a ∨ (c = a ∧ d < b)) : Ob.lexAt (fun j => decide ([a, b].getD j 0 = [c, d].getD j 0)) (fun j => decide ([a, b].getD j 0 ≤ [c, d].getD j 0)) (decide ([a, b].length ≤ [c, d].length)) 0 (min [a, b].length [c, d].length) = false := by
  show (if decide (a = c) = true then (if decide (b = d) = true then decide (2 ≤ 2) else decide (b ≤ d)) else decide (a ≤ c)) = false
  by_cases h1 : a = c
  · rw [if_pos (decide_eq_true h1)]
    by_cases h2 : b = d
    · omega
    · rw [if_neg (by simpa using h2)]
      exact decide_eq_false (by omega)
  · rw [if_neg (by simpa using h1)]
    exact decide_eq_false (by omega)
abbrev vNL (s : List Nat) : VP := vL (s.map fun k : Nat => vI (k : Int))
theorem e_in {s : List Nat} {i : Nat} (ha : EvP ta σ H (vI (i : Int))) (hb : EvP tb σ H (vNL s)) : EvP (tOp (rIn K false) ta tb) σ H (vB (decide (i ∈ s))) :=
  e_op ha hb fun x y H1 _ px py Q q => by
    obtain rfl : x = .int (i : Int) := px
    obtain ⟨p, xs, rfl, hp, hall⟩ := py
    have ex := all_vV (f := fun k : Nat => V.int (k : Int)) hall
    subst ex
    refine ⟨p, _, rfl, .inl (sq_of hp), rfl, ?_, q _ H1 (Ex.refl H1) ?_⟩
    · rw [List.all_eq_true]
      intro x hx
      obtain ⟨k, _, rfl⟩ := List.mem_map.mp hx
      rfl
    · show V.bl (inV _ _) = V.bl _
      congr 1
      unfold inV
      rw [List.any_map, Bool.eq_iff_iff, List.any_eq_true, decide_eq_true_iff]
      constructor
      · rintro ⟨k, hk, h⟩
        have h' : ((k : Int) == (i : Int)) = true := h
        have h2 : (k : Int) = (i : Int) := by simpa using h'
        have h3 : k = i := by omega
        exact h3 ▸ hk
      · intro h
        refine ⟨i, h, ?_⟩
        show ((i : Int) == (i : Int)) = true
        simp
end
/-! ### a net that passes -/
abbrev rdAt (rods : List Rd3) (i : Nat) : Rd3 := rods.getD i (0, 0, 0)
structure NetOk (n : Nat) (rods : List Rd3) : Prop where
  n1 : 1 ≤ n
  n4 : n ≤ 4
  len : rods.length ≤ 28
  ok : ∀ r ∈ rods, RodOk n r
  sorted : ∀ i, i + 1 < rods.length → (rdAt rods i).1 < (rdAt rods (i + 1)).1 ∨ ((rdAt rods i).1 = (rdAt rods (i + 1)).1 ∧ (rdAt rods i).2.1 < (rdAt rods (i + 1)).2.1)
  span : ∀ k, 1 ≤ k → k < n → ∃ r ∈ rods, r.2.1 = k
theorem rdAt_mem {rods : List Rd3} {i : Nat} (h : i < rods.length) : rdAt rods i ∈ rods := by
  unfold rdAt
  rw [List.getD_eq_getElem?_getD, List.getElem?_eq_getElem h]
  exact List.getElem_mem h
theorem len_of_all : ∀ (n : Nat) (s : List Nat), (∀ k, k < n → k ∈ s) → n ≤ s.length
  | 0, _, _ => Nat.zero_le _
  | n + 1, s, h => by
    have ih := len_of_all n (s.erase n) fun k hk => (List.mem_erase_of_ne (by omega)).mpr (h k (by omega))
    rw [List.length_erase_of_mem (h n (by omega))] at ih
    have := List.length_pos_of_mem (h n (by omega))
    omega
theorem take_succ_mem {rods : List Rd3} {j : Nat} {r : Rd3} (hj : j < rods.length) (h : r ∈ rods.take (j + 1)) : r ∈ rods.take j ∨ r = rdAt rods j := by
  rw [List.take_succ, List.getElem?_eq_getElem hj] at h
  rcases List.mem_append.mp h with h | h
  · exact .inl h
  · refine .inr ?_
    unfold rdAt
    rw [List.getD_eq_getElem?_getD, List.getElem?_eq_getElem hj]
    simpa using h
def R_need_net : List VP → VP → Prop := fun Ps P => ∃ (n : Nat) (rods : List Rd3), NetOk n rods ∧ Ps = [vNet n rods] ∧ P = vN
def R_need_row : List VP → VP → Prop := fun Ps P => ∃ (n : Nat) (rods : List Rd3) (r : List Int), r.length = n ∧ n ≤ 4 ∧ (∀ x ∈ r, 0 ≤ x ∧ x ≤ 99) ∧ Ps = [vNet n rods, vRow r] ∧ P = vN
section
variable {P : Program} {w : World} {K : PySem.W.Frag} {mg : Str → Option Value} {base : Heap} {C : Addr}
theorem ok_need_net (T : Txt K mg C) (F_need_net : Fd K mg "need_net" s_need_net p_need_net) (F_tuple_of : Fd K mg "tuple_of" s_tuple_of p_tuple_of) (F_within : Fd K mg "within" s_within p_within) (F_is_rod : Fd K mg "is_rod" s_is_rod p_is_rod) (ok_tuple_of : FnOk P w K mg base CX0 1 F_tuple_of.f F_tuple_of.fd p_tuple_of (spF R_tuple_of)) (ok_within : FnOk P w K mg base CX0 2 F_within.f F_within.fd p_within (spF R_within))
    (ok_is_rod : FnOk P w K mg base CX0 2 F_is_rod.f F_is_rod.fd p_is_rod (spF R_is_rod)) : FnOk P w K mg base CX0 3 F_need_net.f F_need_net.fd p_need_net (spF R_need_net) := by
  refine F_need_net.F.ok sc_need_net (spF_len fun Ps P ⟨_, _, _, e, _⟩ => by subst e; rfl) (fun cdv A outer s H vs Q E hr h => ?_)
  obtain ⟨Ps, P, ⟨n, rods, N, rfl, rfl⟩, hall, q⟩ := h
  obtain ⟨v0, rfl, p1⟩ := all1 hall
  have lenI : (vT (rods.map vRod)).is = (vT (rods.map vRod)).is := rfl
  have hrd : ∀ i, i < rods.length → (rods.map vRod)[i]? = some (vRod (rdAt rods i)) := map_get _
  refine ⟨_, (pss_cons (ps_if (PW.pt (pw_or (pt_not (pt_val (pe_call ok_tuple_of (hr.mono (by decide)) (by rfl) F_tuple_of.g F_tuple_of.F.kp F_tuple_of.b .nil pass0 (pa_cons (pv 0) (pa_cons pe_int (pa_cons pe_int pa_nil)))))) (pw_or (pt_not (pt_val (pe_call ok_within (hr.mono (by decide)) (by rfl) F_within.g F_within.F.kp F_within.b .nil pass0 (pa_cons (pe_ix (LK.ix_tup K) (pv 0) pe_int (fun _ _ => rfl)) (pa_cons pe_int (pa_cons (pe_glob (v := .int 8) (by rfl) T.MOST_PLACES.choose_spec ⟨_, rfl⟩) pa_nil)))))) (pw_or1 (pt_not (pt_val (pe_call ok_tuple_of (hr.mono (by decide)) (by rfl) F_tuple_of.g F_tuple_of.F.kp F_tuple_of.b .nil pass0 (pa_cons (pe_ix (LK.ix_tup K) (pv 0) pe_int (fun _ _ => rfl)) (pa_cons pe_int (pa_cons pe_int pa_nil)))))))))) (pss_one ps_never) pss_nil)
      (pss_cons (ps_asg (pv 0) (pg_tup rfl (pgs_cons (pg_name (i := 1) sc_need_net.nd rfl (Or.inl rfl)) (pgs_cons (pg_name (i := 2) sc_need_net.nd rfl (Or.inl rfl)) pgs_nil))))
      (pss_cons (ps_for PassesOwn.never rfl (ZN.pi_enumT (by rfl) T.enumerate (pa_cons (pv 2) pa_nil)) (pg_tup rfl (pgs_cons (pg_name (i := 3) sc_need_net.nd rfl (Or.inl rfl)) (pgs_cons (pg_name (i := 4) sc_need_net.nd rfl (Or.inl rfl)) pgs_nil))) (pss_one (ps_if (PW.pt (pw_or (pt_not (pt_val (pe_call ok_is_rod (hr.mono (by decide)) (by rfl) F_is_rod.g F_is_rod.F.kp F_is_rod.b .nil pass0 (pa_cons (pv 1) (pa_cons (pv 4) pa_nil))))) (pw_or1 (PW.pt (pw_and (pt_cmpR op_gt (pv 3) pe_int (nomark _)) (pw_and1 (pt_cmpR (LK.op_leT K hr.units0) (pe_slice (LK.sl_tupA K) (pv 4) po_none (po_some pe_int)) (pe_slice (LK.sl_tupA K) (pe_ix (LK.ix_tup K) (pv 2) (pe_op op_sub (pv 3) pe_int) (fun _ _ => rfl)) po_none (po_some pe_int)) (nomark _)))))))) (pss_one ps_never) pss_nil)))
      (pss_cons (ps_set (i := 5) sc_need_net.nd rfl (Or.inl rfl) (pe_lst (pa_cons pe_int pa_nil)))
      (pss_cons (ps_for PassesOwn.never rfl (pi_range1 rfl T.range (pa_cons (pv 1) pa_nil)) (pg_name (i := 6) sc_need_net.nd rfl (Or.inl rfl)) (pss_one (ps_for PassesOwn.never rfl (LK.pi_tup K (pv 2)) (pg_tup rfl (pgs_cons (pg_name (i := 7) sc_need_net.nd rfl (Or.inl rfl)) (pgs_cons (pg_name (i := 8) sc_need_net.nd rfl (Or.inl rfl)) (pgs_cons (pg_name (i := 9) sc_need_net.nd rfl (Or.inl rfl)) pgs_nil)))) (pss_one (ps_if (pt_cmpR op_ne (pe_cmpR (LK.op_in_seq K) (pv 7) (pv 5) (by rfl)) (pe_cmpR (LK.op_in_seq K) (pv 8) (pv 5) (by rfl)) (nomark _)) (pss_one (ps_expr (pe_bm PySem.F.plainAttrs_list PySem.F.slot_list_append PySem.F.type_list_append mt_append (pv 5) (pa_cons (pe_ifExp (pt_cmpR (LK.op_in_seq K) (pv 7) (pv 5) (by rfl)) (pv 8) (pv 7)) pa_nil)))) pss_nil)))))
      (pss_one (ps_if (pt_cmpR op_lt (pe_callB (LK.call_len_seq K) (by rfl) T.len (by decide +kernel) (pa_cons (pv 5) pa_nil)) (pv 1) (nomark _)) (pss_one ps_never) pss_nil))))))), ?_⟩
  refine p_no (et_is (et_or (et_not (t_test (e_call (a_cons (e_var rfl p1) (a_cons e_c (a_cons e_c a_nil))) ⟨_, _, _, rfl, rfl⟩))) fun _ => et_or (et_not (t_test (e_call (a_cons (e_ixT (k := 0) (e_var rfl p1) e_c rfl) (a_cons e_c (a_cons e_c a_nil))) ⟨_, _, _, rfl, rfl⟩))) fun _ =>
    et_not (t_test (e_call (a_cons (e_ixT (k := 1) (e_var rfl p1) e_c rfl) (a_cons e_c (a_cons e_c a_nil))) ⟨_, _, _, rfl, rfl⟩))) ?_) fun H1 e1 => ?_
  · have a1 := N.n1
    have a2 := N.n4
    have a3 := N.len
    simp
    omega
  refine p_two (e_var rfl ((vNet n rods).mono e1 p1)) fun vm vr H2 e2 pm pr => ?_
  obtain rfl : vm = .int (n : Int) := pm
  refine p_for (H0 := H2) (n := rods.length) (w_enumT (ev_v rfl) pr (by simp) hrd) (Ex.refl _) (fun _ σ' H' => Ex H2 H' ∧ ∃ x y, σ' = [some v0, some (.int (n : Int)), some vr, x, y, none, none, none, none, none]) (fun H' e => ⟨e, none, none, rfl⟩) (fun _ _ _ h => h.1) ?_ ?_
  · rintro i x σ' H' H3 hi ⟨h1, x3, x4, rfl⟩ e3 px
    refine g_two px fun a b pa pb => ?_
    obtain rfl : a = .int (i : Int) := pa
    have pr' := (vT (rods.map vRod)).mono (h1.trans e3) pr
    refine p_no1 (et_is (et_or (et_not (t_test (e_call (a_cons (e_var rfl (show (vI (n : Int)).is H3 _ from rfl)) (a_cons (e_var rfl pb) a_nil)) ⟨_, _, rfl, N.ok _ (rdAt_mem hi), rfl⟩))) fun _ =>
      et_and (t_test (e_I0 (e_var rfl (show (vI (i : Int)).is H3 _ from rfl)) e_c)) fun hpos => t_test (e_bool (b := false) (e_leT (ns := [((rdAt rods i).1 : Int), ((rdAt rods i).2.1 : Int)]) (ms := [((rdAt rods (i - 1)).1 : Int), ((rdAt rods (i - 1)).2.1 : Int)]) (e_slT (k := 2) (e_var rfl pb) e_c) (e_slT (k := 2) (e_ixT (k := i - 1) (e_var rfl pr') (e_is (e_I0 (e_var rfl (show (vI (i : Int)).is H3 _ from rfl)) e_c) ?_) (hrd (i - 1) (by omega))) e_c)) ?_)) (by simp)) fun H4 e4 => ⟨h1.trans (e3.trans e4), _, _, rfl⟩
    · have := of_decide_eq_true hpos
      omega
    · have h0 := of_decide_eq_true hpos
      have hs := N.sorted (i - 1) (by omega)
      rw [show i - 1 + 1 = i by omega] at hs
      exact lex2 (by omega)
  rintro σ' H3 ⟨h1, x3, x4, rfl⟩
  have pr3 := (vT (rods.map vRod)).mono h1 pr
  refine ⟨sz_of (by show (1 : Nat) ≤ 100000; omega), fun l hl => ?_⟩
  have M0 : Mut H3 (upd H3 l (.lst [.int 0])) l ([0].map fun k : Nat => vI (k : Int)) := ⟨hl, Ex.new hl, l, [.int 0], rfl, upd_same, .cons rfl .nil⟩
  have stb : ∀ s : List Nat, ∀ O ∈ (s.map fun k : Nat => vI (k : Int)), Stb O := fun s O hO => by
    obtain ⟨k, _, rfl⟩ := List.mem_map.mp hO
    exact stb_V
  refine p_for (H0 := H3) (n := n) (w_rangeN (a_cons (e_var rfl (show (vI (n : Int)).is H3 _ from rfl)) a_nil) (by have := N.n4; omega)) (Ex.new hl)
    (fun i σ' H' => ∃ s : List Nat, Mut H3 H' l (s.map fun k : Nat => vI (k : Int)) ∧ s.length ≤ 1 + 28 * i ∧ (∀ k, k ≤ i → k < n → k ∈ s) ∧ ∃ x3 x4 x6 x7 x8 x9, σ' = [some v0, some (.int (n : Int)), some vr, x3, x4, some (.ref l), x6, x7, x8, x9])
    (fun H' e => ⟨[0], M0.mono e, by simp, fun k hk _ => by simp; omega, _, _, _, _, _, _, rfl⟩) (fun _ _ _ ⟨s, m, _⟩ => m.ex) ?_ ?_
  · rintro i x σ' H' H4 hi ⟨s, m, ls, hs, x3, x4, x6, x7, x8, x9, rfl⟩ e4 px
    obtain rfl : x = .int (i : Int) := px
    have m4 := m.mono e4
    refine p_for1 (H0 := H3) (n := rods.length) (w_tup (ev_v rfl) pr3 (by simp) hrd) m4.ex
      (fun j σ' H' => ∃ s : List Nat, Mut H3 H' l (s.map fun k : Nat => vI (k : Int)) ∧ s.length ≤ 1 + 28 * i + j ∧ (∀ k, k ≤ i → k < n → k ∈ s) ∧ (∀ r ∈ rods.take j, r.1 ≤ i → r.2.1 ∈ s) ∧ ∃ x3 x4 x6 x7 x8 x9, σ' = [some v0, some (.int (n : Int)), some vr, x3, x4, some (.ref l), x6, x7, x8, x9])
      (fun H' e => ⟨s, m4.mono e, by omega, hs, fun r hr => by simp at hr, _, _, _, _, _, _, rfl⟩) (fun _ _ _ ⟨s, m, _⟩ => m.ex) ?_ ?_
    · rintro j x σ' H' H5 hj ⟨s, m, ls, hs, ht, x3, x4, x6, x7, x8, x9, rfl⟩ e5 px
      have m5 := m.mono e5
      refine g_three px fun a b c pa pb pc => ?_
      obtain rfl : a = .int ((rdAt rods j).1 : Int) := pa
      obtain rfl : b = .int ((rdAt rods j).2.1 : Int) := pb
      have ro := N.ok _ (rdAt_mem hj)
      have vA : ∀ H, (vI ((rdAt rods j).1 : Int)).is H (.int ((rdAt rods j).1 : Int)) := fun _ => rfl
      have vBb : ∀ H, (vI ((rdAt rods j).2.1 : Int)).is H (.int ((rdAt rods j).2.1 : Int)) := fun _ => rfl
      have fin : ∀ (s' : List Nat) H6, Mut H3 H6 l (s'.map fun k : Nat => vI (k : Int)) → (∀ k ∈ s, k ∈ s') → s'.length ≤ s.length + 1 → ((rdAt rods j).1 ∈ s → (rdAt rods j).2.1 ∈ s') →
          ∃ s : List Nat, Mut H3 H6 l (s.map fun k : Nat => vI (k : Int)) ∧ s.length ≤ 1 + 28 * i + (j + 1) ∧ (∀ k, k ≤ i → k < n → k ∈ s) ∧ (∀ r ∈ rods.take (j + 1), r.1 ≤ i → r.2.1 ∈ s) := fun s' H6 m6 sub l6 ad => by
        refine ⟨s', m6, by omega, fun k h1 h2 => sub k (hs k h1 h2), fun r hr h1 => ?_⟩
        rcases take_succ_mem hj hr with hr | rfl
        · exact sub _ (ht r hr h1)
        · exact ad (hs _ h1 (by have := ro.1; have := ro.2.1; omega))
      refine p_if1 (t_test (e_ne (e_in (e_var rfl (vA _)) (e_var rfl m5.is)) (e_in (e_var rfl (vBb _)) (e_var rfl m5.is)) rfl)) (fun hb H6 e6 => ?_) (fun hb H6 e6 => ?_)
      · have m6 := m5.mono e6
        refine mut_app (P := vI (((if (rdAt rods j).1 ∈ s then (rdAt rods j).2.1 else (rdAt rods j).1) : Nat) : Int)) m6 (ev_v rfl) (e_if (t_test (e_in (e_var rfl (vA _)) (e_var rfl m6.is))) (fun h => ?_) (fun h => ?_)) (by simp; have := N.len; have := N.n4; omega) (fun O hO => ?_) fun H7 m7 => ?_
        · rw [if_pos (of_decide_eq_true h)]
          exact e_var rfl (vBb _)
        · rw [if_neg (of_decide_eq_false h)]
          exact e_var rfl (vA _)
        · rcases List.mem_append.mp hO with hO | hO
          · exact stb s O hO
          · rw [List.mem_singleton.mp hO]
            exact stb_V
        · obtain ⟨s', c1, c2, c3, c4⟩ := fin (s ++ [if (rdAt rods j).1 ∈ s then (rdAt rods j).2.1 else (rdAt rods j).1]) H7 (by rw [List.map_append]; exact m7) (fun k hk => List.mem_append_left _ hk) (by simp) (fun h => by rw [if_pos h]; simp)
          exact ⟨s', c1, c2, c3, c4, _, _, _, _, _, _, rfl⟩
      · obtain ⟨s', c1, c2, c3, c4⟩ := fin s H6 (m5.mono e6) (fun k hk => hk) (by omega) (fun h => by
          have q1 : decide (V.bl (decide ((rdAt rods j).1 ∈ s)) = V.bl (decide ((rdAt rods j).2.1 ∈ s))) = true := by simpa using hb
          have q2 := of_decide_eq_true q1
          injection q2 with q3
          rw [decide_eq_true h] at q3
          exact of_decide_eq_true q3.symm)
        exact ⟨s', c1, c2, c3, c4, _, _, _, _, _, _, rfl⟩
    · rintro σ' H5 ⟨s, m, ls, hs, ht, x3, x4, x6, x7, x8, x9, rfl⟩
      refine ⟨s, m, by have := N.len; omega, fun k hk hkn => ?_, _, _, _, _, _, _, rfl⟩
      by_cases hki : k ≤ i
      · exact hs k hki hkn
      · obtain ⟨r, hr, e⟩ := N.span k (by omega) hkn
        rw [← e]
        refine ht r (by rw [List.take_length]; exact hr) ?_
        have := (N.ok r hr).1
        omega
  · rintro σ' H4 ⟨s, m, ls, hs, x3, x4, x6, x7, x8, x9, rfl⟩
    refine p_no1 (et_is (t_test (e_I0 (e_lenL (e_var rfl m.is)) (e_var rfl (show (vI (n : Int)).is H4 _ from rfl)))) ?_) fun H5 e5 => q _ _ ?_ rfl
    · have := len_of_all n s fun k hk => hs k (by omega) hk
      simp
      omega
    · exact (e1.trans e2).trans (h1.trans (m.ex.trans e5))
theorem ok_need_row (T : Txt K mg C) (F_need_row : Fd K mg "need_row" s_need_row p_need_row) (F_tuple_of : Fd K mg "tuple_of" s_tuple_of p_tuple_of) (F_within : Fd K mg "within" s_within p_within) (ok_tuple_of : FnOk P w K mg base CX0 1 F_tuple_of.f F_tuple_of.fd p_tuple_of (spF R_tuple_of)) (ok_within : FnOk P w K mg base CX0 2 F_within.f F_within.fd p_within (spF R_within)) :
    FnOk P w K mg base CX0 3 F_need_row.f F_need_row.fd p_need_row (spF R_need_row) := by
  refine F_need_row.F.ok sc_need_row (spF_len fun Ps P ⟨_, _, _, _, _, _, e, _⟩ => by subst e; rfl) (fun cdv A outer s H vs Q E hr h => ?_)
  obtain ⟨Ps, P, ⟨n, rods, r, hn, hn4, hr0, rfl, rfl⟩, hall, q⟩ := h
  obtain ⟨v0, v1, rfl, p1, p2⟩ := all2 hall
  refine ⟨_, (pss_cons (ps_if (pt_not (pt_val (pe_call ok_tuple_of (hr.mono (by decide)) (by rfl) F_tuple_of.g F_tuple_of.F.kp F_tuple_of.b .nil pass0 (pa_cons (pv 1) (pa_cons (pe_ix (LK.ix_tup K) (pv 0) pe_int (fun _ _ => rfl)) (pa_cons (pe_ix (LK.ix_tup K) (pv 0) pe_int (fun _ _ => rfl)) pa_nil)))))) (pss_one ps_never) pss_nil)
      (pss_one (ps_for PassesOwn.never rfl (ZN.pi_enumT (by rfl) T.enumerate (pa_cons (pv 1) pa_nil)) (pg_tup rfl (pgs_cons (pg_name (i := 2) sc_need_row.nd rfl (Or.inl rfl)) (pgs_cons (pg_name (i := 3) sc_need_row.nd rfl (Or.inl rfl)) pgs_nil))) (pss_one (ps_if (pt_not (pt_val (pe_call ok_within (hr.mono (by decide)) (by rfl) F_within.g F_within.F.kp F_within.b .nil pass0 (pa_cons (pv 3) (pa_cons pe_int (pa_cons (pe_glob (v := .int 99) (by rfl) T.MOST_HEIGHT.choose_spec ⟨_, rfl⟩) pa_nil)))))) (pss_one ps_never) pss_nil))))), ?_⟩
  refine p_no (et_is (et_not (t_test (e_call (a_cons (e_var rfl p2) (a_cons (e_ixT (k := 0) (e_var rfl p1) e_c rfl) (a_cons (e_ixT (k := 0) (e_var rfl p1) e_c rfl) a_nil))) ⟨_, _, _, rfl, rfl⟩))) (by simp [hn])) fun H1 e1 => ?_
  refine p_for1 (H0 := H1) (n := r.length) (w_enumT (I := fun i => vI (r.getD i 0)) (ev_v rfl) ((vRow r).mono e1 p2) (by simp) (map_get _)) (Ex.refl _) (fun _ σ' H' => Ex H1 H' ∧ ∃ x y, σ' = [some v0, some v1, x, y]) (fun H' e => ⟨e, none, none, rfl⟩) (fun _ _ _ h => h.1) ?_ ?_
  · rintro i x σ' H' H3 hi ⟨h1, x3, x4, rfl⟩ e3 px
    refine g_two px fun a b pa pb => ?_
    refine p_no1 (et_is (et_not (t_test (e_call (a_cons (e_var rfl pb) (a_cons e_c (a_cons e_c a_nil))) ⟨_, _, _, rfl, rfl⟩))) ?_) fun H4 e4 => ⟨h1.trans (e3.trans e4), _, _, rfl⟩
    have hm : r.getD i 0 ∈ r := by
      rw [List.getD_eq_getElem?_getD, List.getElem?_eq_getElem hi]
      exact List.getElem_mem hi
    obtain ⟨c1, c2⟩ := hr0 _ hm
    rw [decide_eq_true c1, decide_eq_true c2] <;> rfl
  · rintro σ' H3 ⟨h1, _⟩
    exact q _ _ (e1.trans h1) rfl
end
end Lt
set_option maxHeartbeats 1000000
namespace Lt
open PySem L2 Evl
/-! ### the tables -/
def rlx (d : Nat → Nat → Int) (r : Rd3) : Nat → Nat → Int := dset (dset d r.1 r.2.1 (min (d r.1 r.2.1) r.2.2)) r.2.1 r.1 (dset d r.1 r.2.1 (min (d r.1 r.2.1) r.2.2) r.1 r.2.1)
def fwI (m o : Nat) (d : Nat → Nat → Int) (t : Nat) : Nat → Nat → Int := dset d o t (min (d o t) (d o m + d m t))
def fwO (n m : Nat) (d : Nat → Nat → Int) (o : Nat) : Nat → Nat → Int := (List.range n).foldl (fwI m o) d
def fwM (n : Nat) (d : Nat → Nat → Int) (m : Nat) : Nat → Nat → Int := (List.range n).foldl (fwO n m) d
def fw (n : Nat) (rods : List Rd3) : Nat → Nat → Int := (List.range n).foldl (fwM n) (rods.foldl rlx (d0 9999))
theorem fold_succ {α : Type} (f : α → Nat → α) (a : α) (n : Nat) : (List.range (n + 1)).foldl f a = f ((List.range n).foldl f a) n := by
  rw [List.range_succ, List.foldl_append] <;> rfl
theorem fold_take {α : Type} (f : α → Rd3 → α) (a : α) {rods : List Rd3} {j : Nat} (h : j < rods.length) : (rods.take (j + 1)).foldl f a = f ((rods.take j).foldl f a) (rdAt rods j) := by
  have e : rods[j]?.toList = [rdAt rods j] := by
    unfold rdAt
    rw [List.getD_eq_getElem?_getD, List.getElem?_eq_getElem h] <;> rfl
  rw [List.take_succ, List.foldl_append, e] <;> rfl
def R_table_of : List VP → VP → Prop := fun Ps P => ∃ (n : Nat) (rods : List Rd3), NetOk n rods ∧ Ps = [vNet n rods] ∧ P = vTab n (fw n rods)
def roof (n : Nat) (d : Nat → Nat → Int) (r : List Int) : List Int := (List.range n).map fun p => mx ((List.range n).map fun k => r.getD k 0 - d k p)
def floor (n : Nat) (d : Nat → Nat → Int) (r : List Int) : List Int := (List.range n).map fun p => mn ((List.range n).map fun k => r.getD k 0 + d k p)
def bLo (d : Nat → Nat → Int) (r : List Int) (p : Nat) : Int := mx (0 :: (List.range p).map fun k => r.getD k 0 - d k p)
def bHi (d : Nat → Nat → Int) (r : List Int) (p : Nat) (m : Int) : Int := mn (m :: (List.range p).map fun k => r.getD k 0 + d k p)
def R_roof_of : List VP → VP → Prop := fun Ps P => ∃ (n : Nat) (d : Nat → Nat → Int) (r : List Int), r.length = n ∧ 1 ≤ n ∧ n ≤ 4 ∧ Ps = [vTab n d, vRow r] ∧ P = vRow (roof n d r)
def R_floor_of : List VP → VP → Prop := fun Ps P => ∃ (n : Nat) (d : Nat → Nat → Int) (r : List Int), r.length = n ∧ 1 ≤ n ∧ n ≤ 4 ∧ Ps = [vTab n d, vRow r] ∧ P = vRow (floor n d r)
def R_bounds_at : List VP → VP → Prop := fun Ps P => ∃ (n : Nat) (d : Nat → Nat → Int) (r : List Int) (p : Nat) (m : Int), r.length = p ∧ p < n ∧ n ≤ 4 ∧ Ps = [vTab n d, vRow r, vI (p : Int), vI m] ∧ P = vT [vI (bLo d r p), vI (bHi d r p m)]
theorem vIL_map (n : Nat) (f : Nat → Int) : vIL ((List.range n).map f) = vL ((List.range n).map fun k => vI (f k)) := by
  show vL _ = vL _
  rw [List.map_map] <;> rfl
theorem vRow_map (n : Nat) (f : Nat → Int) : vRow ((List.range n).map f) = vT ((List.range n).map fun k => vI (f k)) := by
  show vT _ = vT _
  rw [List.map_map] <;> rfl
theorem vIL_cons (x : Int) (n : Nat) (f : Nat → Int) : vIL (x :: (List.range n).map f) = vL ([vI x] ++ (List.range n).map fun k => vI (f k)) := by
  show vL _ = vL _
  rw [List.map_cons, List.map_map] <;> rfl
theorem p_tab {σ : L2.St} {H : Hp} {D : Ends} {tz : TS} {te : TE} {n : Nat} {d : Nat → Nat → Int} {ta : TA} {i j : Nat} {vs : List Nat} (h : EvA ta σ H [vI (n : Int)]) (hz : n ≤ 40000) (hw : ∀ x, wipe ((wipe σ vs).set j (some x)) vs = wipe σ vs)
    (he : ∀ (i : Nat) H1, i < n → Ex H H1 → EvL te ((wipe σ vs).set j (some (.int (i : Int)))) H1 ((List.range n).map fun b => V.int (d i b)))
    (k : ∀ p H1, Tab H H1 p n d → tz D (σ.set i (some (.ref p))) H1) : tSeq (tAsg (tLc (iRng1 ta) (gName j) tYes te vs) (gName i)) tz D σ H :=
  show tLc (iRng1 ta) (gName j) tYes te vs σ H (fun v H1 => tz D (σ.set i (some v)) H1) from tab_mk h hz hw he k
section
variable {P : Program} {w : World} {K : PySem.W.Frag} {mg : Str → Option Value} {base : Heap} {C : Addr}
theorem ok_table_of (T : Txt K mg C) (F_table_of : Fd K mg "table_of" s_table_of p_table_of) : FnOk P w K mg base CX0 1 F_table_of.f F_table_of.fd p_table_of (spF R_table_of) := by
  refine F_table_of.F.ok sc_table_of (spF_len fun Ps P ⟨_, _, _, e, _⟩ => by subst e; rfl) (fun cdv A outer s H vs Q E hr h => ?_)
  obtain ⟨Ps, P, ⟨n, rods, N, rfl, rfl⟩, hall, q⟩ := h
  obtain ⟨v0, rfl, p1⟩ := all1 hall
  have hrd : ∀ i, i < rods.length → (rods.map vRod)[i]? = some (vRod (rdAt rods i)) := map_get _
  have hn4 := N.n4
  have vi : ∀ (i : Int) H, (vI i).is H (.int i) := fun _ _ => rfl
  refine ⟨_, (pss_cons (ps_asg (pv 0) (pg_tup rfl (pgs_cons (pg_name (i := 1) sc_table_of.nd rfl (Or.inr rfl)) (pgs_cons (pg_name (i := 2) sc_table_of.nd rfl (Or.inl rfl)) pgs_nil))))
      (pss_cons (ps_setLc (i := 5) (own := [("one", 3)]) (g := (gName 3)) rfl sc_table_of.nd rfl rfl (sw_true rfl rfl rfl (by decide +kernel)) (pi_range1 rfl T.range (pa_cons (pv 1) pa_nil)) (blkOk_by (own := [("one", 3)]) (N := n_table_of) (sc := defScope s_table_of) (by decide +kernel)) (fun _ _ _ _ _ => (pg_name (i := 3) sc_table_of.nd rfl (Or.inr rfl))) (fun _ _ _ _ _ => pts_nil) (fun _ _ _ _ _ => (pe_lc (own := [("other", 4)]) (g := (gName 4)) rfl sc_table_of.nd (pi_range1 rfl T.range (pa_cons (pv 1) pa_nil)) (blkOk_by (own := [("other", 4)]) (N := n_table_of) (sc := (relS { kind := .function, names := [(PySem.Str.ofString ".0", .local), (PySem.Str.ofString "one", .cell), (PySem.Str.ofString "range", .globalImplicit), (PySem.Str.ofString "many", .free)], isGenerator := false, isCoroutine := false, more := [] } (defScope s_table_of))) (by decide +kernel)) (fun _ _ _ _ _ => (pg_name (i := 4) sc_table_of.nd rfl (Or.inl rfl))) (fun _ _ _ _ _ => pts_nil) (fun _ _ _ _ _ => (pe_ifExp (pt_cmpR op_eq (pv 3) (pv 4) (nomark _)) pe_int pe_int)))))
      (pss_cons (ps_for PassesOwn.never rfl (LK.pi_tup K (pv 2)) (pg_tup rfl (pgs_cons (pg_name (i := 3) sc_table_of.nd rfl (Or.inl rfl)) (pgs_cons (pg_name (i := 4) sc_table_of.nd rfl (Or.inl rfl)) (pgs_cons (pg_name (i := 6) sc_table_of.nd rfl (Or.inl rfl)) pgs_nil)))) (pss_cons (ps_asg (pe_callB LK.call_min2 (by rfl) T.min (by decide +kernel) (pa_cons (pe_ix (LK.ix_list K) (pe_ix (LK.ix_list K) (pv 5) (pv 3) (fun _ _ => rfl)) (pv 4) (fun _ _ => rfl)) (pa_cons (pv 6) pa_nil))) (pg_sub (pe_ix (LK.ix_list K) (pv 5) (pv 3) (fun _ _ => rfl)) (pv 4) set_list))
      (pss_one (ps_asg (pe_ix (LK.ix_list K) (pe_ix (LK.ix_list K) (pv 5) (pv 3) (fun _ _ => rfl)) (pv 4) (fun _ _ => rfl)) (pg_sub (pe_ix (LK.ix_list K) (pv 5) (pv 4) (fun _ _ => rfl)) (pv 3) set_list)))))
      (pss_cons (ps_for PassesOwn.never rfl (pi_range1 rfl T.range (pa_cons (pv 1) pa_nil)) (pg_name (i := 7) sc_table_of.nd rfl (Or.inl rfl)) (pss_one (ps_for PassesOwn.never rfl (pi_range1 rfl T.range (pa_cons (pv 1) pa_nil)) (pg_name (i := 3) sc_table_of.nd rfl (Or.inl rfl)) (pss_one (ps_for PassesOwn.never rfl (pi_range1 rfl T.range (pa_cons (pv 1) pa_nil)) (pg_name (i := 4) sc_table_of.nd rfl (Or.inl rfl)) (pss_one (ps_asg (pe_callB LK.call_min2 (by rfl) T.min (by decide +kernel) (pa_cons (pe_ix (LK.ix_list K) (pe_ix (LK.ix_list K) (pv 5) (pv 3) (fun _ _ => rfl)) (pv 4) (fun _ _ => rfl)) (pa_cons (pe_op op_add (pe_ix (LK.ix_list K) (pe_ix (LK.ix_list K) (pv 5) (pv 3) (fun _ _ => rfl)) (pv 7) (fun _ _ => rfl)) (pe_ix (LK.ix_list K) (pe_ix (LK.ix_list K) (pv 5) (pv 7) (fun _ _ => rfl)) (pv 4) (fun _ _ => rfl))) pa_nil))) (pg_sub (pe_ix (LK.ix_list K) (pv 5) (pv 3) (fun _ _ => rfl)) (pv 4) set_list))))))))
      (pss_one (ps_ret (pv 5))))))), ?_⟩
  refine p_two (e_var rfl p1) fun vm vr H1 e1 pm pr => ?_
  obtain rfl : vm = .int (n : Int) := pm
  refine p_tab (n := n) (d := d0 9999) (a_cons (e_var rfl (vi n H1)) a_nil) (by omega) (fun _ => rfl) (fun i H2 hi e2 => ?_) fun p H2 T2 => ?_
  · exact row0 (ea_cons (ev_v rfl) ea_nil) (by omega) (fun _ => rfl) (fun _ => rfl) (fun _ => rfl)
  refine p_for (H0 := H1) (n := rods.length) (w_tup (ev_v rfl) pr (by simp) hrd) T2.ex
    (fun j σ' H' => Tab H1 H' p n ((rods.take j).foldl rlx (d0 9999)) ∧ ∃ x3 x4 x6 x7, σ' = [some v0, some (.int (n : Int)), some vr, x3, x4, some (.ref p), x6, x7]) (fun H' e => ⟨T2.mono e, _, _, _, _, rfl⟩) (fun _ _ _ h => h.1.ex) ?_ ?_
  · rintro j x σ' H' H3 hj ⟨T', x3, x4, x6, x7, rfl⟩ e3 px
    refine g_three px fun a b c pa pb pc => ?_
    obtain rfl : a = .int ((rdAt rods j).1 : Int) := pa
    obtain rfl : b = .int ((rdAt rods j).2.1 : Int) := pb
    obtain rfl : c = .int ((rdAt rods j).2.2 : Int) := pc
    obtain ⟨r1, r2, r3, r4⟩ := N.ok _ (rdAt_mem hj)
    have T3 := T'.mono e3
    refine tab_set (D := { nx := _, rt := _, bk := _, ct := _ }) T3 rfl (e_min2 (e_tab (e_var rfl T3.is) (e_var rfl (vi _ _)) (e_var rfl (vi _ _)) (by omega) r2) (e_var rfl (vi _ _))) (e_var rfl (vi _ _)) (e_var rfl (vi _ _)) (by omega) r2 fun H4 T4 => ?_
    refine tab_set T4 rfl (e_tab (e_var rfl T4.is) (e_var rfl (vi _ _)) (e_var rfl (vi _ _)) (by omega) r2) (e_var rfl (vi _ _)) (e_var rfl (vi _ _)) r2 (by omega) fun H5 T5 => ⟨?_, _, _, _, _, rfl⟩
    rw [fold_take _ _ hj]
    exact T5
  rintro σ' H3 ⟨T3, x3, x4, x6, x7, rfl⟩
  rw [List.take_length] at T3
  refine p_for (H0 := H1) (n := n) (w_rangeN (a_cons (e_var rfl (vi _ _)) a_nil) (by omega)) T3.ex
    (fun m σ' H' => Tab H1 H' p n ((List.range m).foldl (fwM n) (rods.foldl rlx (d0 9999))) ∧ ∃ x3 x4 x6 x7, σ' = [some v0, some (.int (n : Int)), some vr, x3, x4, some (.ref p), x6, x7]) (fun H' e => ⟨T3.mono e, _, _, _, _, rfl⟩) (fun _ _ _ h => h.1.ex) ?_ ?_
  · rintro m x σ' H' H4 hm ⟨T', x3, x4, x6, x7, rfl⟩ e4 px
    obtain rfl : x = .int (m : Int) := px
    have T4 := T'.mono e4
    rw [fold_succ]
    generalize (List.range m).foldl (fwM n) (rods.foldl rlx (d0 9999)) = dm at T4 ⊢
    refine p_for1 (H0 := H1) (n := n) (w_rangeN (a_cons (e_var rfl (vi _ _)) a_nil) (by omega)) T4.ex
      (fun o σ' H' => Tab H1 H' p n ((List.range o).foldl (fwO n m) dm) ∧ ∃ x3 x4 x6, σ' = [some v0, some (.int (n : Int)), some vr, x3, x4, some (.ref p), x6, some (.int (m : Int))]) (fun H' e => ⟨T4.mono e, _, _, _, rfl⟩) (fun _ _ _ h => h.1.ex) ?_ ?_
    · rintro o x σ' H' H5 ho ⟨T', x3, x4, x6, rfl⟩ e5 px
      obtain rfl : x = .int (o : Int) := px
      have T5 := T'.mono e5
      rw [fold_succ]
      generalize (List.range o).foldl (fwO n m) dm = dn at T5 ⊢
      refine p_for1 (H0 := H1) (n := n) (w_rangeN (a_cons (e_var rfl (vi _ _)) a_nil) (by omega)) T5.ex
        (fun t σ' H' => Tab H1 H' p n ((List.range t).foldl (fwI m o) dn) ∧ ∃ x4 x6, σ' = [some v0, some (.int (n : Int)), some vr, some (.int (o : Int)), x4, some (.ref p), x6, some (.int (m : Int))]) (fun H' e => ⟨T5.mono e, _, _, rfl⟩) (fun _ _ _ h => h.1.ex) ?_ ?_
      · rintro t x σ' H' H6 ht ⟨T', x4, x6, rfl⟩ e6 px
        obtain rfl : x = .int (t : Int) := px
        have T6 := T'.mono e6
        rw [fold_succ]
        generalize (List.range t).foldl (fwI m o) dn = dt at T6 ⊢
        have tb : ∀ {i j : Nat} {ta tb' : TE} {σ : L2.St}, EvP (tVar 5) σ H6 (vTab n dt) → EvP ta σ H6 (vI (i : Int)) → EvP tb' σ H6 (vI (j : Int)) → i < n → j < n → EvP (tOp (rIxL K) (tOp (rIxL K) (tVar 5) ta) tb') σ H6 (vI (dt i j)) := fun a b c h1 h2 => e_tab a b c h1 h2
        refine tab_set T6 rfl (e_min2 (tb (e_var rfl T6.is) (e_var rfl (vi _ _)) (e_var rfl (vi _ _)) ho ht) (e_I0 (tb (e_var rfl T6.is) (e_var rfl (vi _ _)) (e_var rfl (vi _ _)) ho hm) (tb (e_var rfl T6.is) (e_var rfl (vi _ _)) (e_var rfl (vi _ _)) hm ht))) (e_var rfl (vi _ _)) (e_var rfl (vi _ _)) ho ht fun H7 T7 => ⟨T7, _, _, rfl⟩
      · rintro σ' H6 ⟨T', x4, x6, rfl⟩
        exact ⟨T', _, _, _, rfl⟩
    · rintro σ' H5 ⟨T', x3, x4, x6, rfl⟩
      exact ⟨T', _, _, _, _, rfl⟩
  · rintro σ' H4 ⟨T4, x3, x4, x6, x7, rfl⟩
    exact p_ret (e_var rfl T4.is) fun v H5 e5 pv' => q v H5 (e1.trans (T4.ex.trans e5)) pv'
theorem ok_roof_of (T : Txt K mg C) (F_roof_of : Fd K mg "roof_of" s_roof_of p_roof_of) : FnOk P w K mg base CX0 1 F_roof_of.f F_roof_of.fd p_roof_of (spF R_roof_of) := by
  refine F_roof_of.F.ok sc_roof_of (spF_len fun Ps P ⟨_, _, _, _, _, _, e, _⟩ => by subst e; rfl) (fun cdv A outer s H vs Q E hr h => ?_)
  obtain ⟨Ps, P, ⟨n, d, r, hl, h1, h4, rfl, rfl⟩, hall, q⟩ := h
  obtain ⟨v0, v1, rfl, p1, p2⟩ := all2 hall
  have vi : ∀ (i : Int) H, (vI i).is H (.int i) := fun _ _ => rfl
  refine ⟨_, (pss_cons (ps_set (i := 2) sc_roof_of.nd rfl (Or.inr rfl) (pe_callB (LK.call_len_seq K) (by rfl) T.len (by decide +kernel) (pa_cons (pv 1) pa_nil)))
      (pss_one (ps_ret (pe_callTy (LK.call_tuple_of K) (by rfl) T.tuple (by decide +kernel) (pa_cons (pe_lc (own := [("place", 3)]) (g := (gName 3)) rfl sc_roof_of.nd (pi_range1 rfl T.range (pa_cons (pv 2) pa_nil)) (blkOk_by (own := [("place", 3)]) (N := n_roof_of) (sc := defScope s_roof_of) (by decide +kernel)) (fun _ _ _ _ _ => (pg_name (i := 3) sc_roof_of.nd rfl (Or.inr rfl))) (fun _ _ _ _ _ => pts_nil) (fun _ _ _ _ _ => (pe_callB (LK.cr_max K) (by rfl) T.max (by decide +kernel) (pa_cons (pe_lc (own := [("one", 4)]) (g := (gName 4)) rfl sc_roof_of.nd (pi_range1 rfl T.range (pa_cons (pv 2) pa_nil)) (blkOk_by (own := [("one", 4)]) (N := n_roof_of) (sc := (relS { kind := .function, names := [(PySem.Str.ofString ".0", .local), (PySem.Str.ofString "place", .cell), (PySem.Str.ofString "max", .globalImplicit), (PySem.Str.ofString "range", .globalImplicit), (PySem.Str.ofString "many", .free), (PySem.Str.ofString "row", .free), (PySem.Str.ofString "table", .free)], isGenerator := false, isCoroutine := false, more := [] } (defScope s_roof_of))) (by decide +kernel)) (fun _ _ _ _ _ => (pg_name (i := 4) sc_roof_of.nd rfl (Or.inl rfl))) (fun _ _ _ _ _ => pts_nil) (fun _ _ _ _ _ => (pe_op op_sub (pe_ix (LK.ix_tup K) (pv 1) (pv 4) (fun _ _ => rfl)) (pe_ix (LK.ix_list K) (pe_ix (LK.ix_list K) (pv 0) (pv 4) (fun _ _ => rfl)) (pv 3) (fun _ _ => rfl))))) pa_nil)))) pa_nil))))), ?_⟩
  refine p_set (e_is (e_lenT (e_var rfl p2)) (j := (n : Int)) (by simp [hl])) fun vm H1 e1 pm => ?_
  obtain rfl : vm = .int (n : Int) := pm
  refine p_ret (P := vRow (roof n d r)) ?_ fun v H2 e2 => q v H2 (e1.trans e2)
  unfold roof
  rw [vRow_map]
  refine e_tupleOf (e_lcN (i_rangeN (a_cons (e_var rfl (vi _ _)) a_nil) (by omega)) (by omega) (fun _ _ => stb_V) (fun _ => rfl) fun p x H2 hp e2 px => ?_)
  obtain rfl : x = .int (p : Int) := px
  refine e_mxL ?_ (by simp; omega)
  rw [vIL_map]
  refine e_lcN (i_rangeN (a_cons (e_var rfl (vi _ _)) a_nil) (by omega)) (by omega) (fun _ _ => stb_V) (fun _ => rfl) fun k x H3 hk e3 px => ?_
  obtain rfl : x = .int (k : Int) := px
  have E3 := e1.trans (e2.trans e3)
  exact e_I0 (e_row (e_var rfl ((vRow r).mono E3 p2)) (e_var rfl (vi _ _)) (by omega)) (e_tab (e_var rfl ((vTab n d).mono E3 p1)) (e_var rfl (vi _ _)) (e_var rfl (vi _ _)) hk hp)
theorem ok_floor_of (T : Txt K mg C) (F_floor_of : Fd K mg "floor_of" s_floor_of p_floor_of) : FnOk P w K mg base CX0 1 F_floor_of.f F_floor_of.fd p_floor_of (spF R_floor_of) := by
  refine F_floor_of.F.ok sc_floor_of (spF_len fun Ps P ⟨_, _, _, _, _, _, e, _⟩ => by subst e; rfl) (fun cdv A outer s H vs Q E hr h => ?_)
  obtain ⟨Ps, P, ⟨n, d, r, hl, h1, h4, rfl, rfl⟩, hall, q⟩ := h
  obtain ⟨v0, v1, rfl, p1, p2⟩ := all2 hall
  have vi : ∀ (i : Int) H, (vI i).is H (.int i) := fun _ _ => rfl
  refine ⟨_, (pss_cons (ps_set (i := 2) sc_floor_of.nd rfl (Or.inr rfl) (pe_callB (LK.call_len_seq K) (by rfl) T.len (by decide +kernel) (pa_cons (pv 1) pa_nil)))
      (pss_one (ps_ret (pe_callTy (LK.call_tuple_of K) (by rfl) T.tuple (by decide +kernel) (pa_cons (pe_lc (own := [("place", 3)]) (g := (gName 3)) rfl sc_floor_of.nd (pi_range1 rfl T.range (pa_cons (pv 2) pa_nil)) (blkOk_by (own := [("place", 3)]) (N := n_floor_of) (sc := defScope s_floor_of) (by decide +kernel)) (fun _ _ _ _ _ => (pg_name (i := 3) sc_floor_of.nd rfl (Or.inr rfl))) (fun _ _ _ _ _ => pts_nil) (fun _ _ _ _ _ => (pe_callB (LK.cr_min K) (by rfl) T.min (by decide +kernel) (pa_cons (pe_lc (own := [("one", 4)]) (g := (gName 4)) rfl sc_floor_of.nd (pi_range1 rfl T.range (pa_cons (pv 2) pa_nil)) (blkOk_by (own := [("one", 4)]) (N := n_floor_of) (sc := (relS { kind := .function, names := [(PySem.Str.ofString ".0", .local), (PySem.Str.ofString "place", .cell), (PySem.Str.ofString "min", .globalImplicit), (PySem.Str.ofString "range", .globalImplicit), (PySem.Str.ofString "many", .free), (PySem.Str.ofString "row", .free), (PySem.Str.ofString "table", .free)], isGenerator := false, isCoroutine := false, more := [] } (defScope s_floor_of))) (by decide +kernel)) (fun _ _ _ _ _ => (pg_name (i := 4) sc_floor_of.nd rfl (Or.inl rfl))) (fun _ _ _ _ _ => pts_nil) (fun _ _ _ _ _ => (pe_op op_add (pe_ix (LK.ix_tup K) (pv 1) (pv 4) (fun _ _ => rfl)) (pe_ix (LK.ix_list K) (pe_ix (LK.ix_list K) (pv 0) (pv 4) (fun _ _ => rfl)) (pv 3) (fun _ _ => rfl))))) pa_nil)))) pa_nil))))), ?_⟩
  refine p_set (e_is (e_lenT (e_var rfl p2)) (j := (n : Int)) (by simp [hl])) fun vm H1 e1 pm => ?_
  obtain rfl : vm = .int (n : Int) := pm
  refine p_ret (P := vRow (floor n d r)) ?_ fun v H2 e2 => q v H2 (e1.trans e2)
  unfold floor
  rw [vRow_map]
  refine e_tupleOf (e_lcN (i_rangeN (a_cons (e_var rfl (vi _ _)) a_nil) (by omega)) (by omega) (fun _ _ => stb_V) (fun _ => rfl) fun p x H2 hp e2 px => ?_)
  obtain rfl : x = .int (p : Int) := px
  refine e_mnL ?_ (by simp; omega)
  rw [vIL_map]
  refine e_lcN (i_rangeN (a_cons (e_var rfl (vi _ _)) a_nil) (by omega)) (by omega) (fun _ _ => stb_V) (fun _ => rfl) fun k x H3 hk e3 px => ?_
  obtain rfl : x = .int (k : Int) := px
  have E3 := e1.trans (e2.trans e3)
  exact e_I0 (e_row (e_var rfl ((vRow r).mono E3 p2)) (e_var rfl (vi _ _)) (by omega)) (e_tab (e_var rfl ((vTab n d).mono E3 p1)) (e_var rfl (vi _ _)) (e_var rfl (vi _ _)) hk hp)
theorem ok_bounds_at (T : Txt K mg C) (F_bounds_at : Fd K mg "bounds_at" s_bounds_at p_bounds_at) : FnOk P w K mg base CX0 1 F_bounds_at.f F_bounds_at.fd p_bounds_at (spF R_bounds_at) := by
  refine F_bounds_at.F.ok sc_bounds_at (spF_len fun Ps P ⟨_, _, _, _, _, _, _, _, e, _⟩ => by subst e; rfl) (fun cdv A outer s H vs Q E hr h => ?_)
  obtain ⟨Ps, P, ⟨n, d, r, p, m, hl, h1, h4, rfl, rfl⟩, hall, q⟩ := h
  obtain ⟨v0, v1, v2, v3, rfl, p1, p2, p3, p4⟩ := all4 hall
  have vi : ∀ (i : Int) H, (vI i).is H (.int i) := fun _ _ => rfl
  obtain rfl : v2 = .int (p : Int) := p3
  obtain rfl : v3 = .int m := p4
  have tk : (r.map vI).take p = r.map vI := List.take_of_length_le (by simp [hl])
  refine ⟨_, (pss_cons (ps_set (i := 4) sc_bounds_at.nd rfl (Or.inl rfl) (pe_callB (LK.cr_max K) (by rfl) T.max (by decide +kernel) (pa_cons (pe_op op_cat (pe_lst (pa_cons pe_int pa_nil)) (pe_lc (own := [("one", 5), ("height", 6)]) (g := (gTup K 2 (gCons (gName 5) (gCons (gName 6) gNil)))) rfl sc_bounds_at.nd (ZN.pi_enumT (by rfl) T.enumerate (pa_cons (pe_slice (LK.sl_tupA K) (pv 1) po_none (po_some (pv 2))) pa_nil)) (blkOk_by (own := [("one", 5), ("height", 6)]) (N := n_bounds_at) (sc := defScope s_bounds_at) (by decide +kernel)) (fun _ _ _ _ _ => (pg_tup rfl (pgs_cons (pg_name (i := 5) sc_bounds_at.nd rfl (Or.inl rfl)) (pgs_cons (pg_name (i := 6) sc_bounds_at.nd rfl (Or.inl rfl)) pgs_nil)))) (fun _ _ _ _ _ => pts_nil) (fun _ _ _ _ _ => (pe_op op_sub (pv 6) (pe_ix (LK.ix_list K) (pe_ix (LK.ix_list K) (pv 0) (pv 5) (fun _ _ => rfl)) (pv 2) (fun _ _ => rfl)))))) pa_nil)))
      (pss_one (ps_ret (pe_tup (pa_cons (pv 4) (pa_cons (pe_callB (LK.cr_min K) (by rfl) T.min (by decide +kernel) (pa_cons (pe_op op_cat (pe_lst (pa_cons (pv 3) pa_nil)) (pe_lc (own := [("one", 5), ("height", 6)]) (g := (gTup K 2 (gCons (gName 5) (gCons (gName 6) gNil)))) rfl sc_bounds_at.nd (ZN.pi_enumT (by rfl) T.enumerate (pa_cons (pe_slice (LK.sl_tupA K) (pv 1) po_none (po_some (pv 2))) pa_nil)) (blkOk_by (own := [("one", 5), ("height", 6)]) (N := n_bounds_at) (sc := defScope s_bounds_at) (by decide +kernel)) (fun _ _ _ _ _ => (pg_tup rfl (pgs_cons (pg_name (i := 5) sc_bounds_at.nd rfl (Or.inl rfl)) (pgs_cons (pg_name (i := 6) sc_bounds_at.nd rfl (Or.inl rfl)) pgs_nil)))) (fun _ _ _ _ _ => pts_nil) (fun _ _ _ _ _ => (pe_op op_add (pv 6) (pe_ix (LK.ix_list K) (pe_ix (LK.ix_list K) (pv 0) (pv 5) (fun _ _ => rfl)) (pv 2) (fun _ _ => rfl)))))) pa_nil)) pa_nil)))))), ?_⟩
  have sl : ∀ {σ : L2.St} {H : Hp} {th : TE} {te : TE}, EvP te σ H (vRow r) → EvP th σ H (vI (p : Int)) → EvP (tSl (rSlA K) te tNoPart (tPart th)) σ H (vRow r) := fun a b => by
    have e := e_slT (K := K) a b
    rw [tk] at e
    exact e
  refine p_set (P := vI (bLo d r p)) ?_ fun vm H1 e1 pm => ?_
  · refine e_mxL ?_ (by simp)
    rw [vIL_cons]
    refine e_cat (e_lst (a_cons e_c a_nil) (by simp)) (e_lc2 (n := p) (I := fun i => vI (i : Int)) (I' := fun i => vI (r.getD i 0)) (i_enumT (sl (e_var rfl p2) (e_var rfl (vi _ _))) (by simp [hl]) (fun i hi => map_get 0 i (by omega))) (by omega) (fun _ _ => stb_V) (fun _ _ => rfl) fun k x y H3 hk e3 px py => ?_) (by simp; omega)
    obtain rfl : x = .int (k : Int) := px
    exact e_I0 (e_var rfl py) (e_tab (e_var rfl ((vTab n d).mono e3 p1)) (e_var rfl (vi _ _)) (e_var rfl (vi _ _)) (by omega) h1)
  · refine p_ret (e_tup (a_cons (e_var rfl pm) (a_cons (P := vI (bHi d r p m)) ?_ a_nil)) (by simp)) fun v H2 e2 => q v H2 (e1.trans e2)
    refine e_mnL ?_ (by simp)
    rw [vIL_cons]
    refine e_cat (e_lst (a_cons (e_var rfl (vi _ _)) a_nil) (by simp)) (e_lc2 (n := p) (I := fun i => vI (i : Int)) (I' := fun i => vI (r.getD i 0)) (i_enumT (sl (e_var rfl ((vRow r).mono e1 p2)) (e_var rfl (vi _ _))) (by simp [hl]) (fun i hi => map_get 0 i (by omega))) (by omega) (fun _ _ => stb_V) (fun _ _ => rfl) fun k x y H3 hk e3 px py => ?_) (by simp; omega)
    obtain rfl : x = .int (k : Int) := px
    exact e_I0 (e_var rfl py) (e_tab (e_var rfl ((vTab n d).mono (e1.trans e3) p1)) (e_var rfl (vi _ _)) (e_var rfl (vi _ _)) (by omega) h1)
end
end Lt
set_option maxHeartbeats 1000000
namespace Lt
open PySem L2 Evl
/-! ### the rows between -/
structure TabOk (n : Nat) (d : Nat → Nat → Int) : Prop where
  diag : ∀ i, i < n → d i i = 0
  pos : ∀ i j, i < n → j < n → 0 ≤ d i j
def Row06 (r : List Int) : Prop := ∀ x ∈ r, 0 ≤ x ∧ x ≤ 6
theorem getD_mem {r : List Int} {k : Nat} (h : k < r.length) : r.getD k 0 ∈ r := by
  rw [List.getD_eq_getElem?_getD, List.getElem?_eq_getElem h]
  exact List.getElem_mem h
theorem mem_rg {n : Nat} {f : Nat → Int} {x : Int} (h : x ∈ (List.range n).map f) : ∃ k, k < n ∧ x = f k := by
  obtain ⟨k, hk, rfl⟩ := List.mem_map.mp h
  exact ⟨k, List.mem_range.mp hk, rfl⟩
theorem rg_mem {n k : Nat} {f : Nat → Int} (h : k < n) : f k ∈ (List.range n).map f := List.mem_map.mpr ⟨k, List.mem_range.mpr h, rfl⟩
theorem rg_ne {n : Nat} {f : Nat → Int} (h : 1 ≤ n) : (List.range n).map f ≠ [] := by
  intro e
  have := congrArg List.length e
  simp at this
  omega
theorem roof_at {n p : Nat} {d : Nat → Nat → Int} {r : List Int} (h : p < n) : (roof n d r).getD p 0 = mx ((List.range n).map fun k => r.getD k 0 - d k p) := rg_getD h
theorem floor_at {n p : Nat} {d : Nat → Nat → Int} {r : List Int} (h : p < n) : (floor n d r).getD p 0 = mn ((List.range n).map fun k => r.getD k 0 + d k p) := rg_getD h
theorem roof_len (n : Nat) (d : Nat → Nat → Int) (r : List Int) : (roof n d r).length = n := by simp [roof]
theorem floor_len (n : Nat) (d : Nat → Nat → Int) (r : List Int) : (floor n d r).length = n := by simp [floor]
theorem roof_ok {n p : Nat} {d : Nat → Nat → Int} {r : List Int} (T : TabOk n d) (hl : r.length = n) (h6 : Row06 r) (hp : p < n) : 0 ≤ (roof n d r).getD p 0 ∧ (roof n d r).getD p 0 ≤ 6 := by
  rw [roof_at hp]
  constructor
  · have h1 := mx_ge (rg_mem (f := fun k => r.getD k 0 - d k p) hp)
    have h2 := T.diag p hp
    have h3 := h6 _ (getD_mem (r := r) (k := p) (by omega))
    omega
  · obtain ⟨k, hk, e⟩ := mem_rg (mx_mem (rg_ne (n := n) (f := fun k => r.getD k 0 - d k p) (by omega)))
    have h2 := T.pos k p hk hp
    have h3 := h6 _ (getD_mem (r := r) (k := k) (by omega))
    omega
theorem floor_ok {n p : Nat} {d : Nat → Nat → Int} {r : List Int} (T : TabOk n d) (hl : r.length = n) (h6 : Row06 r) (hp : p < n) : 0 ≤ (floor n d r).getD p 0 ∧ (floor n d r).getD p 0 ≤ 6 := by
  rw [floor_at hp]
  constructor
  · obtain ⟨k, hk, e⟩ := mem_rg (mn_mem (rg_ne (n := n) (f := fun k => r.getD k 0 + d k p) (by omega)))
    have h2 := T.pos k p hk hp
    have h3 := h6 _ (getD_mem (r := r) (k := k) (by omega))
    omega
  · have h1 := mn_le (rg_mem (f := fun k => r.getD k 0 + d k p) hp)
    have h2 := T.diag p hp
    have h3 := h6 _ (getD_mem (r := r) (k := p) (by omega))
    omega
theorem bLo_ok {n p : Nat} {d : Nat → Nat → Int} {r : List Int} (T : TabOk n d) (hl : r.length = p) (h6 : Row06 r) (hp : p < n) : 0 ≤ bLo d r p ∧ bLo d r p ≤ 6 := by
  unfold bLo
  constructor
  · exact mx_ge List.mem_cons_self
  · rcases List.mem_cons.mp (mx_mem (ns := 0 :: (List.range p).map fun k => r.getD k 0 - d k p) (by simp)) with e | e
    · omega
    · obtain ⟨k, hk, e⟩ := mem_rg e
      have h2 := T.pos k p (by omega) hp
      have h3 := h6 _ (getD_mem (r := r) (k := k) (by omega))
      omega
theorem bHi_ok {n p : Nat} {d : Nat → Nat → Int} {r : List Int} {m : Int} (T : TabOk n d) (hl : r.length = p) (h6 : Row06 r) (hp : p < n) (hm : 0 ≤ m) : 0 ≤ bHi d r p m ∧ bHi d r p m ≤ m := by
  unfold bHi
  constructor
  · rcases List.mem_cons.mp (mn_mem (ns := m :: (List.range p).map fun k => r.getD k 0 + d k p) (by simp)) with e | e
    · omega
    · obtain ⟨k, hk, e⟩ := mem_rg e
      have h2 := T.pos k p (by omega) hp
      have h3 := h6 _ (getD_mem (r := r) (k := k) (by omega))
      omega
  · exact mn_le List.mem_cons_self
def rngI (lo hi : Int) : List Int := (List.range (hi - lo).toNat).map fun i : Nat => lo + (i : Int)
theorem mem_rngI {lo hi x : Int} : x ∈ rngI lo hi ↔ lo ≤ x ∧ x < hi := by
  unfold rngI
  constructor
  · intro h
    obtain ⟨k, hk, rfl⟩ := List.mem_map.mp h
    have := List.mem_range.mp hk
    omega
  · intro h
    exact List.mem_map.mpr ⟨(x - lo).toNat, List.mem_range.mpr (by omega), by show lo + ((x - lo).toNat : Int) = x; omega⟩
def bRow (d : Nat → Nat → Int) (least limit : List Int) (p : Nat) (r : List Int) : List (List Int) := (rngI (max (bLo d r p) (least.getD p 0)) (bHi d r p (limit.getD p 0) + 1)).map fun h => r ++ [h]
def bStep (d : Nat → Nat → Int) (least limit : List Int) (rows : List (List Int)) (p : Nat) : List (List Int) := rows.flatMap (bRow d least limit p)
def betw (n : Nat) (d : Nat → Nat → Int) (lo hi : List Int) : List (List Int) := (List.range n).foldl (bStep d (roof n d lo) (floor n d hi)) [[]]
def RowsOk (p : Nat) (rows : List (List Int)) : Prop := (∀ r ∈ rows, r.length = p ∧ Row06 r) ∧ rows.length ≤ 7 ^ p
theorem flat_len {α β : Type} {f : α → List β} : ∀ {l : List α}, (∀ a ∈ l, (f a).length ≤ 7) → (l.flatMap f).length ≤ 7 * l.length
  | [], _ => Nat.zero_le _
  | a :: l, h => by
    rw [List.flatMap_cons, List.length_append, List.length_cons]
    have h1 := h a List.mem_cons_self
    have h2 := flat_len (l := l) fun b hb => h b (List.mem_cons_of_mem _ hb)
    omega
theorem flat_take {α β : Type} {f : α → List β} {l : List α} {i : Nat} (z : α) (h : i < l.length) : (l.take (i + 1)).flatMap f = (l.take i).flatMap f ++ f (l.getD i z) := by
  have e : l[i]?.toList = [l.getD i z] := by
    rw [List.getD_eq_getElem?_getD, List.getElem?_eq_getElem h] <;> rfl
  rw [List.take_succ, List.flatMap_append, e, List.flatMap_cons, List.flatMap_nil, List.append_nil]
theorem bRow_ok {n p : Nat} {d : Nat → Nat → Int} {least limit r : List Int} (T : TabOk n d) (hp : p < n) (h1 : 0 ≤ least.getD p 0 ∧ least.getD p 0 ≤ 6) (h2 : 0 ≤ limit.getD p 0 ∧ limit.getD p 0 ≤ 6) (hl : r.length = p) (h6 : Row06 r) :
    (bRow d least limit p r).length ≤ 7 ∧ ∀ r' ∈ bRow d least limit p r, r'.length = p + 1 ∧ Row06 r' := by
  have a := bLo_ok T hl h6 hp
  have b := bHi_ok T hl h6 hp h2.1
  constructor
  · unfold bRow rngI
    rw [List.length_map, List.length_map, List.length_range]
    omega
  · intro r' h
    obtain ⟨x, hx, rfl⟩ := List.mem_map.mp h
    have := mem_rngI.mp hx
    refine ⟨by simp [hl], fun y hy => ?_⟩
    rcases List.mem_append.mp hy with hy | hy
    · exact h6 y hy
    · have e := List.mem_singleton.mp hy
      subst e
      omega
theorem bStep_ok {n p : Nat} {d : Nat → Nat → Int} {least limit : List Int} {rows : List (List Int)} (T : TabOk n d) (hp : p < n) (h1 : 0 ≤ least.getD p 0 ∧ least.getD p 0 ≤ 6) (h2 : 0 ≤ limit.getD p 0 ∧ limit.getD p 0 ≤ 6) (h : RowsOk p rows) : RowsOk (p + 1) (bStep d least limit rows p) := by
  obtain ⟨ha, hb⟩ := h
  refine ⟨fun r hr => ?_, ?_⟩
  · obtain ⟨r0, h0, hr⟩ := List.mem_flatMap.mp hr
    exact (bRow_ok T hp h1 h2 (ha r0 h0).1 (ha r0 h0).2).2 r hr
  · have := flat_len (f := bRow d least limit p) (l := rows) fun r hr => (bRow_ok T hp h1 h2 (ha r hr).1 (ha r hr).2).1
    unfold bStep
    rw [Nat.pow_succ]
    omega
theorem pow7 {p : Nat} (h : p ≤ 4) : 7 ^ p ≤ 2401 := by
  have : p = 0 ∨ p = 1 ∨ p = 2 ∨ p = 3 ∨ p = 4 := by omega
  rcases this with rfl | rfl | rfl | rfl | rfl <;> decide
def R_between_of : List VP → VP → Prop := fun Ps P => ∃ (n : Nat) (d : Nat → Nat → Int) (lo hi : List Int), TabOk n d ∧ 1 ≤ n ∧ n ≤ 4 ∧ lo.length = n ∧ hi.length = n ∧ Row06 lo ∧ Row06 hi ∧ Ps = [vTab n d, vRow lo, vRow hi] ∧ P = vL ((betw n d lo hi).map vRow)
abbrev vRows (rows : List (List Int)) : VP := vL (rows.map vRow)
theorem rows_stb (rows : List (List Int)) : ∀ O ∈ rows.map vRow, Stb O := fun O hO => by
  obtain ⟨r, _, rfl⟩ := List.mem_map.mp hO
  exact stb_row
theorem row_app (r : List Int) (h : Int) : vRow (r ++ [h]) = vT (r.map vI ++ [vI h]) := by
  show vT _ = vT _
  rw [List.map_append] <;> rfl
section
variable {P : Program} {w : World} {K : PySem.W.Frag} {mg : Str → Option Value} {base : Heap} {C : Addr}
theorem ok_between_of (T : Txt K mg C) (F_between_of : Fd K mg "between_of" s_between_of p_between_of) (F_roof_of : Fd K mg "roof_of" s_roof_of p_roof_of) (F_floor_of : Fd K mg "floor_of" s_floor_of p_floor_of) (F_bounds_at : Fd K mg "bounds_at" s_bounds_at p_bounds_at) (ok_roof_of : FnOk P w K mg base CX0 1 F_roof_of.f F_roof_of.fd p_roof_of (spF R_roof_of)) (ok_floor_of : FnOk P w K mg base CX0 1 F_floor_of.f F_floor_of.fd p_floor_of (spF R_floor_of))
    (ok_bounds_at : FnOk P w K mg base CX0 1 F_bounds_at.f F_bounds_at.fd p_bounds_at (spF R_bounds_at)) : FnOk P w K mg base CX0 2 F_between_of.f F_between_of.fd p_between_of (spF R_between_of) := by
  refine F_between_of.F.ok sc_between_of (spF_len fun Ps P ⟨_, _, _, _, _, _, _, _, _, _, _, e, _⟩ => by subst e; rfl) (fun cdv A outer s H vs Q E hr h => ?_)
  obtain ⟨Ps, P, ⟨n, d, lo, hi, TO, hn1, hn4, ll, lh, l6, h6, rfl, rfl⟩, hall, q⟩ := h
  obtain ⟨v0, v1, v2, rfl, p1, p2, p3⟩ := all3 hall
  have vi : ∀ (i : Int) H, (vI i).is H (.int i) := fun _ _ => rfl
  refine ⟨_, (pss_cons (ps_par (i := 3) (j := 4) rfl sc_between_of.nd rfl rfl (by decide) rfl rfl (pa_cons (pe_call ok_roof_of (hr.mono (by decide)) (by rfl) F_roof_of.g F_roof_of.F.kp F_roof_of.b .nil pass0 (pa_cons (pv 0) (pa_cons (pv 1) pa_nil))) (pa_cons (pe_call ok_floor_of (hr.mono (by decide)) (by rfl) F_floor_of.g F_floor_of.F.kp F_floor_of.b .nil pass0 (pa_cons (pv 0) (pa_cons (pv 2) pa_nil))) pa_nil)) (by rfl))
      (pss_cons (ps_set (i := 5) sc_between_of.nd rfl (Or.inl rfl) (pe_lst (pa_cons (pe_tup pa_nil) pa_nil)))
      (pss_cons (ps_for PassesOwn.never rfl (pi_range1 rfl T.range (pa_cons (pe_callB (LK.call_len_seq K) (by rfl) T.len (by decide +kernel) (pa_cons (pv 1) pa_nil)) pa_nil)) (pg_name (i := 6) sc_between_of.nd rfl (Or.inl rfl)) (pss_cons (ps_set (i := 7) sc_between_of.nd rfl (Or.inl rfl) (pe_lst pa_nil))
      (pss_cons (ps_for PassesOwn.never rfl (LK.pi_list K (pv 5)) (pg_name (i := 8) sc_between_of.nd rfl (Or.inr rfl)) (pss_cons (ps_asg (pe_call ok_bounds_at (hr.mono (by decide)) (by rfl) F_bounds_at.g F_bounds_at.F.kp F_bounds_at.b .nil pass0 (pa_cons (pv 0) (pa_cons (pv 8) (pa_cons (pv 6) (pa_cons (pe_ix (LK.ix_tup K) (pv 4) (pv 6) (fun _ _ => rfl)) pa_nil))))) (pg_tup rfl (pgs_cons (pg_name (i := 9) sc_between_of.nd rfl (Or.inl rfl)) (pgs_cons (pg_name (i := 10) sc_between_of.nd rfl (Or.inl rfl)) pgs_nil))))
      (pss_cons (ps_expr (pe_bm PySem.F.plainAttrs_list PySem.F.slot_list_extend PySem.F.type_list_extend mt_extend (pv 7) (pa_cons (pe_lc (own := [("height", 11)]) (g := (gName 11)) rfl sc_between_of.nd (pi_range2 rfl T.range (pa_cons (pe_callB LK.call_max2 (by rfl) T.max (by decide +kernel) (pa_cons (pv 9) (pa_cons (pe_ix (LK.ix_tup K) (pv 3) (pv 6) (fun _ _ => rfl)) pa_nil))) (pa_cons (pe_op op_add (pv 10) pe_int) pa_nil))) (blkOk_by (own := [("height", 11)]) (N := n_between_of) (sc := defScope s_between_of) (by decide +kernel)) (fun _ _ _ _ _ => (pg_name (i := 11) sc_between_of.nd rfl (Or.inl rfl))) (fun _ _ _ _ _ => pts_nil) (fun _ _ _ _ _ => (pe_op (LK.op_catA K) (pv 8) (pe_tup (pa_cons (pv 11) pa_nil))))) pa_nil)))
      (pss_one (ps_if (pt_cmpR op_gt (pe_callB (LK.call_len_seq K) (by rfl) T.len (by decide +kernel) (pa_cons (pv 7) pa_nil)) (pe_glob (v := .int 20000) (by rfl) T.MOST_BEGINNINGS.choose_spec ⟨_, rfl⟩) (nomark _)) (pss_one ps_never) pss_nil)))))
      (pss_one (ps_set (i := 5) sc_between_of.nd rfl (Or.inl rfl) (pv 7))))))
      (pss_one (ps_ret (pv 5)))))), ?_⟩
  refine p_par (a_cons (e_call (P := vRow (roof n d lo)) (a_cons (e_var rfl p1) (a_cons (e_var rfl p2) a_nil)) ⟨n, d, lo, ll, hn1, hn4, rfl, rfl⟩) (a_cons (e_call (P := vRow (floor n d hi)) (a_cons (e_var rfl p1) (a_cons (e_var rfl p3) a_nil)) ⟨n, d, hi, lh, hn1, hn4, rfl, rfl⟩) a_nil)) fun vle vli H1 e1 ple pli => ?_
  refine p_set (P := vRows [[]]) (e_lst (a_cons (e_tup a_nil (by simp)) a_nil) (by simp)) fun vro H2 e2 pro => ?_
  have rl : ∀ p, p < n → 0 ≤ (roof n d lo).getD p 0 ∧ (roof n d lo).getD p 0 ≤ 6 := fun p hp => roof_ok TO ll l6 hp
  have fl : ∀ p, p < n → 0 ≤ (floor n d hi).getD p 0 ∧ (floor n d hi).getD p 0 ≤ 6 := fun p hp => floor_ok TO lh h6 hp
  have lro := roof_len n d lo
  have lfl := floor_len n d hi
  unfold betw at q
  generalize roof n d lo = least at *
  generalize floor n d hi = limit at *
  have E2 := e1.trans e2
  refine p_for (H0 := H2) (n := n) (w_rangeN (a_cons (e_is (e_lenT (e_var rfl ((vRow lo).mono E2 p2))) (by simp [ll])) a_nil) (by omega)) (Ex.refl _)
    (fun p σ' H' => Ex H2 H' ∧ RowsOk p ((List.range p).foldl (bStep d least limit) [[]]) ∧ ∃ vr x6 x7 x8 x9 x10, (vRows ((List.range p).foldl (bStep d least limit) [[]])).is H' vr ∧ σ' = [some v0, some v1, some v2, some vle, some vli, some vr, x6, x7, x8, x9, x10, none])
    (fun H' e => ⟨e, ⟨fun r hr => by
      have er : r = [] := by simpa using hr
      subst er
      exact ⟨rfl, fun x hx => by simp at hx⟩, by simp⟩, vro, _, _, _, _, _, (vRows [[]]).mono e pro, rfl⟩) (fun _ _ _ h => h.1) ?_ ?_
  · rintro p x σ' H' H3 hp ⟨h1, hro, vr, x6, x7, x8, x9, x10, pr, rfl⟩ e3 px
    obtain rfl : x = .int (p : Int) := px
    rw [fold_succ]
    generalize (List.range p).foldl (bStep d least limit) [[]] = rows at *
    have pr3 := (vRows rows).mono e3 pr
    have E3 := (e1.trans e2).trans (h1.trans e3)
    refine mut_new (Ex.refl H3) fun l H4 M4 e4 => ?_
    refine p_for (H0 := H3) (n := rows.length) (w_list (ev_v rfl) pr3 (by simp) (map_get [])) M4.ex
      (fun i σ' H' => Mut H3 H' l (((rows.take i).flatMap (bRow d least limit p)).map vRow) ∧ ∃ x8 x9 x10, σ' = [some v0, some v1, some v2, some vle, some vli, some vr, some (.int (p : Int)), some (.ref l), x8, x9, x10, none])
      (fun H' e => ⟨M4.mono e, _, _, _, rfl⟩) (fun _ _ _ h => h.1.ex) ?_ ?_
    · rintro i x σ' H' H5 hi' ⟨M, x8, x9, x10, rfl⟩ e5 px
      have M5 := M.mono e5
      have hmem : rows.getD i [] ∈ rows := by
        rw [List.getD_eq_getElem?_getD, List.getElem?_eq_getElem hi']
        exact List.getElem_mem hi'
      rw [flat_take [] hi']
      have hlen := flat_len (f := bRow d least limit p) (l := rows.take i) fun r hr => (bRow_ok TO hp (rl p hp) (fl p hp) (hro.1 r (List.mem_of_mem_take hr)).1 (hro.1 r (List.mem_of_mem_take hr)).2).1
      have hlt : (rows.take i).length ≤ rows.length := by simp; omega
      have h7 := hro.2
      have h74 := pow7 (p := p) (by omega)
      obtain ⟨r1, r6⟩ := hro.1 _ hmem
      have hrow := bRow_ok TO hp (rl p hp) (fl p hp) r1 r6
      have bl := bLo_ok TO r1 r6 hp
      have bh := bHi_ok TO r1 r6 hp (fl p hp).1
      have rp := rl p hp
      have fp := fl p hp
      generalize rows.getD i [] = r at *
      have E5 : Ex H H5 := E3.trans M5.ex
      have E51 : Ex H1 H5 := e2.trans ((h1.trans e3).trans M5.ex)
      refine p_two (P1 := vI (bLo d r p)) (P2 := vI (bHi d r p (limit.getD p 0))) (e_call (a_cons (e_var rfl ((vTab n d).mono E5 p1)) (a_cons (e_var rfl px) (a_cons (e_var rfl (vi _ _)) (a_cons (e_row (e_var rfl ((vRow limit).mono E51 pli)) (e_var rfl (vi _ _)) (by omega)) a_nil)))) ⟨n, d, r, p, _, r1, hp, hn4, rfl, rfl⟩) fun va vb H6 e6 pa pb => ?_
      obtain rfl : va = .int _ := pa
      obtain rfl : vb = .int _ := pb
      have M6 := M5.mono e6
      refine p_ext (Qs := (bRow d least limit p r).map vRow) M6 (ev_v rfl) ?_ (by simp only [List.length_map]; omega) (fun O hO => ?_) fun H7 M7 => ?_
      · have eR : (bRow d least limit p r).map vRow = (List.range ((bHi d r p (limit.getD p 0) + 1) - (max (bLo d r p) (least.getD p 0))).toNat).map fun i : Nat => vRow (r ++ [max (bLo d r p) (least.getD p 0) + (i : Int)]) := by
          unfold bRow rngI
          rw [List.map_map, List.map_map] <;> rfl
        rw [eR]
        refine e_lcN (i_range2 (lo := max (bLo d r p) (least.getD p 0)) (n := bHi d r p (limit.getD p 0) + 1) (a_cons (e_max2 (e_var rfl (vi _ _)) (e_row (e_var rfl ((vRow least).mono (E51.trans e6) ple)) (e_var rfl (vi _ _)) (by omega))) (a_cons (e_I0 (e_var rfl (vi _ _)) e_c) a_nil)) (by omega)) (by omega) (fun _ _ => stb_row) (fun _ => rfl) fun k x H8 hk e8 px8 => ?_
        rw [row_app]
        exact e_catA (e_var rfl ((vRow r).mono (e6.trans e8) px)) (e_tup (a_cons (e_var rfl px8) a_nil) (by simp)) (by simp; omega)
      · rcases List.mem_append.mp hO with hO | hO
        · exact rows_stb _ O hO
        · exact rows_stb _ O hO
      · refine p_no1 (et_is (t_test (e_I0 (e_lenL (e_var rfl M7.is)) e_c)) ?_) fun H8 e8 => ⟨?_, _, _, _, rfl⟩
        · simp only [List.length_append, List.length_map]
          refine decide_eq_false ?_
          omega
        · rw [List.map_append]
          exact M7.mono e8
    · rintro σ' H5 ⟨M5, x8, x9, x10, rfl⟩
      rw [List.take_length] at M5
      refine p_set1 (P := vRows (bStep d least limit rows p)) (e_var rfl M5.is) fun v H6 e6 pv6 => ?_
      exact ⟨(h1.trans e3).trans (M5.ex.trans e6), bStep_ok TO hp (rl p hp) (fl p hp) hro, v, _, _, _, _, _, pv6, rfl⟩
  · rintro σ' H3 ⟨h1, hro, vr, x6, x7, x8, x9, x10, pr, rfl⟩
    exact p_ret (e_var rfl pr) fun v H4 e4 p4 => q v H4 (E2.trans (h1.trans e4)) p4
end
end Lt
set_option maxHeartbeats 1000000
namespace Lt
open PySem L2 Evl
theorem vBL_map (n : Nat) (f : Nat → Bool) : vBL ((List.range n).map f) = vL ((List.range n).map fun k => vB (f k)) := by
  show vL _ = vL _
  rw [List.map_map] <;> rfl
/-- what is drawn -/
structure Drawn (n : Nat) (rods : List Rd3) (lo hi : List Int) : Prop where
  net : NetOk n rods
  tab : TabOk n (fw n rods)
  ll : lo.length = n
  lh : hi.length = n
  l6 : Row06 lo
  h6 : Row06 hi
theorem row99 {r : List Int} (h : Row06 r) : ∀ x ∈ r, 0 ≤ x ∧ x ≤ 99 := fun x hx => by
  have := h x hx
  omega
def R_number_between : List VP → VP → Prop := fun Ps P => ∃ (n : Nat) (rods : List Rd3) (lo hi : List Int), Drawn n rods lo hi ∧ Ps = [vNet n rods, vRow lo, vRow hi] ∧ P = vI ((betw n (fw n rods) lo hi).length : Int)
def over (n : Nat) (a b : List Int) : Bool := ((List.range n).map fun p => decide (b.getD p 0 < a.getD p 0)).any id
def spFB (C : Addr) : Sp := fun vs H Q E => ∃ (n : Nat) (rods : List Rd3) (lo hi : List Int), Drawn n rods lo hi ∧ All H [vNet n rods, vRow lo, vRow hi] vs ∧
  (over n (roof n (fw n rods) lo) (floor n (fw n rods) hi) = true → ∀ H', Ex H H' → E (.ref C) none H') ∧
  (over n (roof n (fw n rods) lo) (floor n (fw n rods) hi) = false → ∀ v H', Ex H H' → (vT [vRow (roof n (fw n rods) lo), vRow (floor n (fw n rods) hi)]).is H' v → Q v H')
def R_rows_above : List VP → VP → Prop := fun Ps P => ∃ (n : Nat) (rods : List Rd3) (lo : List Int) (m : Int), Drawn n rods lo (List.replicate n m) ∧ 0 ≤ m ∧ m ≤ 6 ∧ Ps = [vNet n rods, vRow lo, vI m] ∧ P = vRows (betw n (fw n rods) lo (List.replicate n m))
theorem paired_rep {H : Hp} {P : VP} {x : V} (h : P.is H x) : ∀ n, All H (List.replicate n P) (List.replicate n x)
  | 0 => .nil
  | n + 1 => .cons h (paired_rep h n)
theorem flat_rep (x : V) : ∀ n, (List.replicate n [x]).flatten = List.replicate n x
  | 0 => rfl
  | n + 1 => by
    rw [List.replicate_succ, List.flatten_cons, flat_rep x n, List.replicate_succ] <;> rfl
theorem e_rep1 {K : PySem.W.Frag} {σ : L2.St} {H : Hp} {ta tb : TE} {m : Int} {n : Nat} (ha : EvP ta σ H (vRow [m])) (hb : EvP tb σ H (vI (n : Int))) (hn : 1 ≤ n ∧ n ≤ 1000) : EvP (tOp (LR.rRepA K) ta tb) σ H (vRow (List.replicate n m)) :=
  e_op ha hb fun x y H1 _ px py Q q => by
    obtain ⟨p, rfl, hp⟩ := vRow_is px
    obtain rfl : y = .int (n : Int) := py
    refine ⟨p, (n : Int), _, rfl, rfl, st_of hp, by simp, by omega, by omega, by simp, fun e => ?_, fun _ p' hp' => ?_⟩
    · have : n = 1 := by omega
      subst this
      exact q _ H1 (Ex.refl _) px
    · refine q _ _ (Ex.new hp') ?_
      refine is_vRow ?_
      rw [upd_same, Int.toNat_natCast, List.map_replicate]
      show some (HO.tup (List.replicate n [V.int m]).flatten) = _
      rw [flat_rep]
section
variable {P : Program} {w : World} {K : PySem.W.Frag} {mg : Str → Option Value} {base : Heap} {C : Addr}
theorem ok_number_between (T : Txt K mg C) (F_number_between : Fd K mg "number_between" s_number_between p_number_between) (F_need_net : Fd K mg "need_net" s_need_net p_need_net) (F_need_row : Fd K mg "need_row" s_need_row p_need_row) (F_between_of : Fd K mg "between_of" s_between_of p_between_of) (F_table_of : Fd K mg "table_of" s_table_of p_table_of) (ok_need_net : FnOk P w K mg base CX0 3 F_need_net.f F_need_net.fd p_need_net (spF R_need_net)) (ok_need_row : FnOk P w K mg base CX0 3 F_need_row.f F_need_row.fd p_need_row (spF R_need_row))
    (ok_table_of : FnOk P w K mg base CX0 1 F_table_of.f F_table_of.fd p_table_of (spF R_table_of)) (ok_between_of : FnOk P w K mg base CX0 2 F_between_of.f F_between_of.fd p_between_of (spF R_between_of)) :
    FnOk P w K mg base CX0 4 F_number_between.f F_number_between.fd p_number_between (spF R_number_between) := by
  refine F_number_between.F.ok sc_number_between (spF_len fun Ps P ⟨_, _, _, _, _, e, _⟩ => by subst e; rfl) (fun cdv A outer s H vs Q E hr h => ?_)
  obtain ⟨Ps, P, ⟨n, rods, lo, hi, D, rfl, rfl⟩, hall, q⟩ := h
  obtain ⟨v0, v1, v2, rfl, p1, p2, p3⟩ := all3 hall
  have hn1 := D.net.n1
  have hn4 := D.net.n4
  refine ⟨_, (pss_cons (ps_expr (pe_call ok_need_net (hr.mono (by decide)) (by rfl) F_need_net.g F_need_net.F.kp F_need_net.b .nil pass0 (pa_cons (pv 0) pa_nil)))
      (pss_cons (ps_expr (pe_call ok_need_row (hr.mono (by decide)) (by rfl) F_need_row.g F_need_row.F.kp F_need_row.b .nil pass0 (pa_cons (pv 0) (pa_cons (pv 1) pa_nil))))
      (pss_cons (ps_expr (pe_call ok_need_row (hr.mono (by decide)) (by rfl) F_need_row.g F_need_row.F.kp F_need_row.b .nil pass0 (pa_cons (pv 0) (pa_cons (pv 2) pa_nil))))
      (pss_one (ps_ret (pe_callB (LK.call_len_seq K) (by rfl) T.len (by decide +kernel) (pa_cons (pe_call ok_between_of (hr.mono (by decide)) (by rfl) F_between_of.g F_between_of.F.kp F_between_of.b .nil pass0 (pa_cons (pe_call ok_table_of (hr.mono (by decide)) (by rfl) F_table_of.g F_table_of.F.kp F_table_of.b .nil pass0 (pa_cons (pv 0) pa_nil)) (pa_cons (pv 1) (pa_cons (pv 2) pa_nil)))) pa_nil))))))), ?_⟩
  refine p_drop (e_call (P := vN) (a_cons (e_var rfl p1) a_nil) ⟨n, rods, D.net, rfl, rfl⟩) fun H1 e1 => ?_
  refine p_drop (e_call (P := vN) (a_cons (e_var rfl ((vNet n rods).mono e1 p1)) (a_cons (e_var rfl ((vRow lo).mono e1 p2)) a_nil)) ⟨n, rods, lo, D.ll, hn4, row99 D.l6, rfl, rfl⟩) fun H2 e2 => ?_
  have E2 := e1.trans e2
  refine p_drop (e_call (P := vN) (a_cons (e_var rfl ((vNet n rods).mono E2 p1)) (a_cons (e_var rfl ((vRow hi).mono E2 p3)) a_nil)) ⟨n, rods, hi, D.lh, hn4, row99 D.h6, rfl, rfl⟩) fun H3 e3 => ?_
  have E3 := E2.trans e3
  refine p_ret (e_is (e_lenL (e_call (P := vRows (betw n (fw n rods) lo hi)) (a_cons (e_call (P := vTab n (fw n rods)) (a_cons (e_var rfl ((vNet n rods).mono E3 p1)) a_nil) ⟨n, rods, D.net, rfl, rfl⟩) (a_cons (e_var rfl ((vRow lo).mono E3 p2)) (a_cons (e_var rfl ((vRow hi).mono E3 p3)) a_nil))) ⟨n, _, lo, hi, D.tab, hn1, hn4, D.ll, D.lh, D.l6, D.h6, rfl, rfl⟩)) (by simp)) fun v H4 e4 => q v H4 (E3.trans e4)
theorem ok_rows_above (T : Txt K mg C) (F_rows_above : Fd K mg "rows_above" s_rows_above p_rows_above) (F_need_net : Fd K mg "need_net" s_need_net p_need_net) (F_need_row : Fd K mg "need_row" s_need_row p_need_row) (F_need_number : Fd K mg "need_number" s_need_number p_need_number) (F_between_of : Fd K mg "between_of" s_between_of p_between_of) (F_table_of : Fd K mg "table_of" s_table_of p_table_of) (ok_need_net : FnOk P w K mg base CX0 3 F_need_net.f F_need_net.fd p_need_net (spF R_need_net)) (ok_need_row : FnOk P w K mg base CX0 3 F_need_row.f F_need_row.fd p_need_row (spF R_need_row))
    (ok_need_number : FnOk P w K mg base CX0 3 F_need_number.f F_need_number.fd p_need_number (spF R_need_number)) (ok_table_of : FnOk P w K mg base CX0 1 F_table_of.f F_table_of.fd p_table_of (spF R_table_of)) (ok_between_of : FnOk P w K mg base CX0 2 F_between_of.f F_between_of.fd p_between_of (spF R_between_of)) :
    FnOk P w K mg base CX0 4 F_rows_above.f F_rows_above.fd p_rows_above (spF R_rows_above) := by
  refine F_rows_above.F.ok sc_rows_above (spF_len fun Ps P ⟨_, _, _, _, _, _, _, e, _⟩ => by subst e; rfl) (fun cdv A outer s H vs Q E hr h => ?_)
  obtain ⟨Ps, P, ⟨n, rods, lo, m, D, hm0, hm6, rfl, rfl⟩, hall, q⟩ := h
  obtain ⟨v0, v1, v2, rfl, p1, p2, p3⟩ := all3 hall
  have hn1 := D.net.n1
  have hn4 := D.net.n4
  refine ⟨_, (pss_cons (ps_expr (pe_call ok_need_net (hr.mono (by decide)) (by rfl) F_need_net.g F_need_net.F.kp F_need_net.b .nil pass0 (pa_cons (pv 0) pa_nil)))
      (pss_cons (ps_expr (pe_call ok_need_row (hr.mono (by decide)) (by rfl) F_need_row.g F_need_row.F.kp F_need_row.b .nil pass0 (pa_cons (pv 0) (pa_cons (pv 1) pa_nil))))
      (pss_cons (ps_expr (pe_call ok_need_number (hr.mono (by decide)) (by rfl) F_need_number.g F_need_number.F.kp F_need_number.b .nil pass0 (pa_cons (pv 2) (pa_cons pe_int (pa_cons pe_int pa_nil)))))
      (pss_one (ps_ret (pe_call ok_between_of (hr.mono (by decide)) (by rfl) F_between_of.g F_between_of.F.kp F_between_of.b .nil pass0 (pa_cons (pe_call ok_table_of (hr.mono (by decide)) (by rfl) F_table_of.g F_table_of.F.kp F_table_of.b .nil pass0 (pa_cons (pv 0) pa_nil)) (pa_cons (pv 1) (pa_cons (pe_op (LK.op_repA K) (pe_tup (pa_cons (pv 2) pa_nil)) (pe_ix (LK.ix_tup K) (pv 0) pe_int (fun _ _ => rfl))) pa_nil))))))))), ?_⟩
  refine p_drop (e_call (P := vN) (a_cons (e_var rfl p1) a_nil) ⟨n, rods, D.net, rfl, rfl⟩) fun H1 e1 => ?_
  refine p_drop (e_call (P := vN) (a_cons (e_var rfl ((vNet n rods).mono e1 p1)) (a_cons (e_var rfl ((vRow lo).mono e1 p2)) a_nil)) ⟨n, rods, lo, D.ll, hn4, row99 D.l6, rfl, rfl⟩) fun H2 e2 => ?_
  have E2 := e1.trans e2
  refine p_drop (e_call (P := vN) (a_cons (e_var rfl ((vI m).mono E2 p3)) (a_cons e_c (a_cons e_c a_nil))) ⟨m, 0, 99, rfl, by omega, by omega, rfl⟩) fun H3 e3 => ?_
  have E3 := E2.trans e3
  exact p_ret (e_call (P := vRows (betw n (fw n rods) lo (List.replicate n m))) (a_cons (e_call (P := vTab n (fw n rods)) (a_cons (e_var rfl ((vNet n rods).mono E3 p1)) a_nil) ⟨n, rods, D.net, rfl, rfl⟩) (a_cons (e_var rfl ((vRow lo).mono E3 p2)) (a_cons (e_rep1 (e_tup (a_cons (e_var rfl ((vI m).mono E3 p3)) a_nil) (by simp)) (e_ixT (k := 0) (e_var rfl ((vNet n rods).mono E3 p1)) e_c rfl) (by omega)) a_nil))) ⟨n, _, lo, _, D.tab, hn1, hn4, D.ll, D.lh, D.l6, D.h6, rfl, rfl⟩) fun v H4 e4 => q v H4 (E3.trans e4)
theorem ok_first_between (T : Txt K mg C) (F_first_between : Fd K mg "first_between" s_first_between p_first_between) (F_need_net : Fd K mg "need_net" s_need_net p_need_net) (F_need_row : Fd K mg "need_row" s_need_row p_need_row) (F_table_of : Fd K mg "table_of" s_table_of p_table_of) (F_roof_of : Fd K mg "roof_of" s_roof_of p_roof_of) (F_floor_of : Fd K mg "floor_of" s_floor_of p_floor_of) (ok_need_net : FnOk P w K mg base CX0 3 F_need_net.f F_need_net.fd p_need_net (spF R_need_net)) (ok_need_row : FnOk P w K mg base CX0 3 F_need_row.f F_need_row.fd p_need_row (spF R_need_row))
    (ok_table_of : FnOk P w K mg base CX0 1 F_table_of.f F_table_of.fd p_table_of (spF R_table_of)) (ok_roof_of : FnOk P w K mg base CX0 1 F_roof_of.f F_roof_of.fd p_roof_of (spF R_roof_of)) (ok_floor_of : FnOk P w K mg base CX0 1 F_floor_of.f F_floor_of.fd p_floor_of (spF R_floor_of)) :
    FnOk P w K mg base (L2.CX P w) 4 F_first_between.f F_first_between.fd p_first_between (spFB C) := by
  refine F_first_between.F.okX sc_first_between (fun vs H Q E ⟨_, _, _, _, _, a, _⟩ => by rw [← Paired.length a]; rfl) (fun cdv A outer s H vs Q E hr h => ?_)
  obtain ⟨n, rods, lo, hi, D, hall, qE, qQ⟩ := h
  obtain ⟨v0, v1, v2, rfl, p1, p2, p3⟩ := all3 hall
  have hn1 := D.net.n1
  have hn4 := D.net.n4
  refine ⟨_, (pss_cons (ps_expr (pe_call ok_need_net (hr.mono (by decide)) (by rfl) F_need_net.g F_need_net.F.kp F_need_net.b .nil pass0 (pa_cons (pv 0) pa_nil)))
      (pss_cons (ps_expr (pe_call ok_need_row (hr.mono (by decide)) (by rfl) F_need_row.g F_need_row.F.kp F_need_row.b .nil pass0 (pa_cons (pv 0) (pa_cons (pv 1) pa_nil))))
      (pss_cons (ps_expr (pe_call ok_need_row (hr.mono (by decide)) (by rfl) F_need_row.g F_need_row.F.kp F_need_row.b .nil pass0 (pa_cons (pv 0) (pa_cons (pv 2) pa_nil))))
      (pss_cons (ps_set (i := 3) sc_first_between.nd rfl (Or.inl rfl) (pe_call ok_table_of (hr.mono (by decide)) (by rfl) F_table_of.g F_table_of.F.kp F_table_of.b .nil pass0 (pa_cons (pv 0) pa_nil)))
      (pss_cons (ps_par (i := 4) (j := 5) rfl sc_first_between.nd rfl rfl (by decide) rfl rfl (pa_cons (pe_call ok_roof_of (hr.mono (by decide)) (by rfl) F_roof_of.g F_roof_of.F.kp F_roof_of.b .nil pass0 (pa_cons (pv 3) (pa_cons (pv 1) pa_nil))) (pa_cons (pe_call ok_floor_of (hr.mono (by decide)) (by rfl) F_floor_of.g F_floor_of.F.kp F_floor_of.b .nil pass0 (pa_cons (pv 3) (pa_cons (pv 2) pa_nil))) pa_nil)) (by rfl))
      (pss_cons (ps_if (pt_val (pe_callB (LK.cr_any K) (by rfl) T.any (by decide +kernel) (pa_cons (pe_lc (own := [("one", 6), ("other", 7)]) (g := (gTup K 2 (gCons (gName 6) (gCons (gName 7) gNil)))) rfl sc_first_between.nd (RZ.pi_zipA (by rfl) T.zip (pa_cons (pv 4) (pa_cons (pv 5) pa_nil))) (blkOk_by (own := [("one", 6), ("other", 7)]) (N := n_first_between) (sc := defScope s_first_between) (by decide +kernel)) (fun _ _ _ _ _ => (pg_tup rfl (pgs_cons (pg_name (i := 6) sc_first_between.nd rfl (Or.inl rfl)) (pgs_cons (pg_name (i := 7) sc_first_between.nd rfl (Or.inl rfl)) pgs_nil)))) (fun _ _ _ _ _ => pts_nil) (fun _ _ _ _ _ => (pe_cmpR op_gt (pv 6) (pv 7) (nomark _)))) pa_nil))) (pss_one (ps_raise rfl (takes_of rfl rfl rfl rfl) (LR.pmk_own0 PySem.F.excBase_ValueError T.xP T.gP T.kP (raises_own T.bP T.tP) rfl))) pss_nil)
      (pss_one (ps_ret (pe_tup (pa_cons (pv 4) (pa_cons (pv 5) pa_nil))))))))))), ?_⟩
  refine p_drop (e_call (P := vN) (a_cons (e_var rfl p1) a_nil) ⟨n, rods, D.net, rfl, rfl⟩) fun H1 e1 => ?_
  refine p_drop (e_call (P := vN) (a_cons (e_var rfl ((vNet n rods).mono e1 p1)) (a_cons (e_var rfl ((vRow lo).mono e1 p2)) a_nil)) ⟨n, rods, lo, D.ll, hn4, row99 D.l6, rfl, rfl⟩) fun H2 e2 => ?_
  have E2 := e1.trans e2
  refine p_drop (e_call (P := vN) (a_cons (e_var rfl ((vNet n rods).mono E2 p1)) (a_cons (e_var rfl ((vRow hi).mono E2 p3)) a_nil)) ⟨n, rods, hi, D.lh, hn4, row99 D.h6, rfl, rfl⟩) fun H3 e3 => ?_
  have E3 := E2.trans e3
  refine p_set (e_call (P := vTab n (fw n rods)) (a_cons (e_var rfl ((vNet n rods).mono E3 p1)) a_nil) ⟨n, rods, D.net, rfl, rfl⟩) fun vt H4 e4 pt4 => ?_
  have E4 := E3.trans e4
  refine p_par (a_cons (e_call (P := vRow (roof n (fw n rods) lo)) (a_cons (e_var rfl pt4) (a_cons (e_var rfl ((vRow lo).mono E4 p2)) a_nil)) ⟨n, _, lo, D.ll, hn1, hn4, rfl, rfl⟩) (a_cons (e_call (P := vRow (floor n (fw n rods) hi)) (a_cons (e_var rfl pt4) (a_cons (e_var rfl ((vRow hi).mono E4 p3)) a_nil)) ⟨n, _, hi, D.lh, hn1, hn4, rfl, rfl⟩) a_nil)) fun va vb H5 e5 pa pb => ?_
  have E5 := E4.trans e5
  have lro := roof_len n (fw n rods) lo
  have lfl := floor_len n (fw n rods) hi
  generalize roof n (fw n rods) lo = least at *
  generalize floor n (fw n rods) hi = limit at *
  refine p_if (b := over n least limit) (t_test (e_any ?_)) (fun hb H6 e6 => qE hb H6 (E5.trans e6)) (fun hb H6 e6 => ?_)
  · rw [vBL_map]
    refine e_lc2 (n := n) (I := fun i => vI (least.getD i 0)) (I' := fun i => vI (limit.getD i 0)) (i_zipT (e_var rfl pa) (e_var rfl pb) (by simp [lro]) (by simp [lfl]) (fun i hi => map_get 0 i (by omega)) (fun i hi => map_get 0 i (by omega))) (by omega) (fun _ _ => stb_V) (fun _ _ => rfl) fun k x y H3 hk e3 px py => ?_
    exact e_I0 (e_var rfl px) (e_var rfl py)
  · exact p_ret (e_tup (a_cons (e_var rfl ((vRow least).mono e6 pa)) (a_cons (e_var rfl ((vRow limit).mono e6 pb)) a_nil)) (by simp)) fun v H7 e7 p7 => qQ hb v H7 (E5.trans (e6.trans e7)) p7
end
end Lt
set_option maxHeartbeats 1000000
namespace Lt
open PySem L2 Evl
/-! ### xs == [] -/
def DpV (K : PySem.W.Frag) (c : Nat) (P : VP) : Prop := ∀ H v, P.is H v → ∃ d, Dp K H v d ∧ d.canLay0 = true ∧ d.depth ≤ c
theorem dpAll {K : PySem.W.Frag} {c : Nat} {H : Hp} {Ps : List VP} {xs : List V} (h : ∀ P ∈ Ps, DpV K c P) (a : All H Ps xs) : ∃ ds, DpAll K H xs ds ∧ PyData.canLayAll0 ds = true ∧ PyData.depthAll ds ≤ c ∧ ds.length = Ps.length := by
  induction a with
  | nil => exact ⟨[], .nil, rfl, by simp [PyData.depthAll], rfl⟩
  | cons r t ih =>
    obtain ⟨d, h1, h2, h3⟩ := h _ List.mem_cons_self _ _ r
    obtain ⟨ds, g1, g2, g3, g4⟩ := ih fun Q hQ => h Q (List.mem_cons_of_mem _ hQ)
    refine ⟨d :: ds, .cons h1 g1, by simp [PyData.canLayAll0, h2, g2], by simp only [PyData.depthAll]; omega, by simp [g4]⟩
theorem dp_I {K : PySem.W.Frag} (i : Int) : DpV K 0 (vI i) := fun H v h => by
  obtain rfl : v = .int i := h
  exact ⟨.int i, .int i, rfl, by simp [PyData.depth]⟩
theorem dp_row {K : PySem.W.Frag} (r : List Int) : DpV K 1 (vRow r) := fun H v h => by
  obtain ⟨p, xs, rfl, hp, hall⟩ := h
  obtain ⟨ds, g1, g2, g3, g4⟩ := dpAll (K := K) (c := 0) (fun P hP => by
    obtain ⟨i, _, rfl⟩ := List.mem_map.mp hP
    exact dp_I i) hall
  exact ⟨.tuple ds, .tup (st_of hp) g1, by simp [PyData.canLay0, g2], by simp only [PyData.depth]; omega⟩
theorem e_eqNil {K : PySem.W.Frag} {σ : L2.St} {H : Hp} {te : TE} {Ps : List VP} (h : EvP te σ H (vL Ps)) (hd : ∀ P ∈ Ps, DpV K 1 P) : EvP (tOp (rEqD K) te (tLst tNil)) σ H (vB (decide (Ps.length = 0))) :=
  e_op h (e_lst a_nil (by simp)) fun x y H1 _ px py Q q => by
    obtain ⟨a, xs, rfl, hp, hall⟩ := px
    obtain ⟨b, ys, rfl, hp', hall'⟩ := py
    cases hall'
    obtain ⟨ds, g1, g2, g3, g4⟩ := dpAll hd hall
    refine ⟨.list ds, .list [], .lst (sq_of hp) g1, .lst (sq_of hp') .nil, ?_, ?_, q _ H1 (Ex.refl H1) ?_⟩
    · unfold SeqAt.shaped
      rw [Bool.and_eq_true]
      refine ⟨by simp [PyData.canLay0, g2], decide_eq_true ?_⟩
      simp only [PyData.depth]
      omega
    · unfold SeqAt.shaped
      rw [Bool.and_eq_true]
      refine ⟨by simp [PyData.canLay0, PyData.canLayAll0], decide_eq_true ?_⟩
      simp [PyData.depth, PyData.depthAll]
    · show V.bl _ = V.bl _
      congr 1
      cases ds with
      | nil =>
        rw [← g4]
        simp [PyData.eqv, PyData.eqvAll]
      | cons d ds =>
        rw [← g4]
        simp [PyData.eqv, PyData.eqvAll]
theorem giv_nil {α : Type} (n : Nat) (f : Nat → Bool) (O : Nat → α) : decide ((giv n f O).length = 0) = (List.range n).all fun k => !f k := by
  unfold giv
  rw [List.length_map, Bool.eq_iff_iff, decide_eq_true_iff, List.length_eq_zero_iff, List.filter_eq_nil_iff, List.all_eq_true]
  constructor
  · intro h k hk
    have := h k hk
    simpa using this
  · intro h k hk
    have := h k hk
    simpa using this
/-! ### the law's own table -/
def bfP (r : Rd3) (d : Nat → Nat → Int) (p : Nat) : Nat → Nat → Int := dset (dset d p r.1 (min (d p r.1) (d p r.2.1 + r.2.2))) p r.2.1 (min (dset d p r.1 (min (d p r.1) (d p r.2.1 + r.2.2)) p r.2.1) (dset d p r.1 (min (d p r.1) (d p r.2.1 + r.2.2)) p r.1 + r.2.2))
def bfR (n : Nat) (d : Nat → Nat → Int) (r : Rd3) : Nat → Nat → Int := (List.range n).foldl (bfP r) d
def bfT (n : Nat) (rods : List Rd3) (d : Nat → Nat → Int) (_ : Nat) : Nat → Nat → Int := rods.foldl (bfR n) d
def bf (n : Nat) (rods : List Rd3) : Nat → Nat → Int := (List.range n).foldl (bfT n rods) (d0 999)
def R__law_far : List VP → VP → Prop := fun Ps P => ∃ (n : Nat) (rods : List Rd3), NetOk n rods ∧ Ps = [vNet n rods] ∧ P = vTab n (bf n rods)
/-! ### slope rows -/
def ab (i : Int) : Int := if i < 0 then -i else i
def okAt (d : Nat → Nat → Int) (p : Nat) (r : List Int) (h : Int) : Bool := (List.range p).all fun k => !decide (d k p < ab (r.getD k 0 - h))
def sRow (d : Nat → Nat → Int) (M p : Nat) (r : List Int) : List (List Int) := giv (M + 1) (fun h : Nat => okAt d p r (h : Int)) fun h : Nat => r ++ [(h : Int)]
def sStep (d : Nat → Nat → Int) (M : Nat) (rows : List (List Int)) (p : Nat) : List (List Int) := rows.flatMap (sRow d M p)
def slopes (n : Nat) (d : Nat → Nat → Int) (M : Nat) : List (List Int) := (List.range n).foldl (sStep d M) [[]]
def R__law_slopes : List VP → VP → Prop := fun Ps P => ∃ (n : Nat) (d : Nat → Nat → Int) (M : Nat), n ≤ 4 ∧ M ≤ 6 ∧ Ps = [vTab n d, vI (M : Int)] ∧ P = vRows (slopes n d M)
theorem sRow_ok {d : Nat → Nat → Int} {M p : Nat} {r : List Int} (hM : M ≤ 6) (hl : r.length = p) (h6 : Row06 r) : (sRow d M p r).length ≤ 7 ∧ ∀ r' ∈ sRow d M p r, r'.length = p + 1 ∧ Row06 r' := by
  constructor
  · have := giv_len (M + 1) (fun h : Nat => okAt d p r (h : Int)) fun h : Nat => r ++ [(h : Int)]
    unfold sRow
    omega
  · intro r' h
    obtain ⟨i, hi, _, rfl⟩ := giv_mem h
    refine ⟨by simp [hl], fun y hy => ?_⟩
    rcases List.mem_append.mp hy with hy | hy
    · exact h6 y hy
    · have e := List.mem_singleton.mp hy
      omega
theorem sStep_ok {d : Nat → Nat → Int} {M p : Nat} {rows : List (List Int)} (hM : M ≤ 6) (h : RowsOk p rows) : RowsOk (p + 1) (sStep d M rows p) := by
  obtain ⟨ha, hb⟩ := h
  refine ⟨fun r hr => ?_, ?_⟩
  · obtain ⟨r0, h0, hr⟩ := List.mem_flatMap.mp hr
    exact (sRow_ok hM (ha r0 h0).1 (ha r0 h0).2).2 r hr
  · have := flat_len (f := sRow d M p) (l := rows) fun r hr => (sRow_ok hM (ha r hr).1 (ha r hr).2).1
    unfold sStep
    rw [Nat.pow_succ]
    omega
section
variable {P : Program} {w : World} {K : PySem.W.Frag} {mg : Str → Option Value} {base : Heap} {C : Addr}
theorem ok__law_far (T : Txt K mg C) (F__law_far : Fd K mg "_law_far" s__law_far p__law_far) : FnOk P w K mg base CX0 1 F__law_far.f F__law_far.fd p__law_far (spF R__law_far) := by
  refine F__law_far.F.ok sc__law_far (spF_len fun Ps P ⟨_, _, _, e, _⟩ => by subst e; rfl) (fun cdv A outer s H vs Q E hr h => ?_)
  obtain ⟨Ps, P, ⟨n, rods, N, rfl, rfl⟩, hall, q⟩ := h
  obtain ⟨v0, rfl, p1⟩ := all1 hall
  have hrd : ∀ i, i < rods.length → (rods.map vRod)[i]? = some (vRod (rdAt rods i)) := map_get _
  have hn4 := N.n4
  have vi : ∀ (i : Int) H, (vI i).is H (.int i) := fun _ _ => rfl
  obtain ⟨pn, xs, rfl, hpn, hal⟩ := p1
  obtain ⟨vm, vr, rfl, pm, pr⟩ := all2 hal
  obtain rfl : vm = .int (n : Int) := pm
  refine ⟨_, (pss_cons (ps_set (i := 1) sc__law_far.nd rfl (Or.inr rfl) (pe_ix (LK.ix_tup K) (pv 0) pe_int (fun _ _ => rfl)))
      (pss_cons (ps_setLc (i := 4) (own := [("_law_one", 2)]) (g := (gName 2)) rfl sc__law_far.nd rfl rfl (sw_true rfl rfl rfl (by decide +kernel)) (pi_range1 rfl T.range (pa_cons (pv 1) pa_nil)) (blkOk_by (own := [("_law_one", 2)]) (N := n__law_far) (sc := defScope s__law_far) (by decide +kernel)) (fun _ _ _ _ _ => (pg_name (i := 2) sc__law_far.nd rfl (Or.inr rfl))) (fun _ _ _ _ _ => pts_nil) (fun _ _ _ _ _ => (pe_lc (own := [("_law_other", 3)]) (g := (gName 3)) rfl sc__law_far.nd (pi_range1 rfl T.range (pa_cons (pv 1) pa_nil)) (blkOk_by (own := [("_law_other", 3)]) (N := n__law_far) (sc := (relS { kind := .function, names := [(PySem.Str.ofString ".0", .local), (PySem.Str.ofString "_law_one", .cell), (PySem.Str.ofString "range", .globalImplicit), (PySem.Str.ofString "_law_many", .free)], isGenerator := false, isCoroutine := false, more := [] } (defScope s__law_far))) (by decide +kernel)) (fun _ _ _ _ _ => (pg_name (i := 3) sc__law_far.nd rfl (Or.inl rfl))) (fun _ _ _ _ _ => pts_nil) (fun _ _ _ _ _ => (pe_ifExp (pt_cmpR op_eq (pv 2) (pv 3) (nomark _)) pe_int pe_int)))))
      (pss_cons (ps_for PassesOwn.never rfl (pi_range1 rfl T.range (pa_cons (pv 1) pa_nil)) (pg_name (i := 5) sc__law_far.nd rfl (Or.inl rfl)) (pss_one (ps_for PassesOwn.never rfl (LK.pi_tup K (pe_ix (LK.ix_tup K) (pv 0) pe_int (fun _ _ => rfl))) (pg_tup rfl (pgs_cons (pg_name (i := 2) sc__law_far.nd rfl (Or.inl rfl)) (pgs_cons (pg_name (i := 3) sc__law_far.nd rfl (Or.inl rfl)) (pgs_cons (pg_name (i := 6) sc__law_far.nd rfl (Or.inl rfl)) pgs_nil)))) (pss_one (ps_for PassesOwn.never rfl (pi_range1 rfl T.range (pa_cons (pv 1) pa_nil)) (pg_name (i := 7) sc__law_far.nd rfl (Or.inl rfl)) (pss_cons (ps_asg (pe_callB LK.call_min2 (by rfl) T.min (by decide +kernel) (pa_cons (pe_ix (LK.ix_list K) (pe_ix (LK.ix_list K) (pv 4) (pv 7) (fun _ _ => rfl)) (pv 2) (fun _ _ => rfl)) (pa_cons (pe_op op_add (pe_ix (LK.ix_list K) (pe_ix (LK.ix_list K) (pv 4) (pv 7) (fun _ _ => rfl)) (pv 3) (fun _ _ => rfl)) (pv 6)) pa_nil))) (pg_sub (pe_ix (LK.ix_list K) (pv 4) (pv 7) (fun _ _ => rfl)) (pv 2) set_list))
      (pss_one (ps_asg (pe_callB LK.call_min2 (by rfl) T.min (by decide +kernel) (pa_cons (pe_ix (LK.ix_list K) (pe_ix (LK.ix_list K) (pv 4) (pv 7) (fun _ _ => rfl)) (pv 3) (fun _ _ => rfl)) (pa_cons (pe_op op_add (pe_ix (LK.ix_list K) (pe_ix (LK.ix_list K) (pv 4) (pv 7) (fun _ _ => rfl)) (pv 2) (fun _ _ => rfl)) (pv 6)) pa_nil))) (pg_sub (pe_ix (LK.ix_list K) (pv 4) (pv 7) (fun _ _ => rfl)) (pv 3) set_list)))))))))
      (pss_one (ps_ret (pv 4)))))), ?_⟩
  refine p_set (P := vI (n : Int)) (e_ixT (k := 0) (e_var rfl (show (vNet n rods).is H _ from ⟨pn, _, rfl, hpn, .cons rfl (.cons pr .nil)⟩)) e_c rfl) fun v1 H1 e1 pv1 => ?_
  obtain rfl : v1 = .int (n : Int) := pv1
  refine p_tab (n := n) (d := d0 999) (a_cons (e_var rfl (vi n H1)) a_nil) (by omega) (fun _ => rfl) (fun i H2 hi e2 => ?_) fun p H2 T2 => ?_
  · exact row0 (ea_cons (ev_v rfl) ea_nil) (by omega) (fun _ => rfl) (fun _ => rfl) (fun _ => rfl)
  have pr1 := (vT (rods.map vRod)).mono e1 pr
  refine p_for (H0 := H1) (n := n) (w_rangeN (a_cons (e_var rfl (vi _ _)) a_nil) (by omega)) T2.ex
    (fun m σ' H' => Tab H1 H' p n ((List.range m).foldl (bfT n rods) (d0 999)) ∧ ∃ x2 x3 x5 x6 x7, σ' = [some (.ref pn), some (.int (n : Int)), x2, x3, some (.ref p), x5, x6, x7]) (fun H' e => ⟨T2.mono e, _, _, _, _, _, rfl⟩) (fun _ _ _ h => h.1.ex) ?_ ?_
  · rintro m x σ' H' H4 hm ⟨T', x2, x3, x5, x6, x7, rfl⟩ e4 px
    have T4 := T'.mono e4
    rw [fold_succ]
    generalize (List.range m).foldl (bfT n rods) (d0 999) = dm at T4 ⊢
    refine p_for1 (H0 := H1) (n := rods.length) (w_tup (ev_op (ev_v rfl) ev_c (rv_ixT (i := 1) (st_of (e1 _ _ hpn)) (atI_nat (j := 1) rfl))) pr1 (by simp) hrd) T4.ex
      (fun j σ' H' => Tab H1 H' p n ((rods.take j).foldl (bfR n) dm) ∧ ∃ x2 x3 x5 x6 x7, σ' = [some (.ref pn), some (.int (n : Int)), x2, x3, some (.ref p), x5, x6, x7]) (fun H' e => ⟨T4.mono e, _, _, _, _, _, rfl⟩) (fun _ _ _ h => h.1.ex) ?_ ?_
    · rintro j x σ' H' H5 hj ⟨T', x2, x3, x5, x6, x7, rfl⟩ e5 px
      refine g_three px fun a b c pa pb pc => ?_
      obtain rfl : a = .int ((rdAt rods j).1 : Int) := pa
      obtain rfl : b = .int ((rdAt rods j).2.1 : Int) := pb
      obtain rfl : c = .int ((rdAt rods j).2.2 : Int) := pc
      obtain ⟨r1, r2, r3, r4⟩ := N.ok _ (rdAt_mem hj)
      have T5 := T'.mono e5
      rw [fold_take _ _ hj]
      generalize (rods.take j).foldl (bfR n) dm = dn at T5 ⊢
      generalize rdAt rods j = r at *
      refine p_for1 (H0 := H1) (n := n) (w_rangeN (a_cons (e_var rfl (vi _ _)) a_nil) (by omega)) T5.ex
        (fun t σ' H' => Tab H1 H' p n ((List.range t).foldl (bfP r) dn) ∧ ∃ x5 x7, σ' = [some (.ref pn), some (.int (n : Int)), some (.int (r.1 : Int)), some (.int (r.2.1 : Int)), some (.ref p), x5, some (.int r.2.2), x7]) (fun H' e => ⟨T5.mono e, _, _, rfl⟩) (fun _ _ _ h => h.1.ex) ?_ ?_
      · rintro t x σ' H' H6 ht ⟨T', x5, x7, rfl⟩ e6 px
        obtain rfl : x = .int (t : Int) := px
        have T6 := T'.mono e6
        rw [fold_succ]
        generalize (List.range t).foldl (bfP r) dn = dt at T6 ⊢
        refine tab_set (D := { nx := _, rt := _, bk := _, ct := _ }) T6 rfl (e_min2 (e_tab (e_var rfl T6.is) (e_var rfl (vi _ _)) (e_var rfl (vi _ _)) ht (by omega)) (e_I0 (e_tab (e_var rfl T6.is) (e_var rfl (vi _ _)) (e_var rfl (vi _ _)) ht r2) (e_var rfl (vi _ _)))) (e_var rfl (vi _ _)) (e_var rfl (vi _ _)) ht (by omega) fun H7 T7 => ?_
        refine tab_set T7 rfl (e_min2 (e_tab (e_var rfl T7.is) (e_var rfl (vi _ _)) (e_var rfl (vi _ _)) ht r2) (e_I0 (e_tab (e_var rfl T7.is) (e_var rfl (vi _ _)) (e_var rfl (vi _ _)) ht (by omega)) (e_var rfl (vi _ _)))) (e_var rfl (vi _ _)) (e_var rfl (vi _ _)) ht r2 fun H8 T8 => ⟨T8, _, _, rfl⟩
      · rintro σ' H6 ⟨T', x5, x7, rfl⟩
        exact ⟨T', _, _, _, _, _, rfl⟩
    · rintro σ' H5 ⟨T', x2, x3, x5, x6, x7, rfl⟩
      rw [List.take_length] at T'
      exact ⟨T', _, _, _, _, _, rfl⟩
  · rintro σ' H4 ⟨T4, x2, x3, x5, x6, x7, rfl⟩
    exact p_ret (e_var rfl T4.is) fun v H5 e5 pv' => q v H5 (e1.trans (T4.ex.trans e5)) pv'
theorem ok__law_slopes (T : Txt K mg C) (F__law_slopes : Fd K mg "_law_slopes" s__law_slopes p__law_slopes) : FnOk P w K mg base CX0 1 F__law_slopes.f F__law_slopes.fd p__law_slopes (spF R__law_slopes) := by
  refine F__law_slopes.F.ok sc__law_slopes (spF_len fun Ps P ⟨_, _, _, _, _, e, _⟩ => by subst e; rfl) (fun cdv A outer s H vs Q E hr h => ?_)
  obtain ⟨Ps, P, ⟨n, d, M, hn4, hM, rfl, rfl⟩, hall, q⟩ := h
  obtain ⟨v0, v1, rfl, p1, p2⟩ := all2 hall
  have vi : ∀ (i : Int) H, (vI i).is H (.int i) := fun _ _ => rfl
  obtain rfl : v1 = .int (M : Int) := p2
  refine ⟨_, (pss_cons (ps_set (i := 2) sc__law_slopes.nd rfl (Or.inl rfl) (pe_lst (pa_cons (pe_tup pa_nil) pa_nil)))
      (pss_cons (ps_for PassesOwn.never rfl (pi_range1 rfl T.range (pa_cons (pe_callB (LK.call_len_seq K) (by rfl) T.len (by decide +kernel) (pa_cons (pv 0) pa_nil)) pa_nil)) (pg_name (i := 3) sc__law_slopes.nd rfl (Or.inr rfl)) (pss_cons (ps_set (i := 4) sc__law_slopes.nd rfl (Or.inl rfl) (pe_lst pa_nil))
      (pss_cons (ps_for PassesOwn.never rfl (LK.pi_list K (pv 2)) (pg_name (i := 5) sc__law_slopes.nd rfl (Or.inr rfl)) (pss_one (ps_for PassesOwn.never rfl (pi_range1 rfl T.range (pa_cons (pe_op op_add (pv 1) pe_int) pa_nil)) (pg_name (i := 6) sc__law_slopes.nd rfl (Or.inr rfl)) (pss_one (ps_if (pt_cmpR (LK.op_eqD K hr.units) (pe_lc (own := [("_law_one", 7)]) (g := (gName 7)) rfl sc__law_slopes.nd (pi_range1 rfl T.range (pa_cons (pv 3) pa_nil)) (blkOk_by (own := [("_law_one", 7)]) (N := n__law_slopes) (sc := defScope s__law_slopes) (by decide +kernel)) (fun _ _ _ _ _ => (pg_name (i := 7) sc__law_slopes.nd rfl (Or.inl rfl))) (fun _ _ _ _ _ => (pts_one (pt_cmpR op_gt (pe_callB call_abs (by rfl) T.abs (by decide +kernel) (pa_cons (pe_op op_sub (pe_ix (LK.ix_tup K) (pv 5) (pv 7) (fun _ _ => rfl)) (pv 6)) pa_nil)) (pe_ix (LK.ix_list K) (pe_ix (LK.ix_list K) (pv 0) (pv 7) (fun _ _ => rfl)) (pv 3) (fun _ _ => rfl)) (nomark _)))) (fun _ _ _ _ _ => (pv 7))) (pe_lst pa_nil) (nomark _)) (pss_one (ps_expr (pe_bm PySem.F.plainAttrs_list PySem.F.slot_list_append PySem.F.type_list_append mt_append (pv 4) (pa_cons (pe_op (LK.op_catA K) (pv 5) (pe_tup (pa_cons (pv 6) pa_nil))) pa_nil)))) pss_nil)))))
      (pss_one (ps_set (i := 2) sc__law_slopes.nd rfl (Or.inl rfl) (pv 4))))))
      (pss_one (ps_ret (pv 2))))), ?_⟩
  refine p_set (P := vRows [[]]) (e_lst (a_cons (e_tup a_nil (by simp)) a_nil) (by simp)) fun vro H2 e2 pro => ?_
  unfold slopes at q
  refine p_for (H0 := H2) (n := n) (w_rangeN (a_cons (e_is (e_lenL (e_var rfl ((vTab n d).mono e2 p1))) (by simp)) a_nil) (by omega)) (Ex.refl _)
    (fun p σ' H' => Ex H2 H' ∧ RowsOk p ((List.range p).foldl (sStep d M) [[]]) ∧ ∃ vr x3 x4 x5 x6, (vRows ((List.range p).foldl (sStep d M) [[]])).is H' vr ∧ σ' = [some v0, some (.int (M : Int)), some vr, x3, x4, x5, x6, none])
    (fun H' e => ⟨e, ⟨fun r hr => by
      have er : r = [] := by simpa using hr
      subst er
      exact ⟨rfl, fun x hx => by simp at hx⟩, by simp⟩, vro, _, _, _, _, (vRows [[]]).mono e pro, rfl⟩) (fun _ _ _ h => h.1) ?_ ?_
  · rintro p x σ' H' H3 hp ⟨h1, hro, vr, x3, x4, x5, x6, pr, rfl⟩ e3 px
    obtain rfl : x = .int (p : Int) := px
    rw [fold_succ]
    generalize (List.range p).foldl (sStep d M) [[]] = rows at *
    have pr3 := (vRows rows).mono e3 pr
    have E3 := e2.trans (h1.trans e3)
    refine mut_new (Ex.refl H3) fun l H4 M4 e4 => ?_
    have h7 := hro.2
    have h74 := pow7 (p := p) (by omega)
    refine p_for (H0 := H3) (n := rows.length) (w_list (ev_v rfl) pr3 (by simp) (map_get [])) M4.ex
      (fun i σ' H' => Mut H3 H' l (((rows.take i).flatMap (sRow d M p)).map vRow) ∧ ∃ x5 x6, σ' = [some v0, some (.int (M : Int)), some vr, some (.int (p : Int)), some (.ref l), x5, x6, none])
      (fun H' e => ⟨M4.mono e, _, _, rfl⟩) (fun _ _ _ h => h.1.ex) ?_ ?_
    · rintro i x σ' H' H5 hi' ⟨MM, x5, x6, rfl⟩ e5 px
      have M5 := MM.mono e5
      have hmem : rows.getD i [] ∈ rows := by
        rw [List.getD_eq_getElem?_getD, List.getElem?_eq_getElem hi']
        exact List.getElem_mem hi'
      rw [flat_take [] hi']
      have hlen := flat_len (f := sRow d M p) (l := rows.take i) fun r hr => (sRow_ok hM (hro.1 r (List.mem_of_mem_take hr)).1 (hro.1 r (List.mem_of_mem_take hr)).2).1
      have hlt : (rows.take i).length ≤ rows.length := by simp; omega
      obtain ⟨r1, r6⟩ := hro.1 _ hmem
      generalize (rows.take i).flatMap (sRow d M p) = before at *
      generalize rows.getD i [] = r at *
      refine p_for1 (H0 := H3) (n := M + 1) (w_rangeN (a_cons (e_is (e_I0 (e_var rfl (vi _ _)) e_c) (by simp)) a_nil) (by omega)) M5.ex
        (fun j σ' H' => Mut H3 H' l ((before ++ giv j (fun h : Nat => okAt d p r (h : Int)) fun h : Nat => r ++ [(h : Int)]).map vRow) ∧ (vRow r).is H' x ∧ ∃ x6, σ' = [some v0, some (.int (M : Int)), some vr, some (.int (p : Int)), some (.ref l), some x, x6, none])
        (fun H' e => ⟨by
          have z : giv 0 (fun h : Nat => okAt d p r (h : Int)) (fun h : Nat => r ++ [(h : Int)]) = [] := rfl
          rw [z, List.append_nil]
          exact M5.mono e, (vRow r).mono e px, _, rfl⟩) (fun _ _ _ h => h.1.ex) ?_ ?_
      · rintro j y σ' H' H6 hj ⟨MM, px, x6, rfl⟩ e6 py
        obtain rfl : y = .int (j : Int) := py
        have M6 := MM.mono e6
        have px6 := (vRow r).mono e6 px
        have E6 : Ex H H6 := E3.trans M6.ex
        have gl := giv_len j (fun h : Nat => okAt d p r (h : Int)) fun h : Nat => r ++ [(h : Int)]
        refine p_if1 (b := okAt d p r (j : Int)) (t_test (e_bool (e_eqNil (Ps := giv p (fun k => decide (d k p < ab (r.getD k 0 - (j : Int)))) fun k => vI (k : Int)) ?_ ?_) (giv_nil _ _ _))) (fun hb H7 e7 => ?_) (fun hb H7 e7 => ?_)
        · refine e_lcNf (n := p) (I := fun k => vI (k : Int)) (O := fun k => vI (k : Int)) (fun k => decide (d k p < ab (r.getD k 0 - (j : Int)))) (i_rangeN (a_cons (e_var rfl (vi _ _)) a_nil) (by omega)) (by omega) (fun _ _ => stb_V) (fun _ => rfl) (fun k x H8 hk e8 pk => ?_) (fun k x H8 hk e8 pk _ => e_var rfl pk)
          obtain rfl : x = .int (k : Int) := pk
          exact t_test (e_I0 (e_abs (e_I0 (e_row (e_var rfl ((vRow r).mono e8 px6)) (e_var rfl (vi _ _)) (by omega)) (e_var rfl (vi _ _)))) (e_tab (e_var rfl ((vTab n d).mono (E6.trans e8) p1)) (e_var rfl (vi _ _)) (e_var rfl (vi _ _)) (by omega) hp))
        · intro O hO
          obtain ⟨k, _, _, rfl⟩ := giv_mem hO
          intro H v h
          obtain ⟨d, g1, g2, g3⟩ := dp_I (K := K) _ H v h
          exact ⟨d, g1, g2, by omega⟩
        · have M7 := M6.mono e7
          refine mut_appS (P := vRow (r ++ [(j : Int)])) M7 (ev_v rfl) ?_ (by simp only [List.length_map, List.length_append]; omega) (fun O hO => ?_) fun H8 M8 S8 => ⟨?_, ?_, _, rfl⟩
          · rw [row_app]
            exact e_catA (e_var rfl ((vRow r).mono e7 px6)) (e_tup (a_cons (e_var rfl (vi _ _)) a_nil) (by simp)) (by simp; omega)
          · rcases List.mem_append.mp hO with hO | hO
            · exact rows_stb _ O hO
            · rw [List.mem_singleton.mp hO]
              exact stb_row
          · rw [giv_yes (f := fun h : Nat => okAt d p r (h : Int)) hb, ← List.append_assoc, List.map_append]
            exact M8
          · exact S8 (vRow r) _ stb_row ((vRow r).mono e7 px6)
        · refine ⟨?_, (vRow r).mono e7 px6, _, rfl⟩
          rw [giv_no (f := fun h : Nat => okAt d p r (h : Int)) hb]
          exact M6.mono e7
      · rintro σ' H6 ⟨MM, _, x6, rfl⟩
        refine ⟨?_, _, _, rfl⟩
        exact MM
    · rintro σ' H5 ⟨M5, x5, x6, rfl⟩
      rw [List.take_length] at M5
      refine p_set1 (P := vRows (sStep d M rows p)) (e_var rfl M5.is) fun v H6 e6 pv6 => ?_
      exact ⟨(h1.trans e3).trans (M5.ex.trans e6), sStep_ok hM hro, v, _, _, _, _, pv6, rfl⟩
  · rintro σ' H3 ⟨h1, hro, vr, x3, x4, x5, x6, pr, rfl⟩
    exact p_ret (e_var rfl pr) fun v H4 e4 p4 => q v H4 (e2.trans (h1.trans e4)) p4
end
end Lt
set_option maxHeartbeats 1000000
namespace Lt
open PySem L2 Evl
/-! ### what isinstance says -/
def TyP (K : PySem.W.Frag) (P : VP) (n : String) : Prop := ∀ H v, P.is H v → TyX K H v (.type n) ∧ v ≠ .non
theorem ty_I {K : PySem.W.Frag} (i : Int) : TyP K (vI i) "int" := fun H v h => by
  obtain rfl : v = .int i := h
  exact ⟨.base (.int i), fun z => nomatch z⟩
theorem ty_T {K : PySem.W.Frag} (Ps : List VP) : TyP K (vT Ps) "tuple" := fun H v ⟨p, xs, e, hp, _⟩ => by
  subst e
  exact ⟨.base (.tup hp), fun z => nomatch z⟩
theorem ty_L {K : PySem.W.Frag} (Ps : List VP) : TyP K (vL Ps) "list" := fun H v ⟨p, xs, e, hp, _⟩ => by
  subst e
  exact ⟨.base (.lst hp), fun z => nomatch z⟩
section
variable {K : PySem.W.Frag} {σ : L2.St} {H : Hp} {ta tb te : TE} {P0 : VP} {n c : String} {b : Bool}
theorem e_isi (ha : EvP ta σ H P0) (hb : EvP tb σ H (vTy c)) (hP : TyP K P0 n) (hk : kitB n c = some b) : EvP (tCB (rIsi K) (tCons ta (tCons tb tNil))) σ H (vB b) :=
  e_cb (a_cons ha (a_cons hb a_nil)) fun vs H1 _ ps Q q => by
    obtain ⟨v, w, rfl, p1, p2⟩ := all2 ps
    obtain rfl : w = .ty c := p2
    exact ⟨_, _, .type n, .type c, b, rfl, .ty c, (hP _ _ p1).1, kit_ty hk, q _ H1 (Ex.refl H1) rfl⟩
theorem e_isi2 (ha : EvP ta σ H P0) (hP : TyP K P0 n) (hk : PySem.W.kitAny K (.type n) [.type "tuple", .type "list"] = some b) : EvP (tCB (rIsiT K) (tCons ta (tCons (tTup (tCons (tC (.ty "tuple")) (tCons (tC (.ty "list")) tNil))) tNil))) σ H (vB b) :=
  e_cb (a_cons ha (a_cons (e_tup (a_cons e_c (a_cons e_c a_nil)) (by simp)) a_nil)) fun vs H1 _ ps Q q => by
    obtain ⟨v, w, rfl, p1, p, xs, rfl, hp, hall⟩ := all2 ps
    obtain ⟨x, y, rfl, q1, q2⟩ := all2 hall
    obtain rfl : x = .ty "tuple" := q1
    obtain rfl : y = .ty "list" := q2
    exact ⟨_, p, _, .type n, _, b, rfl, hp, .cons (.ty "tuple") (.cons (.ty "list") .nil), (hP _ _ p1).1, hk, q _ H1 (Ex.refl H1) rfl⟩
theorem e_isN (ha : EvP ta σ H P0) (hP : TyP K P0 n) : EvP (tOp (fun x y H Q => y = .non ∧ Q (.bl (decide (x = .non))) H) ta (tC .non)) σ H (vB false) :=
  e_op ha e_c fun x y H1 _ px py Q q => ⟨py, q _ H1 (Ex.refl H1) (by
    show V.bl _ = V.bl _
    rw [decide_eq_false (hP _ _ px).2])⟩
theorem kit1 {n c : String} {b : Bool} (h : kitB n c = some b) : PySem.W.kitOne K (.type n) (.type c) = some b := kit_ty h
theorem kit_int : PySem.W.kitAny K (.type "int") [.type "tuple", .type "list"] = some false := kitAny_cons (kit1 (b := false) (by decide +kernel)) (fun _ => kitAny_cons (kit1 (b := false) (by decide +kernel)) (fun _ => kitAny_nil) fun z => nomatch z) fun z => nomatch z
theorem kit_tup : PySem.W.kitAny K (.type "tuple") [.type "tuple", .type "list"] = some true := kitAny_cons (kit1 (b := true) (by decide +kernel)) (fun z => nomatch z) fun _ => rfl
theorem kit_lst : PySem.W.kitAny K (.type "list") [.type "tuple", .type "list"] = some true := kitAny_cons (kit1 (b := false) (by decide +kernel)) (fun _ => kitAny_cons (kit1 (b := true) (by decide +kernel)) (fun z => nomatch z) fun _ => rfl) fun z => nomatch z
/-- a sequence, tuple or list -/
def vSeq (l : Bool) (Ps : List VP) : VP := if l then vL Ps else vT Ps
theorem ty_S (l : Bool) (Ps : List VP) : TyP K (vSeq l Ps) (if l then "list" else "tuple") := by
  cases l with
  | true => exact ty_L Ps
  | false => exact ty_T Ps
theorem kit_S (l : Bool) : PySem.W.kitAny K (.type (if l then "list" else "tuple")) [.type "tuple", .type "list"] = some true := by
  cases l with
  | true => exact kit_lst
  | false => exact kit_tup
theorem kitL_S (l : Bool) : kitB (if l then "list" else "tuple") "list" = some l := by
  cases l with
  | true => decide +kernel
  | false => decide +kernel
theorem e_lenS {l : Bool} {Ps : List VP} (ha : EvP ta σ H (vSeq l Ps)) : EvP (tCB (fun xs H Q => ∃ p ys, xs = [.ref p] ∧ (SqL K H p ys ∨ SqT K H p ys) ∧ Q (.int ys.length) H) (tCons ta tNil)) σ H (vI (Ps.length : Int)) := by
  cases l with
  | true => exact e_lenL ha
  | false => exact e_lenT ha
theorem e_ixS {l : Bool} {Ps : List VP} {P : VP} {k : Nat} (ha : EvP ta σ H (vSeq l Ps)) (hb : EvP tb σ H (vI (k : Int))) (h : Ps[k]? = some P) : EvP (tOp (rIx K) ta tb) σ H P :=
  e_op ha hb fun x y H1 _ px py Q q => by
    obtain rfl : y = .int (k : Int) := py
    cases l with
    | true =>
      obtain ⟨p, xs, rfl, hp, hall⟩ := px
      obtain ⟨v, hv, pv⟩ := paired_get hall h
      exact .inl ⟨p, xs, (k : Int), v, rfl, rfl, sq_of hp, atI_nat hv, q v H1 (Ex.refl H1) pv⟩
    | false =>
      obtain ⟨p, xs, rfl, hp, hall⟩ := px
      obtain ⟨v, hv, pv⟩ := paired_get hall h
      exact .inr (.inl ⟨p, xs, (k : Int), v, rfl, rfl, st_of hp, atI_nat hv, q v H1 (Ex.refl H1) pv⟩)
end
/-- what alike is asked of: data of such a depth, the same twice -/
def Dat : Nat → VP → Prop
  | 0, _ => False
  | k + 1, P => (∃ i : Int, P = vI i) ∨ ∃ (l : Bool) (Ps : List VP), P = vSeq l Ps ∧ Ps.length ≤ 40000 ∧ ∀ Q ∈ Ps, Dat k Q
def R__law_alike (k : Nat) : List VP → VP → Prop := fun Ps P => ∃ P0, Dat k P0 ∧ Ps = [P0, P0] ∧ P = vB true
theorem dat_I (k : Nat) (i : Int) : Dat (k + 1) (vI i) := .inl ⟨i, rfl⟩
theorem dat_row (k : Nat) {r : List Int} (h : r.length ≤ 40000) : Dat (k + 2) (vRow r) := .inr ⟨false, _, rfl, by simpa using h, fun Q hQ => by
  obtain ⟨i, _, rfl⟩ := List.mem_map.mp hQ
  exact dat_I k i⟩
theorem dat_rows {rows : List (List Int)} (h : rows.length ≤ 40000) (hr : ∀ r ∈ rows, r.length ≤ 40000) : Dat 3 (vRows rows) := .inr ⟨true, _, rfl, by simpa using h, fun Q hQ => by
  obtain ⟨r, hm, rfl⟩ := List.mem_map.mp hQ
  exact dat_row 0 (hr r hm)⟩
theorem dat_two {a b : List Int} (h1 : a.length ≤ 40000) (h2 : b.length ≤ 40000) : Dat 3 (vT [vRow a, vRow b]) := .inr ⟨false, _, rfl, by simp, fun Q hQ => by
  rcases List.mem_cons.mp hQ with rfl | hQ
  · exact dat_row 0 h1
  · rw [List.mem_singleton.mp hQ]
    exact dat_row 0 h2⟩
def R__law_roof : List VP → VP → Prop := fun Ps P => ∃ (n : Nat) (d : Nat → Nat → Int) (r : List Int), n ≤ 4 ∧ (∀ i j, i < n → j < n → 0 ≤ d i j) ∧ r.length = n ∧ Row06 r ∧ Ps = [vTab n d, vRow r] ∧ P = vSome vRow fun r' => r'.length = n ∧ Row06 r'
theorem sum_le : ∀ {f : List Int}, Row06 f → f.sum ≤ 6 * (f.length : Int)
  | [], _ => by simp
  | x :: f, h => by
    have h1 := h x List.mem_cons_self
    have h2 := sum_le (f := f) fun y hy => h y (List.mem_cons_of_mem _ hy)
    rw [List.sum_cons, List.length_cons]
    omega
theorem sum_set : ∀ {f : List Int} {j : Nat} {x : Int}, j < f.length → (f.set j x).sum = f.sum - f.getD j 0 + x
  | [], j, x, h => by simp at h
  | y :: f, 0, x, h => by
    show (x :: f).sum = (y :: f).sum - y + x
    rw [List.sum_cons, List.sum_cons]
    omega
  | y :: f, j + 1, x, h => by
    have ih := sum_set (f := f) (j := j) (x := x) (by simpa using h)
    show (y :: f.set j x).sum = (y :: f).sum - f.getD j 0 + x
    rw [List.sum_cons, List.sum_cons, ih]
    omega
theorem row06_set {f : List Int} {j : Nat} {x : Int} (h : Row06 f) (hx : 0 ≤ x ∧ x ≤ 6) : Row06 (f.set j x) := fun y hy => by
  rcases List.mem_or_eq_of_mem_set hy with hy | rfl
  · exact h y hy
  · exact hx
section
variable {P : Program} {w : World} {K : PySem.W.Frag} {mg : Str → Option Value} {base : Heap} {C : Addr}
theorem ok__law_alike (T : Txt K mg C) (F__law_alike : Fd K mg "_law_alike" s__law_alike p__law_alike) : ∀ k, FnOk P w K mg base CX0 k F__law_alike.f F__law_alike.fd p__law_alike (spF (R__law_alike k)) := by
  intro k
  induction k with
  | zero => exact ⟨fun vs H Q E ⟨_, _, ⟨_, h, _⟩, _⟩ => h.elim, fun A outer s H args us vs Q E hr he hb hv ⟨_, _, ⟨_, h, _⟩, _⟩ => h.elim⟩
  | succ k ok__law_alike =>
  refine F__law_alike.F.ok sc__law_alike (spF_len fun Ps P ⟨_, _, e, _⟩ => by subst e; rfl) (fun cdv A outer s H vs Q E hr h => ?_)
  obtain ⟨Ps, P, ⟨P0, hD, rfl, rfl⟩, hall, q⟩ := h
  obtain ⟨v0, v1, rfl, p1, p2⟩ := all2 hall
  refine ⟨_, (pss_cons (ps_if (pt_val (pe_callB (LK.call_isiT K) (by rfl) T.isinstance (by decide +kernel) (pa_cons (pv 1) (pa_cons (pe_tup (pa_cons (pe_bltn (v := .ty "tuple") (by rfl) T.tuple (by decide +kernel) rfl) (pa_cons (pe_bltn (v := .ty "list") (by rfl) T.list (by decide +kernel) rfl) pa_nil))) pa_nil)))) (pss_cons (ps_if (PW.pt (pw_or (pt_not (pt_val (pe_callB (LK.call_isiT K) (by rfl) T.isinstance (by decide +kernel) (pa_cons (pv 0) (pa_cons (pe_tup (pa_cons (pe_bltn (v := .ty "tuple") (by rfl) T.tuple (by decide +kernel) rfl) (pa_cons (pe_bltn (v := .ty "list") (by rfl) T.list (by decide +kernel) rfl) pa_nil))) pa_nil))))) (pw_or1 (pt_cmpR op_ne (pe_callB (LK.call_isi K) (by rfl) T.isinstance (by decide +kernel) (pa_cons (pv 0) (pa_cons (pe_bltn (v := .ty "list") (by rfl) T.list (by decide +kernel) rfl) pa_nil))) (pe_callB (LK.call_isi K) (by rfl) T.isinstance (by decide +kernel) (pa_cons (pv 1) (pa_cons (pe_bltn (v := .ty "list") (by rfl) T.list (by decide +kernel) rfl) pa_nil))) (nomark _))))) (pss_one (ps_ret pe_bl)) pss_nil)
      (pss_cons (ps_if (pt_cmpR op_ne (pe_callB (LK.call_len_seq K) (by rfl) T.len (by decide +kernel) (pa_cons (pv 0) pa_nil)) (pe_callB (LK.call_len_seq K) (by rfl) T.len (by decide +kernel) (pa_cons (pv 1) pa_nil)) (nomark _)) (pss_one (ps_ret pe_bl)) pss_nil)
      (pss_one (ps_ret (pe_cmpR (LK.op_eqD K hr.units) (pe_lc (own := [("_law_k", 2)]) (g := (gName 2)) rfl sc__law_alike.nd (pi_range1 rfl T.range (pa_cons (pe_callB (LK.call_len_seq K) (by rfl) T.len (by decide +kernel) (pa_cons (pv 1) pa_nil)) pa_nil)) (blkOk_by (own := [("_law_k", 2)]) (N := n__law_alike) (sc := defScope s__law_alike) (by decide +kernel)) (fun _ _ _ _ _ => (pg_name (i := 2) sc__law_alike.nd rfl (Or.inl rfl))) (fun _ _ _ _ _ => (pts_one (pt_not (pt_val (pe_call ok__law_alike (hr.mono (Nat.le_refl _)) (by rfl) F__law_alike.g F__law_alike.F.kp F__law_alike.b .nil pass0 (pa_cons (pe_ix (LK.ix_seq K) (pv 0) (pv 2) (fun _ _ => rfl)) (pa_cons (pe_ix (LK.ix_seq K) (pv 1) (pv 2) (fun _ _ => rfl)) pa_nil))))))) (fun _ _ _ _ _ => (pv 2))) (pe_lst pa_nil) (nomark _)))))) pss_nil)
      (pss_cons (ps_if (PW.pt (pw_or (pt_cmpR op_isN (pv 1) pe_non (nomark _)) (pw_or1 (pt_val (pe_callB (LK.call_isi K) (by rfl) T.isinstance (by decide +kernel) (pa_cons (pv 1) (pa_cons (pe_bltn (v := .ty "str") (by rfl) T.str (by decide +kernel) rfl) pa_nil))))))) (pss_one (ps_ret (pe_and (pe_cmpR op_eq (pv 0) (pv 1) (nomark _)) (pe_one (pe_cmpR op_eq (pe_callB (LK.call_isi K) (by rfl) T.isinstance (by decide +kernel) (pa_cons (pv 0) (pa_cons (pe_bltn (v := .ty "str") (by rfl) T.str (by decide +kernel) rfl) pa_nil))) (pe_callB (LK.call_isi K) (by rfl) T.isinstance (by decide +kernel) (pa_cons (pv 1) (pa_cons (pe_bltn (v := .ty "str") (by rfl) T.str (by decide +kernel) rfl) pa_nil))) (nomark _)))))) pss_nil)
      (pss_one (ps_ret (pe_and (pe_callB (LK.call_isi K) (by rfl) T.isinstance (by decide +kernel) (pa_cons (pv 0) (pa_cons (pe_bltn (v := .ty "int") (by rfl) T.int (by decide +kernel) rfl) pa_nil))) (pe_and (pe_cmpR op_eq (pe_callB (LK.call_isi K) (by rfl) T.isinstance (by decide +kernel) (pa_cons (pv 0) (pa_cons (pe_bltn (v := .ty "bool") (by rfl) T.bool (by decide +kernel) rfl) pa_nil))) (pe_callB (LK.call_isi K) (by rfl) T.isinstance (by decide +kernel) (pa_cons (pv 1) (pa_cons (pe_bltn (v := .ty "bool") (by rfl) T.bool (by decide +kernel) rfl) pa_nil))) (nomark _)) (pe_one (pe_cmpR op_eq (pv 0) (pv 1) (nomark _))))))))), ?_⟩
  rcases hD with ⟨i, rfl⟩ | ⟨l, Ps, rfl, hlen, hQ⟩
  · refine p_if (b := false) (t_test (e_isi2 (e_var rfl p2) (ty_I i) kit_int)) (fun z => nomatch z) fun _ H1 e1 => ?_
    have p1' := (vI i).mono e1 p1
    have p2' := (vI i).mono e1 p2
    refine p_no (et_is (et_or (t_test (e_isN (e_var rfl p2') (ty_I (K := K) i))) fun _ => t_test (e_isi (e_var rfl p2') e_c (ty_I i) (b := false) (by decide +kernel))) rfl) fun H2 e2 => ?_
    have p1 := (vI i).mono e2 p1'
    have p2 := (vI i).mono e2 p2'
    refine p_ret (e_bool (e_and (e_isi (b := true) (e_var rfl p1) e_c (ty_I i) (by decide +kernel)) fun _ => e_and (e_eq (x := .bl false) (y := .bl false) (e_isi (e_var rfl p1) e_c (ty_I i) (by decide +kernel)) (e_isi (e_var rfl p2) e_c (ty_I i) (by decide +kernel)) rfl) fun _ => e_eq (e_var rfl p1) (e_var rfl p2) rfl) ?_) fun v H3 e3 => q v H3 (e1.trans (e2.trans e3))
    simp
  · refine p_if (b := true) (t_test (e_isi2 (e_var rfl p2) (ty_S l Ps) (kit_S l))) (fun _ H1 e1 => ?_) fun z => nomatch z
    have p1' := (vSeq l Ps).mono e1 p1
    have p2' := (vSeq l Ps).mono e1 p2
    refine p_no (et_is (et_or (et_not (t_test (e_isi2 (e_var rfl p1') (ty_S l Ps) (kit_S l)))) fun _ => t_test (e_ne (x := .bl l) (y := .bl l) (e_isi (e_var rfl p1') e_c (ty_S l Ps) (kitL_S l)) (e_isi (e_var rfl p2') e_c (ty_S l Ps) (kitL_S l)) rfl)) (by simp)) fun H2 e2 => ?_
    have p1'' := (vSeq l Ps).mono e2 p1'
    have p2'' := (vSeq l Ps).mono e2 p2'
    refine p_no (et_is (t_test (e_ne (x := .int Ps.length) (y := .int Ps.length) (e_lenS (e_var rfl p1'')) (e_lenS (e_var rfl p2'')) rfl)) (by simp)) fun H3 e3 => ?_
    have p1 := (vSeq l Ps).mono e3 p1''
    have p2 := (vSeq l Ps).mono e3 p2''
    refine p_ret (e_bool (e_eqNil (Ps := giv Ps.length (fun _ => false) fun _ => vI 0) ?_ ?_) ?_) fun v H4 e4 => q v H4 (e1.trans (e2.trans (e3.trans e4)))
    · refine e_lcNf (n := Ps.length) (I := fun k => vI (k : Int)) (O := fun _ => vI 0) (fun _ => false) (i_rangeN (a_cons (e_lenS (e_var rfl p2)) a_nil) hlen) hlen (fun _ _ => stb_V) (fun _ => rfl) (fun j x H5 hj e5 pj => ?_) (fun _ _ _ _ _ _ z => nomatch z)
      obtain rfl : x = .int (j : Int) := pj
      have hg : Ps[j]? = some Ps[j] := List.getElem?_eq_getElem hj
      exact et_is (et_not (t_test (e_call (P := vB true) (a_cons (e_ixS (e_var rfl ((vSeq l Ps).mono e5 p1)) (e_var rfl (show (vI (j : Int)).is H5 _ from rfl)) hg) (a_cons (e_ixS (e_var rfl ((vSeq l Ps).mono e5 p2)) (e_var rfl (show (vI (j : Int)).is H5 _ from rfl)) hg) a_nil)) ⟨_, hQ _ (List.getElem_mem hj), rfl, rfl⟩))) rfl
    · intro O hO
      obtain ⟨_, _, z, _⟩ := giv_mem hO
      exact nomatch z
    · rw [giv_nil]
      simp
theorem ok__law_roof (T : Txt K mg C) (F__law_roof : Fd K mg "_law_roof" s__law_roof p__law_roof) : FnOk P w K mg base CX0 1 F__law_roof.f F__law_roof.fd p__law_roof (spF R__law_roof) := by
  refine F__law_roof.F.ok sc__law_roof (spF_len fun Ps P ⟨_, _, _, _, _, _, _, e, _⟩ => by subst e; rfl) (fun cdv A outer s H vs Q E hr h => ?_)
  obtain ⟨Ps, P, ⟨n, d, r, hn4, hd, hl, h6, rfl, rfl⟩, hall, q⟩ := h
  obtain ⟨v0, v1, rfl, p1, p2⟩ := all2 hall
  have vi : ∀ (i : Int) H, (vI i).is H (.int i) := fun _ _ => rfl
  obtain ⟨pr, rfl, hpr⟩ := vRow_is p2
  refine ⟨_, (pss_cons (ps_par (i := 2) (j := 3) rfl sc__law_roof.nd rfl rfl (by decide) rfl rfl (pa_cons (pe_callTy (LK.call_list_of K) (by rfl) T.list (by decide +kernel) (pa_cons (pv 1) pa_nil)) (pa_cons pe_bl pa_nil)) (by rfl))
      (pss_cons (ps_while PassesOwn.never (pt_val (pv 3)) (pss_cons (ps_set (i := 3) sc__law_roof.nd rfl (Or.inl rfl) pe_bl)
      (pss_one (ps_for PassesOwn.never rfl (pi_range1 rfl T.range (pa_cons (pe_callB (LK.call_len_seq K) (by rfl) T.len (by decide +kernel) (pa_cons (pv 1) pa_nil)) pa_nil)) (pg_name (i := 4) sc__law_roof.nd rfl (Or.inl rfl)) (pss_one (ps_for PassesOwn.never rfl (pi_range1 rfl T.range (pa_cons (pe_callB (LK.call_len_seq K) (by rfl) T.len (by decide +kernel) (pa_cons (pv 1) pa_nil)) pa_nil)) (pg_name (i := 5) sc__law_roof.nd rfl (Or.inl rfl)) (pss_one (ps_if (pt_cmpR op_lt (pe_ix (LK.ix_list K) (pv 2) (pv 5) (fun _ _ => rfl)) (pe_op op_sub (pe_ix (LK.ix_list K) (pv 2) (pv 4) (fun _ _ => rfl)) (pe_ix (LK.ix_list K) (pe_ix (LK.ix_list K) (pv 0) (pv 4) (fun _ _ => rfl)) (pv 5) (fun _ _ => rfl))) (nomark _)) (pss_one (ps_asg (pe_tup (pa_cons (pe_op op_sub (pe_ix (LK.ix_list K) (pv 2) (pv 4) (fun _ _ => rfl)) (pe_ix (LK.ix_list K) (pe_ix (LK.ix_list K) (pv 0) (pv 4) (fun _ _ => rfl)) (pv 5) (fun _ _ => rfl))) (pa_cons pe_bl pa_nil))) (pg_tup rfl (pgs_cons (pg_sub (pv 2) (pv 5) set_list) (pgs_cons (pg_name (i := 3) sc__law_roof.nd rfl (Or.inl rfl)) pgs_nil))))) pss_nil))))))))
      (pss_one (ps_ret (pe_callTy (LK.call_tuple_of K) (by rfl) T.tuple (by decide +kernel) (pa_cons (pv 2) pa_nil)))))), ?_⟩
  refine ⟨_, rfl, pr, _, rfl, .inr (st_of hpr), fun l hnl => ⟨_, _, rfl, ?_⟩⟩
  have M0 : Mut H (upd H l (.lst (r.map V.int))) l (r.map vI) := ⟨hnl, Ex.new hnl, is_vIL upd_same⟩
  let W : Nat → L2.St → Hp → Prop := fun m σ' H' => ∃ (f : List Int) (b : Bool) (x4 x5 : Option V), Mut H H' l (f.map vI) ∧ f.length = n ∧ Row06 f ∧ σ' = [some v0, some (.ref pr), some (.ref l), some (.bl b), x4, x5] ∧ m = (2 * (6 * (n : Int) - f.sum) + (if b then 1 else 0)).toNat
  refine q_while W _ ⟨r, true, none, none, M0, hl, h6, rfl, rfl⟩ fun m σ' H' hW => ?_
  obtain ⟨f, b, x4, x5, MM, fl, f6, rfl, hm⟩ := hW
  refine ⟨b, t_test (e_var rfl (show (vB b).is H' _ from rfl)), fun hb H1 e1 => ⟨fun σ2 H2 => ∃ m', m' < m ∧ W m' σ2 H2, fun _ _ h => h, ?_⟩, fun hb H1 e1 => ?_⟩
  · subst hb
    have M1 := MM.mono e1
    refine p_set (P := vB false) e_c fun vb H2 e2 pb => ?_
    obtain rfl : vb = .bl false := pb
    have M2 := M1.mono e2
    have fin : ∀ σ' H', (∃ (f' : List Int) (b' : Bool) (x4 x5 : Option V), Mut H H' l (f'.map vI) ∧ f'.length = n ∧ Row06 f' ∧ σ' = [some v0, some (.ref pr), some (.ref l), some (.bl b'), x4, x5] ∧ f.sum ≤ f'.sum ∧ (b' = true → f.sum < f'.sum)) → ∃ m', m' < m ∧ W m' σ' H' := by
      rintro σ' H' ⟨f', b', x4, x5, M', fl', f6', rfl, s1, s2⟩
      refine ⟨_, ?_, f', b', x4, x5, M', fl', f6', rfl, rfl⟩
      have z1 := sum_le f6
      have z2 := sum_le f6'
      rw [fl] at z1
      rw [fl'] at z2
      subst hm
      cases b' with
      | true =>
        have := s2 rfl
        simp only [if_true]
        omega
      | false =>
        simp only [if_true, Bool.false_eq_true, if_false]
        omega
    refine p_for1 (H0 := H) (n := n) (w_rangeN (a_cons (e_is (e_lenT (e_var rfl p2)) (by simp [hl])) a_nil) (by omega)) M2.ex
      (fun i σ' H' => ∃ (f' : List Int) (b' : Bool) (x4 x5 : Option V), Mut H H' l (f'.map vI) ∧ f'.length = n ∧ Row06 f' ∧ σ' = [some v0, some (.ref pr), some (.ref l), some (.bl b'), x4, x5] ∧ f.sum ≤ f'.sum ∧ (b' = true → f.sum < f'.sum))
      (fun H3 e3 => ⟨f, false, x4, x5, M2.mono e3, fl, f6, rfl, Int.le_refl _, fun z => nomatch z⟩) (fun _ _ _ ⟨_, _, _, _, M, _⟩ => M.ex) ?_ (fun σ' H' h => fin σ' H' h)
    rintro i x σ' H3 H4 hi ⟨f1, b1, x4, x5, MM, fl1, f61, rfl, s1, s2⟩ e4 px
    obtain rfl : x = .int (i : Int) := px
    have M4 := MM.mono e4
    refine p_for1 (H0 := H) (n := n) (w_rangeN (a_cons (e_is (e_lenT (e_var rfl p2)) (by simp [hl])) a_nil) (by omega)) M4.ex
      (fun j σ' H' => ∃ (f' : List Int) (b' : Bool) (x5 : Option V), Mut H H' l (f'.map vI) ∧ f'.length = n ∧ Row06 f' ∧ σ' = [some v0, some (.ref pr), some (.ref l), some (.bl b'), some (.int (i : Int)), x5] ∧ f.sum ≤ f'.sum ∧ (b' = true → f.sum < f'.sum))
      (fun H3 e3 => ⟨f1, b1, x5, M4.mono e3, fl1, f61, rfl, s1, s2⟩) (fun _ _ _ ⟨_, _, _, M, _⟩ => M.ex) ?_ (fun σ' H' ⟨f', b', x5, h1, h2, h3, h4, h5, h6⟩ => ⟨f', b', _, x5, h1, h2, h3, h4, h5, h6⟩)
    rintro j x σ' H5 H6 hj ⟨f2, b2, x5, MM, fl2, f62, rfl, s1, s2⟩ e6 px
    obtain rfl : x = .int (j : Int) := px
    have M6 := MM.mono e6
    have val : ∀ {σ : L2.St} H7, Ex H6 H7 → σ[2]? = some (some (.ref l)) → σ[4]? = some (some (.int (i : Int))) → σ[5]? = some (some (.int (j : Int))) → σ[0]? = some (some v0) → EvP (tOp (rI0 fun i j => .int (i - j)) (tOp (rIxL K) (tVar 2) (tVar 4)) (tOp (rIxL K) (tOp (rIxL K) (tVar 0) (tVar 4)) (tVar 5))) σ H7 (vI (f2.getD i 0 - d i j)) := fun H7 e7 g2 g4 g5 g0 =>
      e_I0 (e_il (e_var g2 (M6.mono e7).is) (e_var g4 (vi _ _)) (by omega)) (e_tab (e_var g0 ((vTab n d).mono (M6.ex.trans e7) p1)) (e_var g4 (vi _ _)) (e_var g5 (vi _ _)) hi hj)
    refine p_if1 (t_test (e_I0 (e_il (e_var rfl M6.is) (e_var rfl (vi _ _)) (by omega)) (val H6 (Ex.refl _) rfl rfl rfl rfl))) (fun hb H7 e7 => ?_) (fun hb H7 e7 => ⟨f2, b2, _, M6.mono e7, fl2, f62, rfl, s1, s2⟩)
    have hlt : f2.getD j 0 < f2.getD i 0 - d i j := of_decide_eq_true hb
    have M7 := M6.mono e7
    refine e_tup (a_cons (val H7 e7 rfl rfl rfl rfl) (a_cons (P := vB true) e_c a_nil)) (by simp) H7 (Ex.refl _) _ fun v H8 e8 pv8 => ?_
    obtain ⟨pp, xs, rfl, hpp, hal⟩ := pv8
    obtain ⟨y1, y2, rfl, q1, q2⟩ := all2 hal
    obtain rfl : y1 = .int _ := q1
    obtain rfl : y2 = .bl true := q2
    have M8 := M7.mono e8
    obtain ⟨pl, epl, hpl⟩ := vIL_is M8.is
    cases epl
    have g1 := f62 _ (getD_mem (r := f2) (k := i) (by omega))
    have g2 := f62 _ (getD_mem (r := f2) (k := j) (by omega))
    have g3 := hd i j hi hj
    refine ⟨pp, _, rfl, st_of hpp, rfl, _, _, rfl, .ref l, rfl, .int (j : Int), rfl, l, _, (j : Int), j, rfl, rfl, hpl, ixN_nat (by simp; omega), _, _, rfl, rfl, f2.set j (f2.getD i 0 - d i j), true, _, ⟨M8.new, Ex.mut M8.ex M8.new, ?_⟩, by simp [fl2], row06_set f62 (by omega), rfl, ?_, fun _ => ?_⟩
    · refine is_vIL ?_
      rw [upd_same, List.map_set]
    · rw [sum_set (by omega)]
      omega
    · rw [sum_set (by omega)]
      omega
  · subst hb
    refine p_ret (P := vSome vRow fun r' => r'.length = n ∧ Row06 r') ?_ fun v H2 e2 => q v H2 ((MM.ex.trans e1).trans e2)
    exact (e_tupleOf (e_var rfl (MM.mono e1).is)).to fun H3 v hv => ⟨f, ⟨fl, f6⟩, hv⟩
end
end Lt
set_option maxHeartbeats 1000000
namespace Lt
open PySem L2 Evl
/-! ### the script's cell: all else stands -/
def rem (H : Hp) (r : Addr) : Hp := fun a => if a = r then none else H a
theorem rem_ne {H : Hp} {r a : Addr} (h : a ≠ r) : rem H r a = H a := if_neg h
theorem rem_eq {H : Hp} {r : Addr} : rem H r r = none := if_pos rfl
def Kp (r : Addr) (H H' : Hp) : Prop := Ex (rem H r) H'
theorem Kp.at {r a : Addr} {H H' : Hp} {o : HO} (k : Kp r H H') (ha : a ≠ r) (h : H a = some o) : H' a = some o := k a o (by rw [rem_ne ha]; exact h)
theorem Kp.of {r : Addr} {H H' : Hp} (k : ∀ a o, a ≠ r → H a = some o → H' a = some o) : Kp r H H' := fun a o h => by
  by_cases e : a = r
  · subst e
    rw [rem_eq] at h
    cases h
  · exact k a o e (by rw [rem_ne e] at h; exact h)
theorem Kp.ex {r : Addr} {H H' : Hp} (e : Ex H H') : Kp r H H' := .of fun a o _ h => e a o h
theorem Kp.trans {r : Addr} {H H1 H2 : Hp} (k : Kp r H H1) (k2 : Kp r H1 H2) : Kp r H H2 := .of fun a o ha h => k2.at ha (k.at ha h)
theorem Kp.upd (r : Addr) (H : Hp) (o : HO) : Kp r H (upd H r o) := .of fun a u ha h => by
  rw [upd_ne ha]
  exact h
structure Cel (K : PySem.W.Frag) (H : Hp) (r s : Addr) (ns : List Int) : Prop where
  sq : SqL K (rem H r) s (ns.map V.int)
  at_ : ∃ a b c : Int, 0 ≤ a ∧ H r = some (.lst [.ref s, .int a, .int b, .int c])
theorem Kp.rem {r : Addr} {H H' : Hp} (k : Kp r H H') : Ex (rem H r) (rem H' r) := fun a o h => by
  by_cases e : a = r
  · subst e
    rw [rem_eq] at h
    cases h
  · rw [rem_ne e]
    exact k a o h
theorem Cel.kp {K : PySem.W.Frag} {H H' : Hp} {r s : Addr} {ns : List Int} (c : Cel K H r s ns) (k : Kp r H H') (h : ∃ a b c : Int, 0 ≤ a ∧ H' r = some (.lst [.ref s, .int a, .int b, .int c])) : Cel K H' r s ns := ⟨ex_l k.rem c.sq, h⟩
theorem Cel.mono {K : PySem.W.Frag} {H H' : Hp} {r s : Addr} {ns : List Int} (c : Cel K H r s ns) (e : Ex H H') : Cel K H' r s ns := c.kp (.ex e) (by
  obtain ⟨a, b, d, h, g⟩ := c.at_
  exact ⟨a, b, d, h, e _ _ g⟩)
theorem Cel.ne {K : PySem.W.Frag} {H : Hp} {r s p : Addr} {ns : List Int} (c : Cel K H r s ns) (h : H p = none) : p ≠ r := by
  obtain ⟨_, _, _, _, g⟩ := c.at_
  intro e
  rw [e, g] at h
  cases h
def StC (O : VP) : Prop := ∀ (H : Hp) (r s : Addr) (a b c : Int) (ys : List V) (v : V), H r = some (.lst [.ref s, .int a, .int b, .int c]) → O.is H v → O.is (upd H r (.lst ys)) v
theorem Stb.c {O : VP} (h : Stb O) : StC O := fun H r s a b c ys v hr => h H r _ ys v hr
theorem StC.go {K : PySem.W.Frag} {O : VP} {H H' : Hp} {r s : Addr} {ns : List Int} {v : V} (h : StC O) (c : Cel K H r s ns) (c' : Cel K H' r s ns) (k : Kp r H H') (hv : O.is H v) : O.is H' v := by
  obtain ⟨x, y, z, _, g⟩ := c.at_
  obtain ⟨x', y', z', _, g'⟩ := c'.at_
  refine O.mono ?_ (h H r s x y z [.ref s, .int x', .int y', .int z'] v g hv)
  intro a o ha
  by_cases e : a = r
  · subst e
    rw [upd_same] at ha
    rw [g']
    exact ha
  · rw [upd_ne e] at ha
    exact k.at e ha
theorem stc_tab {n : Nat} (hn : 1 ≤ n) (d : Nat → Nat → Int) : StC (vTab n d) := by
  rintro H r s a b c ys v hr ⟨p, xs, rfl, hp, hall⟩
  have hpr : p ≠ r := by
    rintro rfl
    rw [hr] at hp
    cases hp
    obtain ⟨P, hP, hPi⟩ := paired_getB hall (i := 1) (b := .int a) rfl
    have hP' : P ∈ (List.range n).map fun i => vIL ((List.range n).map fun j => d i j) := List.mem_of_getElem? hP
    obtain ⟨i, _, rfl⟩ := List.mem_map.mp hP'
    obtain ⟨q, e, _⟩ := vIL_is hPi
    cases e
  refine ⟨p, xs, rfl, by rw [upd_ne hpr]; exact hp, ?_⟩
  have key : ∀ {Ps : List VP} {xs : List V}, (∀ P ∈ Ps, ∃ f : List Int, f ≠ [] ∧ P = vIL f) → All H Ps xs → All (upd H r (.lst ys)) Ps xs := by
    intro Ps xs hP hall
    induction hall with
    | nil => exact .nil
    | cons r' t ih =>
      refine .cons ?_ (ih fun P h => hP P (List.mem_cons_of_mem _ h))
      obtain ⟨f, hf, rfl⟩ := hP _ List.mem_cons_self
      obtain ⟨q, rfl, hq⟩ := vIL_is r'
      have hqr : q ≠ r := by
        rintro rfl
        rw [hr] at hq
        cases f with
        | nil => exact hf rfl
        | cons y f => cases hq
      refine is_vIL ?_
      rw [upd_ne hqr]
      exact hq
  refine key (fun P hP => ?_) hall
  obtain ⟨i, _, rfl⟩ := List.mem_map.mp hP
  refine ⟨_, ?_, rfl⟩
  intro e
  have := congrArg List.length e
  simp at this
  omega
/-! ### promises of what draws -/
def spTaken (K : PySem.W.Frag) : Sp := fun vs H Q _ => ∃ (r s : Addr) (ns : List Int) (m : Int), Cel K H r s ns ∧ vs = [.ref r, .int m] ∧ (1 ≤ m ∧ m ≤ 1000) ∧ ∀ (v : Int) H', Cel K H' r s ns → Kp r H H' → 0 ≤ v → v < m → Q (.int v) H'
def spPick (K : PySem.W.Frag) : Sp := fun vs H Q _ => ∃ (r s t : Addr) (ns : List Int), Cel K H r s ns ∧ vs = [.ref r, .ref t] ∧ t ≠ r ∧ H t = some (.lst [.int 1, .int 2, .int 4]) ∧ ∀ (v : Int) H', Cel K H' r s ns → Kp r H H' → 1 ≤ v → v ≤ 4 → Q (.int v) H'
def spHeights (K : PySem.W.Frag) : Sp := fun vs H Q _ => ∃ (r s : Addr) (ns : List Int) (n : Nat) (m : Int), Cel K H r s ns ∧ vs = [.ref r, .int (n : Int), .int m] ∧ n ≤ 4 ∧ (0 ≤ m ∧ m ≤ 100) ∧ ∀ v H' (f : List Int), Cel K H' r s ns → Kp r H H' → f.length = n → (∀ x ∈ f, 0 ≤ x ∧ x ≤ m) → (vRow f).is H' v → Q v H'
section
variable {K : PySem.W.Frag} {σ : L2.St} {H : Hp} {ta tb te : TE} {P2 P0 : VP}
theorem EvP.toH (h : EvP te σ H P0) (k : ∀ H1 v, Ex H H1 → P0.is H1 v → P2.is H1 v) : EvP te σ H P2 := fun H1 a Q q => h H1 a Q fun v H2 e p => q v H2 e (k H2 v (a.trans e) p)
theorem e_lenV {ns : List Int} (ha : EvP ta σ H (vS K ns)) : EvP (tCB (fun xs H Q => ∃ p ys, xs = [.ref p] ∧ (SqL K H p ys ∨ SqT K H p ys) ∧ Q (.int ys.length) H) (tCons ta tNil)) σ H (vI (ns.length : Int)) :=
  e_cb (a_cons ha a_nil) fun vs H1 _ ps Q q => by
    obtain ⟨v, rfl, p, rfl, hp⟩ := all1 ps
    exact ⟨p, _, rfl, .inl hp, q _ H1 (Ex.refl H1) (by show V.int _ = V.int _; rw [List.length_map])⟩
theorem e_ixV {ns : List Int} {k : Nat} (ha : EvP ta σ H (vS K ns)) (hb : EvP tb σ H (vI (k : Int))) (h : k < ns.length) : EvP (tOp (rIxL K) ta tb) σ H (vI (ns.getD k 0)) :=
  e_op ha hb fun x y H1 _ px py Q q => by
    obtain ⟨p, rfl, hp⟩ := px
    obtain rfl : y = .int (k : Int) := py
    refine ⟨p, _, (k : Int), .int (ns.getD k 0), rfl, rfl, hp, atI_nat ?_, q _ H1 (Ex.refl H1) rfl⟩
    rw [List.getElem?_map, List.getElem?_eq_getElem h, List.getD_eq_getElem?_getD, List.getElem?_eq_getElem h] <;> rfl
theorem p_when {D : Ends} {tu tz : TS} {t : TT} {b : Bool} (h : EvT t σ H b) (h1 : b = true → ∀ H1, Ex H H1 → tu { D with nx := tz D } σ H1) (h2 : b = false → ∀ H1, Ex H H1 → tz D σ H1) : tSeq (tIfS t tu tNext) tz D σ H := p_if h h1 h2
theorem p_cset {D : Ends} {tz : TS} {l : Addr} {xs : List V} {i : Nat} {jI : Int} (j : Nat) (x : Int) (hl : H l = some (.lst xs)) (hv : σ[i]? = some (some (.ref l))) (h : EvP te σ H (vI x)) (hj : ixN xs.length jI = some j) (k : ∀ H1, Ex H H1 → tz D σ (upd H1 l (.lst (xs.set j (.int x))))) :
    tSeq (tAsg te (gSub (tVar i) (tC (.int jI)) rSetL)) tz D σ H := h H (Ex.refl H) _ fun v H1 e pv => by
  obtain rfl : v = .int x := pv
  exact ⟨.ref l, hv, l, xs, jI, j, rfl, rfl, e _ _ hl, hj, k H1 e⟩
theorem p_cset1 {D : Ends} {l : Addr} {xs : List V} {i : Nat} {jI : Int} (j : Nat) (x : Int) (hl : H l = some (.lst xs)) (hv : σ[i]? = some (some (.ref l))) (h : EvP te σ H (vI x)) (hj : ixN xs.length jI = some j) (k : ∀ H1, Ex H H1 → D.nx σ (upd H1 l (.lst (xs.set j (.int x))))) :
    tAsg te (gSub (tVar i) (tC (.int jI)) rSetL) D σ H := h H (Ex.refl H) _ fun v H1 e pv => by
  obtain rfl : v = .int x := pv
  exact ⟨.ref l, hv, l, xs, jI, j, rfl, rfl, e _ _ hl, hj, k H1 e⟩
theorem call_taken {r s : Addr} {ns : List Int} {i : Nat} {m : Int} {E : XK} {Q : VK} (c : Cel K H r s ns) (hσ : σ[i]? = some (some (.ref r))) (hm : EvP te σ H (vI m)) (h1 : 1 ≤ m ∧ m ≤ 1000) (k : ∀ (v : Int) H', Cel K H' r s ns → Kp r H H' → 0 ≤ v → v < m → Q (.int v) H') :
    tCall (spTaken K) [] E (tCons (tVar i) (tCons te tNil)) σ H Q := ⟨_, hσ, hm H (Ex.refl H) _ fun v H1 e pv => by
  obtain rfl : v = .int m := pv
  exact ⟨r, s, ns, m, c.mono e, rfl, h1, fun v H' c' k' => k v H' c' ((Kp.ex e).trans k')⟩⟩
end
theorem ex_rem (H : Hp) (r : Addr) : Ex (rem H r) H := fun a o h => by
  by_cases z : a = r
  · subst z
    rw [rem_eq] at h
    cases h
  · rw [rem_ne z] at h
    exact h
theorem Kp.mut {r p : Addr} {H H' : Hp} {o : HO} (k : Kp r H H') (h : H p = none) : Kp r H (L2.upd H' p o) := .of fun a u ha hu => by
  rw [upd_ne (ne_of_none hu h)]
  exact k.at ha hu
theorem ret_lc {D : Ends} {wi : TI} {g : TG} {tt : TT} {te : TE} {vs : List Nat} {σ : L2.St} {H : Hp} {rr : List V → Hp → VK → Prop} (h : tLc wi g tt te vs σ H fun x H1 => rr [x] H1 D.rt) : tRet (tCB rr (tCons (tLc wi g tt te vs) tNil)) D σ H := h
/-- a comprehension that draws -/
theorem lc_draw {K : PySem.W.Frag} {σ : L2.St} {H : Hp} {te : TE} {wi : TI} {n j : Nat} {I : Nat → VP} {vs : List Nat} {r s : Addr} {ns : List Int} {B : Int → Prop} {Q : VK} (ce : Cel K H r s ns) (hI : EvW wi σ (rem H r) n I) (hn : n ≤ 40000) (hw : ∀ x, wipe ((wipe σ vs).set j (some x)) vs = wipe σ vs)
    (he : ∀ i x H4, i < n → Cel K H4 r s ns → (I i).is H4 x → ∀ Q' : VK, (∀ (v : Int) H5, Cel K H5 r s ns → Kp r H4 H5 → B v → Q' (.int v) H5) → te ((wipe σ vs).set j (some x)) H4 Q')
    (k : ∀ p H' (f : List Int), Cel K H' r s ns → Kp r H H' → H' p = some (.lst (f.map V.int)) → f.length = n → (∀ x ∈ f, B x) → Q (.ref p) H') : tLc wi (gName j) tYes te vs σ H Q := by
  refine hI H (ex_rem H r) _ fun J H1 G e1 hG hW => ?_
  intro Dl hD
  have ce1 := ce.mono e1
  have nD := ce1.ne hD
  have nH := fresh_back e1 hD
  refine lc_it hW (Pv := fun i H' => Kp r H H' ∧ Cel K H' r s ns ∧ ∃ f : List Int, H' Dl = some (.lst (f.map V.int)) ∧ f.length = i ∧ ∀ x ∈ f, B x) ?_ ?_ ?_ ?_
  · exact ⟨.ex (e1.trans (Ex.new hD)), ce1.mono (Ex.new hD), [], upd_same, rfl, fun x hx => by simp at hx⟩
  · exact fun i H' _ p => hG H' p.1
  · rintro i x H3 H4 hi ⟨p1, p2, f, p3, p4, p5⟩ ⟨y1, y2⟩
    refine ⟨hw x, he i x H4 hi (p2.mono y1) y2 _ fun v H5 c5 k5 hv => ⟨f.map V.int, k5.at nD (y1 _ _ p3), by rw [List.length_map]; exact sz_lt (by omega), ?_⟩⟩
    have kk : Kp r H (upd H5 Dl (.lst (f.map V.int ++ [.int v]))) := (p1.trans ((Kp.ex y1).trans k5)).mut nH
    obtain ⟨a, b, c, h1, h2⟩ := c5.at_
    refine ⟨kk, ce.kp kk ⟨a, b, c, h1, by rw [upd_ne (Ne.symm nD)]; exact h2⟩, f ++ [v], ?_, by simp [p4], fun y hy => ?_⟩
    · rw [upd_same, List.map_append] <;> rfl
    · rcases List.mem_append.mp hy with hy | hy
      · exact p5 y hy
      · rw [List.mem_singleton.mp hy]
        exact hv
  · rintro H' ⟨p1, p2, f, p3, p4, p5⟩
    exact k Dl H' f p2 p1 p3 p4 p5
theorem cell_is {H : Hp} {r s : Addr} {a b c : Int} (h : H r = some (.lst [.ref s, .int a, .int b, .int c])) : (vL [vV (.ref s), vI a, vI b, vI c]).is H (.ref r) := ⟨r, _, rfl, h, .cons rfl (.cons rfl (.cons rfl (.cons rfl .nil)))⟩
theorem fmod_in {i m : Int} (h : 1 ≤ m) : 0 ≤ i.fmod m ∧ i.fmod m < m := by
  rw [Int.fmod_eq_emod_of_nonneg i (by omega)]
  exact ⟨Int.emod_nonneg _ (by omega), Int.emod_lt_of_pos _ (by omega)⟩
section
variable {P : Program} {w : World} {K : PySem.W.Frag} {mg : Str → Option Value} {base : Heap} {C : Addr}
theorem ok__law_taken (T : Txt K mg C) (F__law_taken : Fd K mg "_law_taken" s__law_taken p__law_taken) : FnOk P w K mg base CX0 1 F__law_taken.f F__law_taken.fd p__law_taken (spTaken K) := by
  refine F__law_taken.F.ok sc__law_taken (fun vs H Q E ⟨_, _, _, _, _, e, _⟩ => by subst e; rfl) (fun cdv A outer s H vs Q E hr h => ?_)
  obtain ⟨r, sc, ns, m, ce, rfl, ⟨hm1, hm2⟩, q⟩ := h
  have vi : ∀ (i : Int) H, (vI i).is H (.int i) := fun _ _ => rfl
  obtain ⟨a, b, c, ha, hr0⟩ := ce.at_
  refine ⟨_, (pss_cons (ps_if (pt_cmpR op_gt (pe_ix (LK.ix_list K) (pv 0) pe_int (fun _ _ => rfl)) pe_int (nomark _)) (pss_cons (ps_set (i := 2) sc__law_taken.nd rfl (Or.inl rfl) (pe_op op_modN (pe_callTy call_int1 (by rfl) T.int (by decide +kernel) (pa_cons (pe_ix (LK.ix_list K) (pv 0) pe_int (fun _ _ => rfl)) pa_nil)) (pv 1)))
      (pss_cons (ps_asg (pe_op op_fdivN (pe_ix (LK.ix_list K) (pv 0) pe_int (fun _ _ => rfl)) (pv 1)) (pg_sub (pv 0) pe_int set_list))
      (pss_one (ps_ret (pv 2))))) pss_nil)
      (pss_cons (ps_asg (pe_op op_add (pe_ix (LK.ix_list K) (pv 0) pe_int (fun _ _ => rfl)) pe_int) (pg_sub (pv 0) pe_int set_list))
      (pss_cons (ps_if (pt_cmpR op_gt (pe_ix (LK.ix_list K) (pv 0) pe_int (fun _ _ => rfl)) (pe_callB (LK.call_len_seq K) (by rfl) T.len (by decide +kernel) (pa_cons (pe_ix (LK.ix_list K) (pv 0) pe_int (fun _ _ => rfl)) pa_nil)) (nomark _)) (pss_cons (ps_asg (pe_op op_modN (pe_callTy call_int1 (by rfl) T.int (by decide +kernel) (pa_cons (pe_op op_add (pe_op op_mul (pe_ix (LK.ix_list K) (pv 0) pe_int (fun _ _ => rfl)) pe_int) pe_int) pa_nil)) pe_int) (pg_sub (pv 0) pe_int set_list))
      (pss_one (ps_ret (pe_op op_modN (pe_callTy call_int1 (by rfl) T.int (by decide +kernel) (pa_cons (pe_op op_fdivN (pe_ix (LK.ix_list K) (pv 0) pe_int (fun _ _ => rfl)) pe_int) pa_nil)) (pv 1))))) pss_nil)
      (pss_cons (ps_set (i := 3) sc__law_taken.nd rfl (Or.inl rfl) (pe_ix (LK.ix_list K) (pe_ix (LK.ix_list K) (pv 0) pe_int (fun _ _ => rfl)) (pe_op op_sub (pe_ix (LK.ix_list K) (pv 0) pe_int (fun _ _ => rfl)) pe_int) (fun _ _ => rfl)))
      (pss_cons (ps_asg (pe_op op_modN (pe_callTy call_int1 (by rfl) T.int (by decide +kernel) (pa_cons (pe_op op_add (pe_op op_add (pe_op op_mul (pe_ix (LK.ix_list K) (pv 0) pe_int (fun _ _ => rfl)) pe_int) (pv 3)) pe_int) pa_nil)) pe_int) (pg_sub (pv 0) pe_int set_list))
      (pss_cons (ps_if (pt_cmpR op_ge (pv 3) (pe_op op_pow pe_int pe_int) (nomark _)) (pss_one (ps_asg (pe_op op_fdivN (pv 3) (pv 1)) (pg_sub (pv 0) pe_int set_list))) pss_nil)
      (pss_one (ps_ret (pe_op op_modN (pe_callTy call_int1 (by rfl) T.int (by decide +kernel) (pa_cons (pv 3) pa_nil)) (pv 1)))))))))), ?_⟩
  refine p_when (t_test (e_I0 (e_ixL (k := 3) (e_var rfl (cell_is hr0)) e_c rfl) e_c)) (fun hb H1 e1 => ?_) (fun hb H1 e1 => ?_)
  · refine p_set (e_I (e_int (e_ixL (k := 3) (e_var rfl (cell_is (e1 _ _ hr0))) e_c rfl)) (e_var rfl (vi _ _)) (show m ≠ 0 by omega)) fun v H2 e2 p2 => ?_
    obtain rfl : v = .int (c.fmod m) := p2
    have hr2 := (e1.trans e2) _ _ hr0
    refine p_cset 3 (c.fdiv m) hr2 rfl (by exact e_I (e_ixL (k := 3) (e_var rfl (cell_is hr2)) e_c rfl) (e_var rfl (vi _ _)) (show CDivN c m from ⟨by omega, by omega⟩)) rfl fun H3 e3 => ?_
    refine p_ret (e_var rfl (vi _ _)) fun v H4 e4 p4 => ?_
    obtain rfl : v = .int (c.fmod m) := p4
    have kk : Kp r H H4 := (Kp.ex ((e1.trans e2).trans e3)).trans ((Kp.upd r H3 _).trans (.ex e4))
    exact q _ H4 (ce.kp kk ⟨a, b, _, ha, e4 _ _ upd_same⟩) kk (fmod_in hm1).1 (fmod_in hm1).2
  · have hr1 := e1 _ _ hr0
    refine p_cset 1 (a + 1) hr1 rfl (by exact e_I0 (e_ixL (k := 1) (e_var rfl (cell_is hr1)) e_c rfl) e_c) rfl fun H2 e2 => ?_
    have kk2 : Kp r H (upd H2 r (.lst [.ref sc, .int (a + 1), .int b, .int c])) := (Kp.ex (e1.trans e2)).trans (Kp.upd r H2 _)
    have hr2 : (upd H2 r (.lst [.ref sc, .int (a + 1), .int b, .int c])) r = some (.lst [.ref sc, .int (a + 1), .int b, .int c]) := upd_same
    show tSeq _ _ _ _ (upd H2 r (.lst [.ref sc, .int (a + 1), .int b, .int c]))
    generalize upd H2 r (.lst [.ref sc, .int (a + 1), .int b, .int c]) = H3 at *
    have ce3 : Cel K H3 r sc ns := ce.kp kk2 ⟨_, _, _, by omega, hr2⟩
    have sv : ∀ {H4 : Hp} {v : V}, Ex H3 H4 → (vV (.ref sc)).is H4 v → (vS K ns).is H4 v := fun {H4 v} e h => by
      obtain rfl : v = .ref sc := h
      exact ⟨sc, rfl, ex_l (Ex.trans (show Ex (rem H3 r) H3 from (fun a o h => by
        by_cases z : a = r
        · subst z
          rw [rem_eq] at h
          cases h
        · rw [rem_ne z] at h
          exact h)) e) ce3.sq⟩
    refine p_when (t_test (e_I0 (e_ixL (k := 1) (e_var rfl (cell_is hr2)) e_c rfl) (e_lenV (EvP.toH (e_ixL (k := 0) (e_var rfl (cell_is hr2)) e_c rfl) fun H4 v e h => sv e h)))) (fun hb H4 e4 => ?_) (fun hb H4 e4 => ?_)
    · have hr4 := e4 _ _ hr2
      refine p_cset 2 ((b * 48271 + 11).fmod 2147483647) hr4 rfl (by exact e_I (e_int (e_I0 (e_I (e_ixL (k := 2) (e_var rfl (cell_is hr4)) e_c rfl) e_c (.inr (by constructor <;> decide))) e_c)) e_c (by decide)) rfl fun H5 e5 => ?_
      have kk5 : Kp r H (upd H5 r (.lst [.ref sc, .int (a + 1), .int ((b * 48271 + 11).fmod 2147483647), .int c])) := kk2.trans ((Kp.ex (e4.trans e5)).trans (Kp.upd r H5 _))
      have hr5 : (upd H5 r (.lst [.ref sc, .int (a + 1), .int ((b * 48271 + 11).fmod 2147483647), .int c])) r = some (.lst [.ref sc, .int (a + 1), .int ((b * 48271 + 11).fmod 2147483647), .int c]) := upd_same
      refine p_ret (e_I (e_int (e_I (e_ixL (k := 2) (e_var rfl (cell_is hr5)) e_c rfl) e_c (show CDivN _ 7 from ⟨by decide, by decide⟩))) (e_var rfl (vi _ _)) (show m ≠ 0 by omega)) fun v H6 e6 p6 => ?_
      obtain rfl : v = .int _ := p6
      exact q _ H6 (ce.kp (kk5.trans (.ex e6)) ⟨_, _, _, by omega, e6 _ _ hr5⟩) (kk5.trans (.ex e6)) (fmod_in hm1).1 (fmod_in hm1).2
    · have hr4 := e4 _ _ hr2
      have hle : a + 1 ≤ ns.length := by
        have := of_decide_eq_false hb
        omega
      have ea : ((a.toNat : Nat) : Int) = a := by omega
      refine p_set (e_ixV (k := a.toNat) (EvP.toH (e_ixL (k := 0) (e_var rfl (cell_is hr4)) e_c rfl) fun H5 v e h => sv (e4.trans e) h) (e_is (e_I0 (e_ixL (k := 1) (e_var rfl (cell_is hr4)) e_c rfl) e_c) (by omega)) (by omega)) fun v H5 e5 p5 => ?_
      obtain rfl : v = .int _ := p5
      generalize ns.getD a.toNat 0 = z at *
      have hr5 := e5 _ _ hr4
      refine p_cset 2 ((b * 48271 + z + 11).fmod 2147483647) hr5 rfl (by exact e_I (e_int (e_I0 (e_I0 (e_I (e_ixL (k := 2) (e_var rfl (cell_is hr5)) e_c rfl) e_c (.inr (by constructor <;> decide))) (e_var rfl (vi _ _))) e_c)) e_c (by decide)) rfl fun H6 e6 => ?_
      show tSeq _ _ _ _ (upd H6 r (.lst [.ref sc, .int (a + 1), .int ((b * 48271 + z + 11).fmod 2147483647), .int c]))
      have kk6 : Kp r H (upd H6 r (.lst [.ref sc, .int (a + 1), .int ((b * 48271 + z + 11).fmod 2147483647), .int c])) := kk2.trans ((Kp.ex (e4.trans (e5.trans e6))).trans (Kp.upd r H6 _))
      have hr6 : (upd H6 r (.lst [.ref sc, .int (a + 1), .int ((b * 48271 + z + 11).fmod 2147483647), .int c])) r = some (.lst [.ref sc, .int (a + 1), .int ((b * 48271 + z + 11).fmod 2147483647), .int c]) := upd_same
      generalize (b * 48271 + z + 11).fmod 2147483647 = b' at *
      generalize upd H6 r (.lst [.ref sc, .int (a + 1), .int b', .int c]) = H7 at *
      have fin : ∀ H8, Kp r H H8 → (∃ a b c : Int, 0 ≤ a ∧ H8 r = some (.lst [.ref sc, .int a, .int b, .int c])) → ∀ v : V, v = .int (z.fmod m) → Q v H8 := fun H8 k8 h8 v ev => by
        subst ev
        exact q _ H8 (ce.kp k8 h8) k8 (fmod_in hm1).1 (fmod_in hm1).2
      refine p_when (t_test (e_I0 (e_var rfl (vi _ _)) (e_I e_c e_c (show CPow 10 18 from ⟨by decide, by decide, by decide⟩)))) (fun hb H8 e8 => ?_) (fun hb H8 e8 => ?_)
      · refine p_cset1 3 (z.fdiv m) (e8 _ _ hr6) rfl (by exact e_I (e_var rfl (vi _ _)) (e_var rfl (vi _ _)) (show CDivN z m from ⟨by omega, by omega⟩)) rfl fun H9 e9 => ?_
        dsimp only
        refine p_ret (e_I (e_int (e_var rfl (vi _ _))) (e_var rfl (vi _ _)) (show m ≠ 0 by omega)) fun v H10 e10 p10 => ?_
        exact fin H10 (kk6.trans ((Kp.ex (e8.trans e9)).trans ((Kp.upd r H9 _).trans (.ex e10)))) ⟨_, _, _, by omega, e10 _ _ upd_same⟩ v p10
      · refine p_ret (e_I (e_int (e_var rfl (vi _ _))) (e_var rfl (vi _ _)) (show m ≠ 0 by omega)) fun v H10 e10 p10 => ?_
        exact fin H10 (kk6.trans (.ex (e8.trans e10))) ⟨_, _, _, by omega, (e8.trans e10) _ _ hr6⟩ v p10
theorem ok__law_pick (T : Txt K mg C) (F__law_pick : Fd K mg "_law_pick" s__law_pick p__law_pick) (F__law_taken : Fd K mg "_law_taken" s__law_taken p__law_taken) (ok__law_taken : FnOk P w K mg base CX0 1 F__law_taken.f F__law_taken.fd p__law_taken (spTaken K)) : FnOk P w K mg base CX0 2 F__law_pick.f F__law_pick.fd p__law_pick (spPick K) := by
  refine F__law_pick.F.ok sc__law_pick (fun vs H Q E ⟨_, _, _, _, _, e, _⟩ => by subst e; rfl) (fun cdv A outer s H vs Q E hr h => ?_)
  obtain ⟨r, sc, t, ns, ce, rfl, htr, ht, q⟩ := h
  refine ⟨_, (pss_one (ps_ret (pe_ix (LK.ix_list K) (pv 1) (pe_call ok__law_taken (hr.mono (by decide)) (by rfl) F__law_taken.g F__law_taken.F.kp F__law_taken.b .nil pass0 (pa_cons (pv 0) (pa_cons (pe_callB (LK.call_len_seq K) (by rfl) T.len (by decide +kernel) (pa_cons (pv 1) pa_nil)) pa_nil))) (fun _ _ => rfl)))), ?_⟩
  refine ⟨_, rfl, call_taken (m := 3) ce rfl (e_lenL (Ps := [vI 1, vI 2, vI 4]) (e_var rfl ⟨t, _, rfl, ht, .cons rfl (.cons rfl (.cons rfl .nil))⟩)) (by omega) fun v H' c' k' h0 h3 => ?_⟩
  have ht' := k'.at htr ht
  have hv : v = 0 ∨ v = 1 ∨ v = 2 := by omega
  rcases hv with rfl | rfl | rfl
  · exact ⟨t, _, 0, .int 1, rfl, rfl, sq_of ht', rfl, q 1 H' c' k' (by decide) (by decide)⟩
  · exact ⟨t, _, 1, .int 2, rfl, rfl, sq_of ht', rfl, q 2 H' c' k' (by decide) (by decide)⟩
  · exact ⟨t, _, 2, .int 4, rfl, rfl, sq_of ht', rfl, q 4 H' c' k' (by decide) (by decide)⟩
theorem ok__law_heights (T : Txt K mg C) (F__law_heights : Fd K mg "_law_heights" s__law_heights p__law_heights) (F__law_taken : Fd K mg "_law_taken" s__law_taken p__law_taken) (ok__law_taken : FnOk P w K mg base CX0 1 F__law_taken.f F__law_taken.fd p__law_taken (spTaken K)) : FnOk P w K mg base CX0 2 F__law_heights.f F__law_heights.fd p__law_heights (spHeights K) := by
  refine F__law_heights.F.ok sc__law_heights (fun vs H Q E ⟨_, _, _, _, _, _, e, _⟩ => by subst e; rfl) (fun cdv A outer s H vs Q E hr h => ?_)
  obtain ⟨r, sc, ns, n, m, ce, rfl, hn, hm, q⟩ := h
  have vi : ∀ (i : Int) H, (vI i).is H (.int i) := fun _ _ => rfl
  refine ⟨_, (pss_one (ps_ret (pe_callTy (LK.call_tuple_of K) (by rfl) T.tuple (by decide +kernel) (pa_cons (pe_lc (own := [("_law_place", 3)]) (g := (gName 3)) rfl sc__law_heights.nd (pi_range1 rfl T.range (pa_cons (pv 1) pa_nil)) (blkOk_by (own := [("_law_place", 3)]) (N := n__law_heights) (sc := defScope s__law_heights) (by decide +kernel)) (fun _ _ _ _ _ => (pg_name (i := 3) sc__law_heights.nd rfl (Or.inl rfl))) (fun _ _ _ _ _ => pts_nil) (fun _ _ _ _ _ => (pe_call ok__law_taken (hr.mono (by decide)) (by rfl) F__law_taken.g F__law_taken.F.kp F__law_taken.b .nil pass0 (pa_cons (pv 0) (pa_cons (pe_op op_add (pv 2) pe_int) pa_nil))))) pa_nil)))), ?_⟩
  refine ret_lc (lc_draw (B := fun x => 0 ≤ x ∧ x ≤ m) ce (w_rangeN (n := n) (a_cons (e_var rfl (vi _ _)) a_nil) (by omega)) (by omega) (fun _ => rfl) (fun i x H4 hi c4 px Q' k' => ?_) fun p H' f c' k' hp hl hb => ?_)
  · exact call_taken c4 rfl (e_I0 (e_var rfl (vi _ _)) e_c) (by omega) fun v H5 c5 k5 h0 h1 => k' v H5 c5 k5 ⟨h0, by omega⟩
  · exact ⟨p, _, rfl, .inl ⟨sq_of hp, fun l hl' => q _ _ f (c'.mono (Ex.new hl')) (k'.trans (.ex (Ex.new hl'))) hl hb (is_vRow upd_same)⟩⟩
end
end Lt
set_option maxHeartbeats 1000000
namespace Lt
open PySem L2 Evl
/-! ### the net that is drawn -/
abbrev ky (a b : Nat) : List Key := [.inl (a : Int), .inl (b : Int)]
structure KOk (n c m : Nat) (kvs : List (List Key × V)) : Prop where
  keys : ∀ k ∈ kvs.map (·.1), ∃ a b : Nat, k = ky a b ∧ a < b ∧ b < n
  nodup : (kvs.map (·.1)).Nodup
  vals : ∀ k ∈ kvs.map (·.1), ∃ l : Int, 1 ≤ l ∧ l ≤ 9 ∧ valV kvs k = some (.int l)
  len : kvs.length ≤ c
  span : ∀ j, 1 ≤ j → j < m → ∃ a : Nat, ky a j ∈ kvs.map (·.1)
theorem putK_keys (kvs : List (List Key × V)) (k : List Key) (v : V) : (k ∈ kvs.map (·.1) → (putK kvs k v).map (·.1) = kvs.map (·.1)) ∧ (¬ k ∈ kvs.map (·.1) → (putK kvs k v).map (·.1) = kvs.map (·.1) ++ [k]) := by
  unfold putK
  have e : ((kvs.any fun kv => decide (kv.1 = k)) = true) ↔ k ∈ kvs.map (·.1) := by
    rw [List.any_eq_true, List.mem_map]
    constructor
    · rintro ⟨x, hx, h⟩
      exact ⟨x, hx, of_decide_eq_true h⟩
    · rintro ⟨x, hx, h⟩
      exact ⟨x, hx, decide_eq_true h⟩
  constructor
  · intro h
    rw [if_pos (e.mpr h), List.map_map]
    apply List.map_congr_left
    intro x _
    show (if x.1 = k then (x.1, v) else x).1 = x.1
    by_cases z : x.1 = k
    · rw [if_pos z]
    · rw [if_neg z]
  · intro h
    rw [if_neg fun z => h (e.mp z), List.map_append] <;> rfl
theorem KOk.put {n c m m' a b : Nat} {l : Int} {kvs : List (List Key × V)} (h : KOk n c m kvs) (ha : a < b) (hb : b < n) (hl : 1 ≤ l ∧ l ≤ 9) (hm : ∀ j, j < m' → j < m ∨ j = b) : KOk n (c + 1) m' (putK kvs (ky a b) (.int l)) := by
  obtain ⟨ek1, ek2⟩ := putK_keys kvs (ky a b) (.int l)
  have mem : ∀ k, k ∈ (putK kvs (ky a b) (.int l)).map (·.1) ↔ (k ∈ kvs.map (·.1) ∨ k = ky a b) := fun k => by
    by_cases z : ky a b ∈ kvs.map (·.1)
    · rw [ek1 z]
      exact ⟨.inl, fun q => q.elim id fun e => e ▸ z⟩
    · rw [ek2 z, List.mem_append, List.mem_singleton]
  refine ⟨fun k hk => ?_, ?_, fun k hk => ?_, ?_, fun j h1 h2 => ?_⟩
  · rcases (mem k).mp hk with hk | rfl
    · exact h.keys k hk
    · exact ⟨a, b, rfl, ha, hb⟩
  · by_cases z : ky a b ∈ kvs.map (·.1)
    · rw [ek1 z]
      exact h.nodup
    · rw [ek2 z, List.nodup_append]
      refine ⟨h.nodup, by simp, fun x hx y hy e => z ?_⟩
      rw [← List.mem_singleton.mp hy, ← e]
      exact hx
  · rw [valV_put]
    by_cases z : k = ky a b
    · rw [if_pos z]
      exact ⟨l, hl.1, hl.2, rfl⟩
    · rw [if_neg z]
      exact h.vals k (((mem k).mp hk).elim id fun e => absurd e z)
  · have := h.len
    by_cases z : ky a b ∈ kvs.map (·.1)
    · have e := congrArg List.length (ek1 z)
      rw [List.length_map, List.length_map] at e
      omega
    · have e := congrArg List.length (ek2 z)
      rw [List.length_map, List.length_append, List.length_map, List.length_singleton] at e
      omega
  · rcases hm j h2 with h3 | rfl
    · obtain ⟨x, hx⟩ := h.span j h1 h3
      exact ⟨x, (mem _).mpr (.inl hx)⟩
    · exact ⟨a, (mem _).mpr (.inr rfl)⟩
theorem ky_map {ks : List (List Int)} {kvs : List (List Key × V)} {n c m : Nat} (h : KOk n c m kvs) (hk : ∀ k ∈ ks, k.map Sum.inl ∈ kvs.map (·.1)) :
    ∃ rods : List Rd3, ks = rods.map (fun r => [(r.1 : Int), (r.2.1 : Int)]) ∧ ∀ r ∈ rods, RodOk n r ∧ valV kvs (ky r.1 r.2.1) = some (.int r.2.2) := by
  induction ks with
  | nil => exact ⟨[], rfl, fun r hr => by simp at hr⟩
  | cons k ks ih =>
    obtain ⟨rods, e, g⟩ := ih fun k hk' => hk k (List.mem_cons_of_mem _ hk')
    have hm := hk k List.mem_cons_self
    obtain ⟨a, b, e1, h1, h2⟩ := h.keys _ hm
    obtain ⟨l, h3, h4, h5⟩ := h.vals _ hm
    have ek : k = [(a : Int), (b : Int)] := by
      match k, e1 with
      | [], e1 => simp at e1
      | [x], e1 => simp at e1
      | [x, y], e1 =>
        simp at e1
        rw [e1.1, e1.2]
      | x :: y :: z :: k, e1 => simp at e1
    refine ⟨(a, b, l) :: rods, by rw [List.map_cons, ← e, ek], fun r hr => ?_⟩
    rcases List.mem_cons.mp hr with rfl | hr
    · refine ⟨⟨h1, h2, h3, h4⟩, ?_⟩
      rw [← e1]
      exact h5
    · exact g r hr
theorem code2 (B a b : Int) : TS.code B [a, b] = a * B + b := by
  simp [TS.code, Int.pow_succ]
theorem net_of {n c : Nat} {kvs : List (List Key × V)} (h : KOk n c n kvs) (hn1 : 1 ≤ n) (hn4 : n ≤ 4) (hc : c ≤ 28) {rods : List Rd3} (hp : ((rods.map fun r => [(r.1 : Int), (r.2.1 : Int)]).map fun ns => ns.map (Sum.inl : Int → Key)).Perm (kvs.map (·.1)))
    (hs : (rods.map fun r => [(r.1 : Int), (r.2.1 : Int)]).Pairwise fun x y => TS.code 4 x ≤ TS.code 4 y) (ho : ∀ r ∈ rods, RodOk n r) : NetOk n rods := by
  rw [List.map_map] at hp
  have ef : ((fun ns : List Int => ns.map (Sum.inl : Int → Key)) ∘ fun r : Rd3 => [(r.1 : Int), (r.2.1 : Int)]) = fun r : Rd3 => ky r.1 r.2.1 := rfl
  rw [ef] at hp
  refine ⟨hn1, hn4, ?_, ho, fun i hi => ?_, fun k h1 h2 => ?_⟩
  · have e := hp.length_eq
    rw [List.length_map, List.length_map] at e
    have := h.len
    omega
  · have hi' : i < rods.length := by omega
    have e1 : rdAt rods i = rods[i] := by
      unfold rdAt
      rw [List.getD_eq_getElem?_getD, List.getElem?_eq_getElem hi'] <;> rfl
    have e2 : rdAt rods (i + 1) = rods[i + 1] := by
      unfold rdAt
      rw [List.getD_eq_getElem?_getD, List.getElem?_eq_getElem hi] <;> rfl
    have nd := (hp.nodup_iff).mpr h.nodup
    have q1 := List.pairwise_iff_getElem.mp hs i (i + 1) (by simpa using hi') (by simpa using hi) (by omega)
    have q2 := List.pairwise_iff_getElem.mp nd i (i + 1) (by simpa using hi') (by simpa using hi) (by omega)
    rw [List.getElem_map, List.getElem_map, code2, code2] at q1
    rw [List.getElem_map, List.getElem_map] at q2
    have o1 := ho _ (List.getElem_mem hi')
    have o2 := ho _ (List.getElem_mem hi)
    rw [e1, e2]
    obtain ⟨a1, a2, a3, a4⟩ := o1
    obtain ⟨b1, b2, b3, b4⟩ := o2
    generalize rods[i] = x at *
    generalize rods[i + 1] = y at *
    have q3 : ¬ (x.1 = y.1 ∧ x.2.1 = y.2.1) := fun z => q2 (by rw [z.1, z.2])
    omega
  · obtain ⟨a, ha⟩ := h.span k h1 h2
    obtain ⟨r, hr, e⟩ := List.mem_map.mp (hp.mem_iff.mpr ha)
    refine ⟨r, hr, ?_⟩
    have e' : ky r.1 r.2.1 = ky a k := e
    simp at e'
    omega
def spNet (K : PySem.W.Frag) : Sp := fun vs H Q _ => ∃ (r s : Addr) (ns : List Int) (lg : Int), Cel K H r s ns ∧ vs = [.ref r, .int 4, .int lg] ∧ (1 ≤ lg ∧ lg ≤ 4) ∧ ∀ v H' (n : Nat) (rods : List Rd3), Cel K H' r s ns → Kp r H H' → NetOk n rods → (vNet n rods).is H' v → Q v H'
section
variable {K : PySem.W.Frag} {σ : L2.St} {H : Hp} {te tl : TE} {D : Ends} {tz tb : TS} {E : XK}
theorem net_s1 {r s : Addr} {ns : List Int} {m : Int} (c : Cel K H r s ns) (h0 : σ[0]? = some (some (.ref r))) (hm : EvP te σ H (vI m)) (h1 : 1 ≤ m ∧ m ≤ 1000)
    (k : ∀ (v : Int) H' t, Cel K H' r s ns → Kp r H H' → H t = none → t ≠ r → H' t = some (.dT []) → 0 ≤ v → v < m → tz D ((σ.set 3 (some (.int (1 + v)))).set 4 (some (.ref t))) H') :
    tSeq (tAsg (tTup (tCons (tOp (rI0 fun i j => .int (i + j)) (tC (.int 1)) (tCall (spTaken K) [] E (tCons (tVar 0) (tCons te tNil)))) (tCons tDNewT tNil))) (gTup K 2 (gCons (gName 3) (gCons (gName 4) gNil)))) tz D σ H := by
  refine call_taken c h0 hm h1 fun v H1 c1 k1 g0 g1 => ⟨1, v, rfl, rfl, fun t ht => ⟨sz_of (by show (2 : Nat) ≤ 100000; omega), fun p hp => ?_⟩⟩
  have tr := c1.ne ht
  have hp1 : H1 p = none := by
    by_cases z : p = t
    · subst z
      exact ht
    · rw [upd_ne z] at hp
      exact hp
  have nt : H t = none := by
    cases e : H t with
    | none => rfl
    | some o =>
      rw [k1.at tr e] at ht
      cases ht
  have pt : p ≠ t := fun z => by
    rw [z, upd_same] at hp
    cases hp
  refine ⟨p, _, rfl, st_of upd_same, rfl, _, _, rfl, _, _, rfl, rfl, k v _ t ((c1.mono (Ex.new ht)).mono (Ex.new hp)) (k1.trans ((Kp.ex (Ex.new ht)).trans (.ex (Ex.new hp)))) nt tr ?_ g0 g1⟩
  rw [upd_ne (Ne.symm pt)]
  exact upd_same
theorem for_split {g : TG} (h : te σ H fun x H1 => tSeq (tFor (iRng1 (tCons (tC x) tNil)) g tb) tz D σ H1) : tSeq (tFor (iRng1 (tCons te tNil)) g tb) tz D σ H := h
theorem ret_split {i : Nat} {v : V} {g : TG} {tt : TT} {vs : List Nat} {rr : List V → Hp → VK → Prop} (hv : σ[i]? = some (some v)) (h : tl σ H fun x H1 => tRet (tTup (tCons (tC v) (tCons (tCB rr (tCons (tLc (iList K (tC x)) g tt te vs) tNil)) tNil))) D σ H1) :
    tRet (tTup (tCons (tVar i) (tCons (tCB rr (tCons (tLc (iList K tl) g tt te vs) tNil)) tNil))) D σ H := ⟨v, hv, h⟩
theorem e_cv {x : V} {P : VP} (h : P.is H x) : EvP (tC x) σ H P := fun H1 e Q q => q x H1 (Ex.refl _) (P.mono e h)
theorem e_dget {i j l : Nat} {t : Addr} {kvs : List (List Key × V)} {a b : Nat} {z : Int} (ht : H t = some (.dT kvs)) (h1 : σ[i]? = some (some (.ref t))) (h2 : σ[j]? = some (some (.int (a : Int)))) (h3 : σ[l]? = some (some (.int (b : Int)))) (hz : valV kvs (ky a b) = some (.int z)) :
    EvP (tDGet (tVar i) (tTup (tCons (tVar j) (tCons (tVar l) tNil)))) σ H (vI z) := fun H1 e Q q =>
  ⟨_, h1, _, h2, _, h3, sz_of (by show (2 : Nat) ≤ 100000; omega), fun p hp => ⟨t, .int z, rfl, by
    have g := DGet.t (H := upd H1 p (.tup [.int (a : Int), .int (b : Int)])) (a := t) (b := p) (kvs := kvs) (k := ky a b) ((Ex.new hp) _ _ (e _ _ ht)) upd_same
    rw [hz] at g
    exact g, q _ _ (Ex.new hp) rfl⟩⟩
/-- d[a, b] = 1 + taken(row, lg); the key's reading ty gives a new tuple of a, b -/
theorem p_dput {r s t : Addr} {ns : List Int} {lg : Int} {ty : TE} {i : Nat} {n c m m' : Nat} {kvs : List (List Key × V)} {H0 : Hp} (c0 : Cel K H0 r s ns) (ce : Cel K H r s ns) (kp : Kp r H0 H) (nt : H0 t = none) (tr : t ≠ r) (ht : H t = some (.dT kvs)) (hk : KOk n c m kvs) (hc : c < 50)
    (h0 : σ[0]? = some (some (.ref r))) (hi : σ[i]? = some (some (.ref t))) (hl : EvP te σ H (vI lg)) (hlg : 1 ≤ lg ∧ lg ≤ 4)
    (hy : ∀ H1, Cel K H1 r s ns → Kp r H0 H1 → H1 t = some (.dT kvs) → ∀ Q : VK, (∀ (a b : Nat) p H2, Cel K H2 r s ns → Kp r H0 H2 → H2 t = some (.dT kvs) → H2 p = some (.tup [.int (a : Int), .int (b : Int)]) → p ≠ t → a < b → b < n → (∀ j, j < m' → j < m ∨ j = b) → Q (.ref p) H2) → ty σ H1 Q)
    (k : ∀ kvs' H', Cel K H' r s ns → Kp r H0 H' → H' t = some (.dT kvs') → KOk n (c + 1) m' kvs' → D.nx σ H') :
    sDPut (tVar i) ty (tOp (rI0 fun i j => .int (i + j)) (tC (.int 1)) (tCall (spTaken K) [] E (tCons (tVar 0) (tCons te tNil)))) D σ H := by
  refine call_taken ce h0 hl (by omega) fun v H1 c1 k1 g0 g1 => ⟨1, v, rfl, rfl, _, hi, hy H1 c1 (kp.trans k1) (k1.at tr ht) _ fun a b p H2 c2 k2 ht2 hp pt hab hbn hm => ?_⟩
  refine ⟨t, _, rfl, DPut.t (k := ky a b) ht2 hp (sz_lt (by have := hk.len; omega)), ?_⟩
  have kk : Kp r H0 (upd H2 t (.dT (putK kvs (ky a b) (.int (1 + v))))) := k2.mut nt
  obtain ⟨x, y, z, q1, q2⟩ := c2.at_
  exact k _ _ (c0.kp kk ⟨x, y, z, q1, by rw [upd_ne (Ne.symm tr)]; exact q2⟩) kk upd_same (hk.put hab hbn (by omega) hm)
theorem for_if {r s : Addr} {ns : List Int} {n : Int} {g : TG} (c : Cel K H r s ns) (h0 : σ[0]? = some (some (.ref r))) (h3 : σ[3]? = some (some (.int n))) (k : ∀ (u : Int) H', Cel K H' r s ns → Kp r H H' → 0 ≤ u → u < 4 → tSeq (tFor (iRng1 (tCons (tC (.int u)) tNil)) g tb) tz D σ H') :
    tSeq (tFor (iRng1 (tCons (tIf (tTest (tOp (rI0 fun i j => .bl (decide (j < i))) (tVar 3) (tC (.int 2)))) (tCall (spTaken K) [] E (tCons (tVar 0) (tCons (tC (.int 4)) tNil))) (tC (.int 0))) tNil)) g tb) tz D σ H := by
  refine for_split (te := tIf _ _ _) ?_
  refine t_test (e_I0 (g := fun i j => .bl (decide (j < i))) (i := n) (j := 2) (e_var h3 rfl) e_c) H (Ex.refl _) _ fun H1 e1 => ?_
  by_cases z : 2 < n
  · rw [if_pos (decide_eq_true z)]
    exact call_taken (c.mono e1) h0 e_c (by omega) fun v H2 c2 k2 g0 g1 => k v H2 c2 ((Kp.ex e1).trans k2) g0 g1
  · rw [if_neg (by simpa using z)]
    exact k 0 H1 (c.mono e1) (.ex e1) (by omega) (by omega)
theorem par_draw {r s : Addr} {ns : List Int} {m : Int} {i j : Nat} (c : Cel K H r s ns) (h0 : σ[0]? = some (some (.ref r))) (hm : ∀ H1, EvP te σ H1 (vI m)) (h1 : 1 ≤ m ∧ m ≤ 1000) (k : ∀ (u v : Int) H', Cel K H' r s ns → Kp r H H' → 0 ≤ u → u < m → 0 ≤ v → v < m → tz D ((σ.set i (some (.int u))).set j (some (.int v))) H') :
    tSeq (tPar i j (tCons (tCall (spTaken K) [] E (tCons (tVar 0) (tCons te tNil))) (tCons (tCall (spTaken K) [] E (tCons (tVar 0) (tCons te tNil))) tNil))) tz D σ H :=
  call_taken c h0 (hm H) h1 fun u H1 c1 k1 a1 a2 => call_taken c1 h0 (hm H1) h1 fun v H2 c2 k2 b1 b2 => ⟨_, _, rfl, k u v H2 c2 (k1.trans k2) a1 a2 b1 b2⟩
end
theorem KOk.mono {n c c' m m' : Nat} {kvs : List (List Key × V)} (h : KOk n c m kvs) (hc : c ≤ c') (hm : m' ≤ m) : KOk n c' m' kvs := ⟨h.keys, h.nodup, h.vals, by have := h.len; omega, fun j h1 h2 => h.span j h1 (by omega)⟩
end Lt
set_option maxHeartbeats 1000000
namespace Lt
open PySem L2 Evl
theorem paired_tup {H H' : Hp} (e : Ex H H') : ∀ {rods : List Rd3} {bs : List Addr}, Paired (fun (b : Addr) (ns : List Int) => H b = some (.tup (ns.map V.int))) bs (rods.map fun r => [(r.1 : Int), (r.2.1 : Int)]) → All H' (rods.map fun r => vRow [(r.1 : Int), (r.2.1 : Int)]) (bs.map V.ref)
  | [], bs, h => by
    cases h
    exact .nil
  | r :: rods, bs, h => by
    cases h with
    | cons h1 h2 => exact .cons (is_vRow (e _ _ h1)) (paired_tup e h2)
section
variable {P : Program} {w : World} {K : PySem.W.Frag} {mg : Str → Option Value} {base : Heap} {C : Addr}
theorem ok__law_net (T : Txt K mg C) (F__law_net : Fd K mg "_law_net" s__law_net p__law_net) (F__law_taken : Fd K mg "_law_taken" s__law_taken p__law_taken) (ok__law_taken : FnOk P w K mg base CX0 1 F__law_taken.f F__law_taken.fd p__law_taken (spTaken K)) : FnOk P w K mg base CX0 2 F__law_net.f F__law_net.fd p__law_net (spNet K) := by
  refine F__law_net.F.ok sc__law_net (fun vs H Q E ⟨_, _, _, _, _, e, _⟩ => by subst e; rfl) (fun cdv A outer s H vs Q E hr h => ?_)
  obtain ⟨r, sc, ns, lg, ce, rfl, hlg, q⟩ := h
  have vi : ∀ (i : Int) H, (vI i).is H (.int i) := fun _ _ => rfl
  refine ⟨_, (pss_cons (ps_asg (pe_tup (pa_cons (pe_op op_add pe_int (pe_call ok__law_taken (hr.mono (by decide)) (by rfl) F__law_taken.g F__law_taken.F.kp F__law_taken.b .nil pass0 (pa_cons (pv 0) (pa_cons (pv 1) pa_nil)))) (pa_cons pe_dnewT pa_nil))) (pg_tup rfl (pgs_cons (pg_name (i := 3) sc__law_net.nd rfl (Or.inl rfl)) (pgs_cons (pg_name (i := 4) sc__law_net.nd rfl (Or.inr rfl)) pgs_nil))))
      (pss_cons (ps_for PassesOwn.never rfl (pi_range2 rfl T.range (pa_cons pe_int (pa_cons (pv 3) pa_nil))) (pg_name (i := 5) sc__law_net.nd rfl (Or.inl rfl)) (pss_one (ps_dput (hu_of hr) (pv 4) (pe_tup (pa_cons (pe_call ok__law_taken (hr.mono (by decide)) (by rfl) F__law_taken.g F__law_taken.F.kp F__law_taken.b .nil pass0 (pa_cons (pv 0) (pa_cons (pv 5) pa_nil))) (pa_cons (pv 5) pa_nil))) (pe_op op_add pe_int (pe_call ok__law_taken (hr.mono (by decide)) (by rfl) F__law_taken.g F__law_taken.F.kp F__law_taken.b .nil pass0 (pa_cons (pv 0) (pa_cons (pv 2) pa_nil)))) rfl)))
      (pss_cons (ps_for PassesOwn.never rfl (pi_range1 rfl T.range (pa_cons (pe_ifExp (pt_cmpR op_gt (pv 3) pe_int (nomark _)) (pe_call ok__law_taken (hr.mono (by decide)) (by rfl) F__law_taken.g F__law_taken.F.kp F__law_taken.b .nil pass0 (pa_cons (pv 0) (pa_cons pe_int pa_nil))) pe_int) pa_nil)) (pg_name (i := 6) sc__law_net.nd rfl (Or.inl rfl)) (pss_cons (ps_par (i := 7) (j := 8) rfl sc__law_net.nd rfl rfl (by decide) rfl rfl (pa_cons (pe_call ok__law_taken (hr.mono (by decide)) (by rfl) F__law_taken.g F__law_taken.F.kp F__law_taken.b .nil pass0 (pa_cons (pv 0) (pa_cons (pv 3) pa_nil))) (pa_cons (pe_call ok__law_taken (hr.mono (by decide)) (by rfl) F__law_taken.g F__law_taken.F.kp F__law_taken.b .nil pass0 (pa_cons (pv 0) (pa_cons (pv 3) pa_nil))) pa_nil)) (by rfl))
      (pss_one (ps_if (pt_cmpR op_ne (pv 7) (pv 8) (nomark _)) (pss_one (ps_dput (hu_of hr) (pv 4) (pe_tup (pa_cons (pe_callB LK.call_min2 (by rfl) T.min (by decide +kernel) (pa_cons (pv 7) (pa_cons (pv 8) pa_nil))) (pa_cons (pe_callB LK.call_max2 (by rfl) T.max (by decide +kernel) (pa_cons (pv 7) (pa_cons (pv 8) pa_nil))) pa_nil))) (pe_op op_add pe_int (pe_call ok__law_taken (hr.mono (by decide)) (by rfl) F__law_taken.g F__law_taken.F.kp F__law_taken.b .nil pass0 (pa_cons (pv 0) (pa_cons (pv 2) pa_nil)))) rfl)) pss_nil))))
      (pss_one (ps_ret (pe_tup (pa_cons (pv 3) (pa_cons (pe_callTy (LK.call_tuple_of K) (by rfl) T.tuple (by decide +kernel) (pa_cons (pe_lc (own := [("_law_one", 7), ("_law_other", 8)]) (g := (gTup K 2 (gCons (gName 7) (gCons (gName 8) gNil)))) rfl sc__law_net.nd (LK.pi_list K (pe_callB (LR.cr_sortD rfl) (by rfl) T.sorted (by decide +kernel) (pa_cons (pv 4) pa_nil))) (blkOk_by (own := [("_law_one", 7), ("_law_other", 8)]) (N := n__law_net) (sc := defScope s__law_net) (by decide +kernel)) (fun _ _ _ _ _ => (pg_tup rfl (pgs_cons (pg_name (i := 7) sc__law_net.nd rfl (Or.inl rfl)) (pgs_cons (pg_name (i := 8) sc__law_net.nd rfl (Or.inl rfl)) pgs_nil)))) (fun _ _ _ _ _ => pts_nil) (fun _ _ _ _ _ => (pe_tup (pa_cons (pv 7) (pa_cons (pv 8) (pa_cons (pe_dget (hu_of hr) (pv 4) (pe_tup (pa_cons (pv 7) (pa_cons (pv 8) pa_nil))) (fun _ _ => rfl)) pa_nil)))))) pa_nil)) pa_nil)))))))), ?_⟩
  refine net_s1 (m := 4) ce rfl (e_var rfl (vi _ _)) (by omega) fun v1 H1 t c1 k1 nt tr ht hv0 hv4 => ?_
  obtain ⟨n, hn⟩ : ∃ n : Nat, 1 + v1 = (n : Int) := ⟨(1 + v1).toNat, by omega⟩
  rw [hn]
  have hn1 : 1 ≤ n := by omega
  have hn4 : n ≤ 4 := by omega
  have hE : ∀ H : Hp, Ex (fun _ => none) H := fun H a o h => nomatch h
  have hz : ((n : Int) - 1).toNat = n - 1 := by omega
  refine p_for (H0 := fun _ => none) (w_range2 (lo := 1) (n := (n : Int)) (a_cons e_c (a_cons (e_var rfl (vi _ _)) a_nil)) (by omega)) (hE _)
    (fun i σ' H' => Kp r H H' ∧ Cel K H' r sc ns ∧ ∃ kvs x5, H' t = some (.dT kvs) ∧ KOk n i (i + 1) kvs ∧ σ' = [some (.ref r), some (.int 4), some (.int lg), some (.int (n : Int)), some (.ref t), x5, none, none, none])
    (fun H' e => ⟨k1.trans (.ex e), c1.mono e, [], none, e _ _ ht, ⟨fun k hk => by simp at hk, by simp, fun k hk => by simp at hk, by simp, fun j h1 h2 => by omega⟩, rfl⟩) (fun _ _ _ _ => hE _) ?_ ?_
  · rintro i x σ' H' H2 hi ⟨k', c', kvs, x5, ht', hk, rfl⟩ e2 px
    obtain rfl : x = .int (1 + (i : Int)) := px
    have c2 := c'.mono e2
    have k2 : Kp r H H2 := k'.trans (.ex e2)
    refine p_dput (m := i + 1) (m' := i + 2) ce c2 k2 nt tr (e2 _ _ ht') hk (by omega) rfl rfl (e_var rfl (vi _ _)) hlg (fun H3 c3 k3 ht3 Q' q' => ?_) (fun kvs' H3 c3 k3 ht3 hk3 => ⟨k3, c3, kvs', _, ht3, hk3, rfl⟩)
    refine call_taken c3 rfl (e_var rfl (vi _ _)) (by omega) fun v H4 c4 k4 h0 h1 => ⟨_, rfl, sz_of (by show (2 : Nat) ≤ 100000; omega), fun p hp => ?_⟩
    obtain ⟨a, ha⟩ : ∃ a : Nat, v = (a : Int) := ⟨v.toNat, by omega⟩
    subst ha
    have ht4 := k4.at tr ht3
    refine q' a (i + 1) p _ (c4.mono (Ex.new hp)) (k3.trans (k4.trans (.ex (Ex.new hp)))) (Ex.new hp _ _ ht4) ?_ (fun z => by rw [z, ht4] at hp; cases hp) (by omega) (by omega) (fun j hj => by omega)
    rw [upd_same, show ((i + 1 : Nat) : Int) = 1 + (i : Int) by omega]
  rintro σ' H2 ⟨k2, c2, kvs, x5, ht2, hk2, rfl⟩
  rw [hz] at hk2
  have hk3 : KOk n 3 n kvs := hk2.mono (by omega) (by omega)
  refine for_if c2 rfl rfl fun u H3 c3 k3 hu0 hu4 => ?_
  refine p_for (H0 := fun _ => none) (w_range1 (n := u) (a_cons e_c a_nil) (by omega)) (hE _)
    (fun j σ' H' => Kp r H H' ∧ Cel K H' r sc ns ∧ ∃ kvs x5 x6 x7 x8, H' t = some (.dT kvs) ∧ KOk n (3 + j) n kvs ∧ σ' = [some (.ref r), some (.int 4), some (.int lg), some (.int (n : Int)), some (.ref t), x5, x6, x7, x8])
    (fun H' e => ⟨k2.trans (k3.trans (.ex e)), c3.mono e, kvs, x5, none, none, none, e _ _ (k3.at tr ht2), hk3.mono (by omega) (by omega), rfl⟩) (fun _ _ _ _ => hE _) ?_ ?_
  · rintro j x σ' H' H4 hj ⟨k', c', kvs, x5, x6, x7, x8, ht', hk, rfl⟩ e4 px
    have c4 := c'.mono e4
    have k4 : Kp r H H4 := k'.trans (.ex e4)
    have ht4 := e4 _ _ ht'
    refine par_draw c4 rfl (fun H5 => e_var rfl (vi _ _)) (by omega) fun a b H5 c5 k5 ha0 han hb0 hbn => ?_
    obtain ⟨a, rfl⟩ : ∃ a' : Nat, a = (a' : Int) := ⟨a.toNat, by omega⟩
    obtain ⟨b, rfl⟩ : ∃ b' : Nat, b = (b' : Int) := ⟨b.toNat, by omega⟩
    have ht5 := k5.at tr ht4
    have k5' := k4.trans k5
    refine p_if1 (t_test (e_ne (e_var rfl (vi _ _)) (e_var rfl (vi _ _)) rfl)) (fun hb H6 e6 => ?_) (fun hb H6 e6 => ⟨k5'.trans (.ex e6), c5.mono e6, kvs, _, _, _, _, e6 _ _ ht5, hk.mono (by omega) (by omega), rfl⟩)
    have hab : a ≠ b := fun z => by
      rw [z] at hb
      simp at hb
    refine p_dput (m := n) (m' := n) ce (c5.mono e6) (k5'.trans (.ex e6)) nt tr (e6 _ _ ht5) hk (by omega) rfl rfl (e_var rfl (vi _ _)) hlg (fun H7 c7 k7 ht7 Q' q' => ?_) (fun kvs' H7 c7 k7 ht7 hk7 => ⟨k7, c7, kvs', _, _, _, _, ht7, hk7, rfl⟩)
    refine (e_tup (a_cons (e_min2 (i := (a : Int)) (j := (b : Int)) (e_var rfl (vi _ _)) (e_var rfl (vi _ _))) (a_cons (e_max2 (i := (a : Int)) (j := (b : Int)) (e_var rfl (vi _ _)) (e_var rfl (vi _ _))) a_nil)) (by simp)) H7 (Ex.refl _) _ fun v H8 e8 pv8 => ?_
    obtain ⟨p, xs, rfl, hp, hal⟩ := pv8
    obtain ⟨y1, y2, rfl, q1, q2⟩ := all2 hal
    obtain rfl : y1 = .int _ := q1
    obtain rfl : y2 = .int _ := q2
    have ht8 := e8 _ _ ht7
    refine q' (min a b) (max a b) p H8 (c7.mono e8) (k7.trans (.ex e8)) ht8 ?_ (fun z => by rw [z, ht8] at hp; cases hp) (by omega) (by omega) (fun j hj => .inl hj)
    rw [hp, show ((min a b : Nat) : Int) = min (a : Int) (b : Int) by omega, show ((max a b : Nat) : Int) = max (a : Int) (b : Int) by omega]
  rintro σ' H4 ⟨k4, c4, kvs, x5, x6, x7, x8, ht4, hk4, rfl⟩
  have hlen := hk4.len
  refine ret_split rfl ⟨_, rfl, t, kvs, 2, 4, rfl, ht4, by omega, by omega, fun p hp => ?_, fun ks bs p hperm hpw hpair hp => ?_⟩
  · obtain ⟨a, b, e, h1, h2⟩ := hk4.keys p.1 (List.mem_map.mpr ⟨p, hp, rfl⟩)
    refine ⟨[(a : Int), (b : Int)], e, rfl, fun m hm => ?_⟩
    simp at hm
    omega
  obtain ⟨rods, rfl, hrods⟩ := ky_map hk4 fun k hk => hperm.mem_iff.mp (List.mem_map.mpr ⟨k, hk, rfl⟩)
  have N : NetOk n rods := net_of hk4 hn1 hn4 (by omega) hperm hpw fun r hr => (hrods r hr).1
  have hls : (vL (rods.map fun r => vRow [(r.1 : Int), (r.2.1 : Int)])).is (upd H4 p (.lst (bs.map V.ref))) (.ref p) := by
    refine ⟨p, _, rfl, upd_same, ?_⟩
    exact paired_tup (Ex.new hp) hpair
  have nt4 : H4 t = some (.dT kvs) := ht4
  have e5 : Ex H4 (upd H4 p (.lst (bs.map V.ref))) := Ex.new hp
  have ht5 := e5 _ _ ht4
  have c5 := c4.mono e5
  have k5 := k4.trans (.ex e5)
  generalize upd H4 p (.lst (bs.map V.ref)) = H5 at *
  have hrd : ∀ i, i < rods.length → (rods.map fun r => vRow [(r.1 : Int), (r.2.1 : Int)])[i]? = some (vT [vI ((rdAt rods i).1 : Int), vI ((rdAt rods i).2.1 : Int)]) := fun i hi => map_get (f := fun r : Rd3 => vRow [(r.1 : Int), (r.2.1 : Int)]) (0, 0, 0) i hi
  have hlr : rods.length ≤ 28 := N.len
  refine p_ret (P := vNet n rods) (e_tup (a_cons (e_cv rfl) (a_cons ?_ a_nil)) (by simp)) fun v H6 e6 pv6 => q v H6 n rods (c5.mono e6) (k5.trans (.ex e6)) N pv6
  have eR : (rods.map vRod) = (List.range rods.length).map fun i => vRod (rdAt rods i) := by
    apply List.ext_getElem?
    intro i
    by_cases hi : i < rods.length
    · rw [rg_get hi]
      exact map_get (f := vRod) (0, 0, 0) i hi
    · rw [List.getElem?_eq_none (by simpa using hi), List.getElem?_eq_none (by simpa using hi)]
  rw [eR]
  refine e_tupleOf (e_lc2 (n := rods.length) (I := fun i => vI ((rdAt rods i).1 : Int)) (I' := fun i => vI ((rdAt rods i).2.1 : Int)) (i_list (e_cv hls) (by simp) hrd) (by omega) (fun i _ => stb_T fun O hO => ?_) (fun _ _ => rfl) fun i x y H6 hi e6 px py => ?_)
  · simp only [List.mem_cons, List.not_mem_nil, or_false] at hO
    rcases hO with rfl | rfl | rfl <;> exact stb_V
  · obtain rfl : x = .int _ := px
    obtain rfl : y = .int _ := py
    exact e_tup (a_cons (e_var rfl (vi _ _)) (a_cons (e_var rfl (vi _ _)) (a_cons (e_dget (e6 _ _ ht5) rfl rfl rfl (hrods _ (rdAt_mem hi)).2) a_nil))) (by simp)
end
end Lt
set_option maxHeartbeats 1000000
namespace Lt
open PySem L2 Evl
/-! ### plain: the two tables -/
def Dec (d D : Nat → Nat → Int) : Prop := ∀ i j, D i j ≤ d i j
theorem Dec.refl (d : Nat → Nat → Int) : Dec d d := fun _ _ => Int.le_refl _
theorem Dec.trans {a b c : Nat → Nat → Int} (h : Dec a b) (g : Dec b c) : Dec a c := fun i j => Int.le_trans (g i j) (h i j)
theorem dset_at {d : Nat → Nat → Int} {i j : Nat} {x : Int} : dset d i j x i j = x := by
  unfold dset
  rw [if_pos ⟨rfl, rfl⟩]
theorem dset_ne {d : Nat → Nat → Int} {i j a b : Nat} {x : Int} (h : ¬ (a = i ∧ b = j)) : dset d i j x a b = d a b := by
  unfold dset
  rw [if_neg h]
theorem dset_dec {d : Nat → Nat → Int} {i j : Nat} {x : Int} (h : x ≤ d i j) : Dec d (dset d i j x) := fun a b => by
  by_cases z : a = i ∧ b = j
  · obtain ⟨rfl, rfl⟩ := z
    rw [dset_at]
    exact h
  · rw [dset_ne z]
    exact Int.le_refl _
theorem dset_low {n : Nat} {e d : Nat → Nat → Int} {i j : Nat} {x : Int} (h : ∀ a b, a < n → b < n → e a b ≤ d a b) (hx : e i j ≤ x) : ∀ a b, a < n → b < n → e a b ≤ dset d i j x a b := fun a b ha hb => by
  by_cases z : a = i ∧ b = j
  · obtain ⟨rfl, rfl⟩ := z
    rw [dset_at]
    exact hx
  · rw [dset_ne z]
    exact h a b ha hb
theorem fold_inv {α β : Type} {f : β → α → β} {J : β → Prop} : ∀ {l : List α} {d : β}, (∀ d x, x ∈ l → J d → J (f d x)) → J d → J (l.foldl f d)
  | [], _, _, h => h
  | x :: l, d, hf, h => fold_inv (l := l) (fun d y hy => hf d y (List.mem_cons_of_mem _ hy)) (hf d x List.mem_cons_self h)
theorem fold_dec {α : Type} {f : (Nat → Nat → Int) → α → (Nat → Nat → Int)} {J : (Nat → Nat → Int) → Prop} : ∀ {l : List α} {d : Nat → Nat → Int}, (∀ d x, x ∈ l → J d → J (f d x)) → (∀ d x, x ∈ l → J d → Dec d (f d x)) → J d → Dec d (l.foldl f d)
  | [], d, _, _, _ => Dec.refl d
  | x :: l, d, hf, hD, h => (hD d x List.mem_cons_self h).trans (fold_dec (l := l) (fun d y hy => hf d y (List.mem_cons_of_mem _ hy)) (fun d y hy => hD d y (List.mem_cons_of_mem _ hy)) (hf d x List.mem_cons_self h))
theorem fold_hit {α : Type} {f : (Nat → Nat → Int) → α → (Nat → Nat → Int)} {J : (Nat → Nat → Int) → Prop} : ∀ {l : List α} {d : Nat → Nat → Int} {x : α}, (∀ d x, x ∈ l → J d → J (f d x)) → (∀ d x, x ∈ l → J d → Dec d (f d x)) → J d → x ∈ l →
    ∃ d1, Dec d d1 ∧ J d1 ∧ Dec (f d1 x) (l.foldl f d)
  | [], _, _, _, _, _, hx => by simp at hx
  | y :: l, d, x, hf, hD, h, hx => by
    rcases List.mem_cons.mp hx with rfl | hx
    · exact ⟨d, Dec.refl d, h, fold_dec (l := l) (fun d y hy => hf d y (List.mem_cons_of_mem _ hy)) (fun d y hy => hD d y (List.mem_cons_of_mem _ hy)) (hf d x List.mem_cons_self h)⟩
    · obtain ⟨d1, h1, h2, h3⟩ := fold_hit (l := l) (d := f d y) (fun d y hy => hf d y (List.mem_cons_of_mem _ hy)) (fun d y hy => hD d y (List.mem_cons_of_mem _ hy)) (hf d y List.mem_cons_self h) hx
      exact ⟨d1, (hD d y List.mem_cons_self h).trans h1, h2, h3⟩
/-- how unlike two places may be -/
structure Met (n : Nat) (rods : List Rd3) (e : Nat → Nat → Int) : Prop where
  self : ∀ i, e i i = 0
  sym : ∀ i j, e i j = e j i
  tri : ∀ i j k, e i j ≤ e i k + e k j
  few : ∀ i j, e i j ≤ 999
  rods : ∀ r ∈ rods, e r.1 r.2.1 ≤ r.2.2
theorem low_d0 {n : Nat} {rods : List Rd3} {e : Nat → Nat → Int} {c : Int} (h : Met n rods e) (hc : 999 ≤ c) : ∀ a b, a < n → b < n → e a b ≤ d0 c a b := fun a b _ _ => by
  unfold d0
  by_cases z : a = b
  · rw [if_pos z, z, h.self]
    exact Int.le_refl _
  · rw [if_neg z]
    have := h.few a b
    omega
/-! the law's table -/
theorem bfP_dec (r : Rd3) (d : Nat → Nat → Int) (p : Nat) : Dec d (bfP r d p) := by
  unfold bfP
  exact (dset_dec (d := d) (by omega)).trans (dset_dec (by omega))
theorem bfR_dec (n : Nat) (d : Nat → Nat → Int) (r : Rd3) : Dec d (bfR n d r) := fold_dec (J := fun _ => True) (fun _ _ _ _ => trivial) (fun d p _ _ => bfP_dec r d p) trivial
theorem bfT_dec (n : Nat) (rods : List Rd3) (d : Nat → Nat → Int) (t : Nat) : Dec d (bfT n rods d t) := fold_dec (J := fun _ => True) (fun _ _ _ _ => trivial) (fun d p _ _ => bfR_dec n d p) trivial
theorem bf_low {n : Nat} {rods : List Rd3} {e : Nat → Nat → Int} (N : NetOk n rods) (h : Met n rods e) : ∀ a b, a < n → b < n → e a b ≤ bf n rods a b := by
  unfold bf
  refine fold_inv (J := fun d : Nat → Nat → Int => ∀ a b, a < n → b < n → e a b ≤ d a b) (fun d t _ hd => ?_) (low_d0 h (by omega))
  unfold bfT
  refine fold_inv (J := fun d : Nat → Nat → Int => ∀ a b, a < n → b < n → e a b ≤ d a b) (fun d r hr hd => ?_) hd
  unfold bfR
  refine fold_inv (J := fun d : Nat → Nat → Int => ∀ a b, a < n → b < n → e a b ≤ d a b) (fun d p hp hd => ?_) hd
  have hpn := List.mem_range.mp hp
  obtain ⟨r1, r2, r3, r4⟩ := N.ok r hr
  have hm := h.rods r hr
  unfold bfP
  have s1 : e p r.1 ≤ min (d p r.1) (d p r.2.1 + r.2.2) := by
    have a1 := hd p r.1 hpn (by omega)
    have a2 := hd p r.2.1 hpn r2
    have a3 := h.tri p r.1 r.2.1
    have a4 := h.sym r.2.1 r.1
    omega
  have L1 := dset_low (i := p) (j := r.1) hd s1
  refine dset_low L1 ?_
  have b1 := L1 p r.2.1 hpn r2
  have b2 := L1 p r.1 hpn (by omega)
  have b3 := h.tri p r.2.1 r.1
  omega
theorem bf_rod {n : Nat} {rods : List Rd3} (N : NetOk n rods) {r : Rd3} (hr : r ∈ rods) : bf n rods r.1 r.2.1 ≤ r.2.2 ∧ bf n rods r.2.1 r.1 ≤ r.2.2 := by
  obtain ⟨r1, r2, r3, r4⟩ := N.ok r hr
  have hn := N.n1
  obtain ⟨dA, a1, _, a2⟩ := fold_hit (J := fun _ => True) (f := bfT n rods) (l := List.range n) (d := d0 999) (x := 0) (fun _ _ _ _ => trivial) (fun d t _ _ => bfT_dec n rods d t) trivial (List.mem_range.mpr (by omega))
  obtain ⟨dB, b1, _, b2⟩ := fold_hit (J := fun _ => True) (f := bfR n) (l := rods) (d := dA) (x := r) (fun _ _ _ _ => trivial) (fun d t _ _ => bfR_dec n d t) trivial hr
  have key : ∀ p, p < n → ∃ dC : Nat → Nat → Int, dC p p ≤ 0 ∧ Dec (bfP r dC p) (bf n rods) := fun p hp => by
    obtain ⟨dC, c1, _, c2⟩ := fold_hit (J := fun _ => True) (f := bfP r) (l := List.range n) (d := dB) (x := p) (fun _ _ _ _ => trivial) (fun d t _ _ => bfP_dec r d t) trivial (List.mem_range.mpr hp)
    refine ⟨dC, ?_, c2.trans (b2.trans a2)⟩
    have := (a1.trans (b1.trans c1)) p p
    have e : d0 999 p p = 0 := if_pos rfl
    omega
  constructor
  · obtain ⟨dC, h1, h2⟩ := key r.1 (by omega)
    refine Int.le_trans (h2 r.1 r.2.1) ?_
    unfold bfP
    rw [dset_at, dset_at]
    omega
  · obtain ⟨dC, h1, h2⟩ := key r.2.1 r2
    refine Int.le_trans (h2 r.2.1 r.1) ?_
    unfold bfP
    rw [dset_ne (by omega), dset_at]
    omega
/-! the program's table -/
def Sym (d : Nat → Nat → Int) : Prop := ∀ i j, d i j = d j i
theorem rlx_val (d : Nat → Nat → Int) (r : Rd3) : rlx d r = dset (dset d r.1 r.2.1 (min (d r.1 r.2.1) r.2.2)) r.2.1 r.1 (min (d r.1 r.2.1) r.2.2) := by
  unfold rlx
  rw [dset_at]
theorem rlx_sym {d : Nat → Nat → Int} {r : Rd3} (h : Sym d) : Sym (rlx d r) := by
  rw [rlx_val]
  intro i j
  unfold dset
  have := h i j
  by_cases z1 : i = r.1 ∧ j = r.2.1 <;> by_cases z2 : j = r.1 ∧ i = r.2.1
  · obtain ⟨rfl, rfl⟩ := z1
    obtain ⟨h1, h2⟩ := z2
    rw [h1]
  · rw [if_neg (show ¬ (j = r.1 ∧ i = r.2.1) from z2)]
    rw [if_pos z1, if_pos (show j = r.2.1 ∧ i = r.1 from ⟨z1.2, z1.1⟩)]
    by_cases z3 : i = r.2.1 ∧ j = r.1
    · rw [if_pos z3]
    · rw [if_neg z3]
  · rw [if_pos (show i = r.2.1 ∧ j = r.1 from ⟨z2.2, z2.1⟩)]
    by_cases z3 : j = r.2.1 ∧ i = r.1
    · rw [if_pos z3]
    · rw [if_neg z3, if_pos z2]
  · rw [if_neg (show ¬ (i = r.2.1 ∧ j = r.1) from fun q => z2 ⟨q.2, q.1⟩), if_neg z1, if_neg (show ¬ (j = r.2.1 ∧ i = r.1) from fun q => z1 ⟨q.2, q.1⟩), if_neg z2]
    exact this
theorem rlx_dec {d : Nat → Nat → Int} {r : Rd3} (h : Sym d) : Dec d (rlx d r) := by
  rw [rlx_val]
  have hs := h r.2.1 r.1
  refine (dset_dec (d := d) (by omega)).trans (dset_dec ?_)
  by_cases z : r.2.1 = r.1 ∧ r.1 = r.2.1
  · rw [← z.2, dset_at]
    exact Int.le_refl _
  · rw [dset_ne z]
    omega
theorem d0_sym (c : Int) : Sym (d0 c) := fun i j => by
  unfold d0
  by_cases z : i = j
  · rw [if_pos z, if_pos z.symm]
  · rw [if_neg z, if_neg fun q => z q.symm]
theorem rl_low {n : Nat} {rods : List Rd3} {e : Nat → Nat → Int} (h : Met n rods e) : ∀ a b, a < n → b < n → e a b ≤ rods.foldl rlx (d0 9999) a b := by
  have := fold_inv (f := rlx) (J := fun d : Nat → Nat → Int => Sym d ∧ ∀ a b, a < n → b < n → e a b ≤ d a b) (l := rods) (d := d0 9999) (fun d r hr ⟨hs, hd⟩ => ?_) ⟨d0_sym _, low_d0 h (by omega)⟩
  · exact this.2
  · refine ⟨rlx_sym hs, ?_⟩
    rw [rlx_val]
    intro a b ha hb
    have hm := h.rods r hr
    have hy := h.sym a b
    by_cases z1 : a = r.2.1 ∧ b = r.1
    · have q := hd b a hb ha
      obtain ⟨rfl, rfl⟩ := z1
      rw [dset_at]
      omega
    · rw [dset_ne z1]
      by_cases z2 : a = r.1 ∧ b = r.2.1
      · have q := hd a b ha hb
        obtain ⟨rfl, rfl⟩ := z2
        rw [dset_at]
        omega
      · rw [dset_ne z2]
        exact hd a b ha hb
theorem rl_rod {rods : List Rd3} {r : Rd3} (hr : r ∈ rods) (hne : r.1 ≠ r.2.1) : rods.foldl rlx (d0 9999) r.1 r.2.1 ≤ r.2.2 ∧ rods.foldl rlx (d0 9999) r.2.1 r.1 ≤ r.2.2 := by
  obtain ⟨d1, _, hs, h⟩ := fold_hit (J := Sym) (f := rlx) (l := rods) (d := d0 9999) (x := r) (fun d r _ hs => rlx_sym hs) (fun d r _ hs => rlx_dec hs) (d0_sym _) hr
  constructor
  · refine Int.le_trans (h _ _) ?_
    rw [rlx_val, dset_ne (by omega), dset_at]
    omega
  · refine Int.le_trans (h _ _) ?_
    rw [rlx_val, dset_at]
    omega
theorem rl_diag {n : Nat} {rods : List Rd3} (N : NetOk n rods) (i : Nat) : rods.foldl rlx (d0 9999) i i = 0 := by
  refine fold_inv (f := rlx) (J := fun d : Nat → Nat → Int => d i i = 0) (fun d r hr hd => ?_) (if_pos rfl)
  have := (N.ok r hr).1
  rw [rlx_val, dset_ne (by omega), dset_ne (by omega)]
  exact hd
theorem fwO_spec {m o : Nat} {d : Nat → Nat → Int} (h : d m m = 0) : ∀ t i j, (List.range t).foldl (fwI m o) d i j = if i = o ∧ j < t then min (d o j) (d o m + d m j) else d i j
  | 0, i, j => by
    rw [if_neg (by omega)] <;> rfl
  | t + 1, i, j => by
    have ih := fwO_spec (o := o) h t
    rw [fold_succ]
    generalize (List.range t).foldl (fwI m o) d = D at ih
    unfold fwI
    have e1 : D o t = d o t := by rw [ih, if_neg (by omega)]
    have e2 : D o m = d o m := by
      rw [ih]
      by_cases z : m < t
      · rw [if_pos ⟨rfl, z⟩, h]
        omega
      · rw [if_neg (by omega)]
    have e3 : D m t = d m t := by rw [ih, if_neg (by omega)]
    rw [e1, e2, e3]
    by_cases z : i = o ∧ j = t
    · obtain ⟨rfl, rfl⟩ := z
      rw [dset_at, if_pos ⟨rfl, by omega⟩]
    · rw [dset_ne z, ih]
      by_cases z2 : i = o ∧ j < t
      · rw [if_pos z2, if_pos ⟨z2.1, by omega⟩]
      · rw [if_neg z2, if_neg (by omega)]
theorem fwM_spec {n m : Nat} {d : Nat → Nat → Int} (h : d m m = 0) : ∀ o i j, (List.range o).foldl (fwO n m) d i j = if i < o ∧ j < n then min (d i j) (d i m + d m j) else d i j
  | 0, i, j => by
    rw [if_neg (by omega)] <;> rfl
  | o + 1, i, j => by
    have ih := fwM_spec (n := n) h o
    rw [fold_succ]
    generalize (List.range o).foldl (fwO n m) d = D at ih
    have e0 : D m m = 0 := by
      rw [ih]
      by_cases z : m < o ∧ m < n
      · rw [if_pos z]
        omega
      · rw [if_neg z, h]
    have e1 : ∀ j, D o j = d o j := fun j => by rw [ih, if_neg (by omega)]
    have e2 : ∀ j, D m j = d m j := fun j => by
      rw [ih]
      by_cases z : m < o ∧ j < n
      · rw [if_pos z, h]
        omega
      · rw [if_neg z]
    unfold fwO
    rw [fwO_spec e0]
    by_cases z : i = o ∧ j < n
    · obtain ⟨rfl, z⟩ := z
      rw [if_pos ⟨rfl, z⟩, if_pos ⟨by omega, z⟩, e1, e1, e2]
    · rw [if_neg z, ih]
      by_cases z2 : i < o ∧ j < n
      · rw [if_pos z2, if_pos ⟨by omega, z2.2⟩]
      · rw [if_neg z2, if_neg (by omega)]
theorem fwM_at {n m : Nat} {d : Nat → Nat → Int} (h : d m m = 0) {i j : Nat} (hi : i < n) (hj : j < n) : fwM n d m i j = min (d i j) (d i m + d m j) := by
  unfold fwM
  rw [fwM_spec h, if_pos ⟨hi, hj⟩]
structure FwI (n m : Nat) (d : Nat → Nat → Int) : Prop where
  diag : ∀ i, i < n → d i i = 0
  pos : ∀ i j, i < n → j < n → 0 ≤ d i j
  tri : ∀ i j k, i < n → j < n → k < m → d i j ≤ d i k + d k j
theorem fw_step {n m : Nat} {d : Nat → Nat → Int} (hm : m < n) (h : FwI n m d) : FwI n (m + 1) (fwM n d m) := by
  have hd := h.diag m hm
  refine ⟨fun i hi => ?_, fun i j hi hj => ?_, fun i j k hi hj hk => ?_⟩
  · rw [fwM_at hd hi hi]
    have a1 := h.diag i hi
    have a2 := h.pos i m hi hm
    have a3 := h.pos m i hm hi
    omega
  · rw [fwM_at hd hi hj]
    have a1 := h.pos i j hi hj
    have a2 := h.pos i m hi hm
    have a3 := h.pos m j hm hj
    omega
  · have hkn : k < n := by omega
    rw [fwM_at hd hi hj, fwM_at hd hi hkn, fwM_at hd hkn hj]
    by_cases z : k = m
    · subst z
      omega
    · have hkm : k < m := by omega
      have a1 := h.tri i j k hi hj hkm
      have a2 := h.tri i m k hi hm hkm
      have a3 := h.tri m j k hm hj hkm
      have a4 := h.pos m k hm hkn
      have a5 := h.pos k m hkn hm
      omega
theorem fw_all {n : Nat} {rods : List Rd3} (N : NetOk n rods) (hp : ∀ i j, i < n → j < n → 0 ≤ rods.foldl rlx (d0 9999) i j) : ∀ m, m ≤ n → FwI n m ((List.range m).foldl (fwM n) (rods.foldl rlx (d0 9999)))
  | 0, _ => ⟨fun i _ => rl_diag N i, hp, fun _ _ _ _ _ h => absurd h (by omega)⟩
  | m + 1, h => by
    rw [fold_succ]
    exact fw_step (by omega) (fw_all N hp m (by omega))
theorem met_zero {n : Nat} {rods : List Rd3} (N : NetOk n rods) : Met n rods fun _ _ => 0 := ⟨fun _ => rfl, fun _ _ => rfl, fun _ _ _ => by omega, fun _ _ => by omega, fun r hr => by have := (N.ok r hr).2.2.1; omega⟩
theorem fw_inv {n : Nat} {rods : List Rd3} (N : NetOk n rods) : FwI n n (fw n rods) := fw_all N (rl_low (met_zero N)) n (Nat.le_refl _)
theorem fw_ok {n : Nat} {rods : List Rd3} (N : NetOk n rods) : TabOk n (fw n rods) := ⟨(fw_inv N).diag, (fw_inv N).pos⟩
theorem fw_low {n : Nat} {rods : List Rd3} {e : Nat → Nat → Int} (N : NetOk n rods) (h : Met n rods e) : ∀ a b, a < n → b < n → e a b ≤ fw n rods a b := by
  have key : ∀ m, m ≤ n → ∀ a b, a < n → b < n → e a b ≤ (List.range m).foldl (fwM n) (rods.foldl rlx (d0 9999)) a b := by
    intro m
    induction m with
    | zero => exact fun _ => rl_low h
    | succ m ih =>
      intro hm a b ha hb
      have F := fw_all N (rl_low (met_zero N)) m (by omega)
      have I := ih (by omega)
      rw [fold_succ, fwM_at (F.diag m (by omega)) ha hb]
      have a1 := I a b ha hb
      have a2 := I a m ha (by omega)
      have a3 := I m b (by omega) hb
      have a4 := h.tri a b m
      omega
  exact key n (Nat.le_refl _)
theorem fw_rod {n : Nat} {rods : List Rd3} (N : NetOk n rods) {r : Rd3} (hr : r ∈ rods) : fw n rods r.1 r.2.1 ≤ r.2.2 ∧ fw n rods r.2.1 r.1 ≤ r.2.2 := by
  obtain ⟨r1, r2, r3, r4⟩ := N.ok r hr
  have key : ∀ m, m ≤ n → ∀ a b, a < n → b < n → (List.range m).foldl (fwM n) (rods.foldl rlx (d0 9999)) a b ≤ rods.foldl rlx (d0 9999) a b := by
    intro m
    induction m with
    | zero => exact fun _ a b _ _ => Int.le_refl _
    | succ m ih =>
      intro hm a b ha hb
      have F := fw_all N (rl_low (met_zero N)) m (by omega)
      have I := ih (by omega) a b ha hb
      rw [fold_succ, fwM_at (F.diag m (by omega)) ha hb]
      omega
  have q := rl_rod hr (by omega)
  have k1 := key n (Nat.le_refl _) r.1 r.2.1 (by omega) r2
  have k2 := key n (Nat.le_refl _) r.2.1 r.1 r2 (by omega)
  unfold fw
  omega
theorem bf_pos {n : Nat} {rods : List Rd3} (N : NetOk n rods) : ∀ a b, a < n → b < n → 0 ≤ bf n rods a b := bf_low N (met_zero N)
end Lt
set_option maxHeartbeats 1000000
namespace Lt
open PySem L2 Evl
/-! ### plain: the rows as a filter of all rows -/
def hs (M : Nat) : List Int := (List.range (M + 1)).map fun k : Nat => (k : Int)
def pr (M : Nat) (n : Nat) : List (List Int) := (List.range n).foldl (fun rows _ => rows.flatMap fun r => (hs M).map fun h => r ++ [h]) [[]]
theorem mem_hs {M : Nat} {x : Int} : x ∈ hs M ↔ 0 ≤ x ∧ x ≤ M := by
  unfold hs
  constructor
  · intro h
    obtain ⟨k, hk, rfl⟩ := List.mem_map.mp h
    have := List.mem_range.mp hk
    omega
  · intro h
    exact List.mem_map.mpr ⟨x.toNat, List.mem_range.mpr (by omega), by show (x.toNat : Int) = x; omega⟩
theorem pr_succ (M n : Nat) : pr M (n + 1) = (pr M n).flatMap fun r => (hs M).map fun h => r ++ [h] := by
  unfold pr
  rw [fold_succ]
theorem pr_mem {M : Nat} : ∀ {n : Nat} {r : List Int}, r ∈ pr M n ↔ r.length = n ∧ ∀ x ∈ r, x ∈ hs M
  | 0, r => by
    constructor
    · intro h
      have e : r = [] := by simpa [pr] using h
      subst e
      exact ⟨rfl, fun x hx => by simp at hx⟩
    · rintro ⟨h, _⟩
      rw [List.eq_nil_of_length_eq_zero h]
      simp [pr]
  | n + 1, r => by
    rw [pr_succ, List.mem_flatMap]
    constructor
    · rintro ⟨r0, h0, h⟩
      obtain ⟨x, hx, rfl⟩ := List.mem_map.mp h
      obtain ⟨h1, h2⟩ := pr_mem.mp h0
      refine ⟨by simp [h1], fun y hy => ?_⟩
      rcases List.mem_append.mp hy with hy | hy
      · exact h2 y hy
      · rw [List.mem_singleton.mp hy]
        exact hx
    · rintro ⟨h1, h2⟩
      have hne : r ≠ [] := fun e => by
        subst e
        simp at h1
      refine ⟨r.dropLast, pr_mem.mpr ⟨by simp [h1], fun x hx => h2 x (List.dropLast_subset r hx)⟩, ?_⟩
      exact List.mem_map.mpr ⟨r.getLast hne, h2 _ (List.getLast_mem hne), List.dropLast_concat_getLast hne⟩
theorem flat_filter {α β : Type} {f g : α → List β} {q : β → Bool} {s : α → Bool} : ∀ {l : List α}, (∀ r ∈ l, (f r).filter q = if s r = true then g r else []) → (l.flatMap f).filter q = (l.filter s).flatMap g
  | [], _ => rfl
  | a :: l, h => by
    have ih := flat_filter (l := l) fun r hr => h r (List.mem_cons_of_mem _ hr)
    rw [List.flatMap_cons, List.filter_append, ih, h a List.mem_cons_self, List.filter_cons]
    by_cases z : s a = true
    · rw [if_pos z, if_pos z, List.flatMap_cons]
    · rw [if_neg z, if_neg z, List.nil_append]
theorem stage {M n : Nat} {S : Nat → List Int → Bool} {st : Nat → List Int → List Int} (h0 : S 0 [] = true)
    (h : ∀ p, p < n → ∀ r, r.length = p → (∀ x ∈ r, x ∈ hs M) → (S p r = true → st p r = (hs M).filter fun h => S (p + 1) (r ++ [h])) ∧ (S p r = false → ∀ x ∈ hs M, S (p + 1) (r ++ [x]) = false)) :
    ∀ m, m ≤ n → (List.range m).foldl (fun rows p => rows.flatMap fun r => (st p r).map fun h => r ++ [h]) [[]] = (pr M m).filter (S m)
  | 0, _ => by
    show [[]] = ([[]] : List (List Int)).filter (S 0)
    rw [List.filter_cons, if_pos h0] <;> rfl
  | m + 1, hm => by
    rw [fold_succ, stage h0 h m (by omega), pr_succ]
    symm
    refine flat_filter fun r hr => ?_
    obtain ⟨h1, h2⟩ := pr_mem.mp hr
    obtain ⟨g1, g2⟩ := h m (by omega) r h1 h2
    rw [List.filter_map]
    by_cases z : S m r = true
    · rw [if_pos z, g1 z] <;> rfl
    · rw [if_neg z]
      have e : (hs M).filter ((S (m + 1)) ∘ fun h => r ++ [h]) = [] := List.filter_eq_nil_iff.mpr fun x hx q => by
        have := g2 (by simpa using z) x hx
        have q' : S (m + 1) (r ++ [x]) = true := q
        rw [this] at q'
        cases q'
      rw [e] <;> rfl
theorem all_congr' {α : Type} {f g : α → Bool} : ∀ {l : List α}, (∀ x ∈ l, f x = g x) → l.all f = l.all g
  | [], _ => rfl
  | a :: l, h => by
    rw [List.all_cons, List.all_cons, h a List.mem_cons_self, all_congr' fun x hx => h x (List.mem_cons_of_mem _ hx)]
theorem getD_snoc {r : List Int} {h : Int} {k : Nat} (hk : k < r.length) : (r ++ [h]).getD k 0 = r.getD k 0 := by
  rw [List.getD_eq_getElem?_getD, List.getElem?_append_left hk, List.getD_eq_getElem?_getD]
theorem getD_last {r : List Int} {h : Int} : (r ++ [h]).getD r.length 0 = h := by
  rw [List.getD_eq_getElem?_getD, List.getElem?_append_right (Nat.le_refl _)]
  simp
theorem all_succ {f : Nat → Bool} (p : Nat) : (List.range (p + 1)).all f = ((List.range p).all f && f p) := by
  rw [List.range_succ, List.all_append]
  simp
/-! slopes -/
def Sl (d : Nat → Nat → Int) (p : Nat) (r : List Int) : Bool := (List.range p).all fun j => (List.range j).all fun k => !decide (d k j < ab (r.getD k 0 - r.getD j 0))
theorem Sl_snoc {d : Nat → Nat → Int} {p : Nat} {r : List Int} {h : Int} (hl : r.length = p) : Sl d (p + 1) (r ++ [h]) = (Sl d p r && okAt d p r h) := by
  subst hl
  unfold Sl okAt
  rw [all_succ]
  congr 1
  · refine all_congr' fun j hj => all_congr' fun k hk => ?_
    have h1 := List.mem_range.mp hj
    have h2 := List.mem_range.mp hk
    rw [getD_snoc (by omega), getD_snoc (by omega)]
  · refine all_congr' fun k hk => ?_
    have h2 := List.mem_range.mp hk
    rw [getD_snoc (by omega), getD_last]
theorem filter_and {l : List Int} {f g : Int → Bool} {b : Bool} (hb : b = true) (h : ∀ x ∈ l, f x = (b && g x)) : l.filter f = l.filter g := by
  apply List.filter_congr
  intro x hx
  rw [h x hx, hb, Bool.true_and]
theorem slopes_eq (n : Nat) (d : Nat → Nat → Int) (M : Nat) : slopes n d M = (pr M n).filter (Sl d n) := by
  have e := stage (M := M) (n := n) (S := Sl d) (st := fun p r => (hs M).filter fun h => okAt d p r h) rfl (fun p hp r hl hr => ⟨fun hS => ?_, fun hS x hx => ?_⟩) n (Nat.le_refl _)
  · rw [← e]
    unfold slopes
    have ef : sStep d M = fun rows p => rows.flatMap fun r => ((hs M).filter fun h => okAt d p r h).map fun h => r ++ [h] := by
      funext rows p
      unfold sStep
      congr 1
      funext r
      unfold sRow giv hs
      rw [List.filter_map, List.map_map] <;> rfl
    rw [ef]
  · exact (filter_and hS fun x _ => Sl_snoc hl).symm
  · rw [Sl_snoc hl, hS, Bool.false_and]
/-! rows between -/
theorem rng_filter {lo hi : Int} (h0 : 0 ≤ lo) : ∀ m : Nat, ((List.range m).map fun k : Nat => (k : Int)).filter (fun h => decide (lo ≤ h) && decide (h < hi)) = rngI lo (min (m : Int) hi)
  | 0 => by
    unfold rngI
    rw [show (min ((0 : Nat) : Int) hi - lo).toNat = 0 by omega] <;> rfl
  | m + 1 => by
    rw [List.range_succ, List.map_append, List.filter_append, rng_filter h0 m, List.map_cons, List.map_nil, List.filter_cons]
    by_cases z : lo ≤ (m : Int) ∧ (m : Int) < hi
    · rw [if_pos (by simp [z.1, z.2])]
      unfold rngI
      rw [show (min ((m + 1 : Nat) : Int) hi - lo).toNat = (min (m : Int) hi - lo).toNat + 1 by omega, List.range_succ, List.map_append]
      congr 1
      show [(m : Int)] = [lo + (((min (m : Int) hi - lo).toNat : Nat) : Int)]
      congr 1
      omega
    · rw [if_neg (by simp; omega)]
      show rngI lo (min (m : Int) hi) ++ [] = _
      rw [List.append_nil]
      unfold rngI
      rw [show (min ((m + 1 : Nat) : Int) hi - lo).toNat = (min (m : Int) hi - lo).toNat by omega]
def Bt (d : Nat → Nat → Int) (least limit : List Int) (p : Nat) (r : List Int) : Bool := (List.range p).all fun j => decide (max (bLo d r j) (least.getD j 0) ≤ r.getD j 0) && decide (r.getD j 0 < bHi d r j (limit.getD j 0) + 1)
theorem bLo_snoc {d : Nat → Nat → Int} {r : List Int} {h : Int} {j : Nat} (hj : j ≤ r.length) : bLo d (r ++ [h]) j = bLo d r j := by
  unfold bLo
  congr 2
  apply List.map_congr_left
  intro k hk
  have := List.mem_range.mp hk
  rw [getD_snoc (by omega)]
theorem bHi_snoc {d : Nat → Nat → Int} {r : List Int} {h m : Int} {j : Nat} (hj : j ≤ r.length) : bHi d (r ++ [h]) j m = bHi d r j m := by
  unfold bHi
  congr 2
  apply List.map_congr_left
  intro k hk
  have := List.mem_range.mp hk
  rw [getD_snoc (by omega)]
theorem Bt_snoc {d : Nat → Nat → Int} {least limit : List Int} {p : Nat} {r : List Int} {h : Int} (hl : r.length = p) : Bt d least limit (p + 1) (r ++ [h]) = (Bt d least limit p r && (decide (max (bLo d r p) (least.getD p 0) ≤ h) && decide (h < bHi d r p (limit.getD p 0) + 1))) := by
  subst hl
  unfold Bt
  rw [all_succ]
  congr 1
  · refine all_congr' fun j hj => ?_
    have h1 := List.mem_range.mp hj
    rw [getD_snoc h1, bLo_snoc (by omega), bHi_snoc (by omega)]
  · rw [getD_last, bLo_snoc (Nat.le_refl _), bHi_snoc (Nat.le_refl _)]
theorem betw_eq {n M : Nat} {d : Nat → Nat → Int} {lo hi : List Int} (hf : ∀ p, p < n → (floor n d hi).getD p 0 ≤ (M : Int)) : betw n d lo hi = (pr M n).filter (Bt d (roof n d lo) (floor n d hi) n) := by
  unfold betw
  generalize roof n d lo = least
  generalize floor n d hi = limit at *
  have e := stage (M := M) (n := n) (S := Bt d least limit) (st := fun p r => rngI (max (bLo d r p) (least.getD p 0)) (bHi d r p (limit.getD p 0) + 1)) rfl (fun p hp r hl hr => ⟨fun hS => ?_, fun hS x hx => ?_⟩) n (Nat.le_refl _)
  · exact e
  · have a0 : 0 ≤ bLo d r p := by
      unfold bLo
      exact mx_ge List.mem_cons_self
    have b0 : bHi d r p (limit.getD p 0) ≤ limit.getD p 0 := by
      unfold bHi
      exact mn_le List.mem_cons_self
    have hfp := hf p hp
    rw [filter_and hS fun x _ => Bt_snoc hl]
    unfold hs
    rw [rng_filter (by omega)]
    congr 1
    omega
  · rw [Bt_snoc hl, hS, Bool.false_and]
end Lt
set_option maxHeartbeats 1000000
namespace Lt
open PySem L2 Evl
/-! ### plain: what the law asks -/
def SlR (rods : List Rd3) (r : List Int) : Prop := ∀ x ∈ rods, ab (r.getD x.1 0 - r.getD x.2.1 0) ≤ x.2.2
theorem getD06 {r : List Int} (h : Row06 r) (k : Nat) : 0 ≤ r.getD k 0 ∧ r.getD k 0 ≤ 6 := by
  by_cases hk : k < r.length
  · exact h _ (getD_mem hk)
  · rw [List.getD_eq_getElem?_getD, List.getElem?_eq_none (by omega)]
    simp
theorem ab_le {i j : Int} : ab i ≤ j ↔ i ≤ j ∧ -i ≤ j := by
  unfold ab
  by_cases h : i < 0
  · rw [if_pos h]
    omega
  · rw [if_neg h]
    omega
theorem met_row {n : Nat} {rods : List Rd3} {r : List Int} (h6 : Row06 r) (hs : SlR rods r) : Met n rods fun i j => ab (r.getD i 0 - r.getD j 0) := by
  refine ⟨fun i => ?_, fun i j => ?_, fun i j k => ?_, fun i j => ?_, hs⟩
  · show ab _ = 0
    rw [Int.sub_self] <;> rfl
  · show ab _ = ab _
    unfold ab
    by_cases h1 : r.getD i 0 - r.getD j 0 < 0 <;> by_cases h2 : r.getD j 0 - r.getD i 0 < 0
    · omega
    · rw [if_pos h1, if_neg h2]
      omega
    · rw [if_neg h1, if_pos h2]
      omega
    · rw [if_neg h1, if_neg h2]
      omega
  · show ab _ ≤ ab _ + ab _
    have a1 := (ab_le (i := r.getD i 0 - r.getD k 0)).mp (Int.le_refl _)
    have a2 := (ab_le (i := r.getD k 0 - r.getD j 0)).mp (Int.le_refl _)
    rw [ab_le]
    omega
  · show ab _ ≤ 999
    have a1 := getD06 h6 i
    have a2 := getD06 h6 j
    rw [ab_le]
    omega
/-- a table told of by the rods alone -/
structure Tel (n : Nat) (rods : List Rd3) (d : Nat → Nat → Int) : Prop where
  low : ∀ e, Met n rods e → ∀ a b, a < n → b < n → e a b ≤ d a b
  rod : ∀ x ∈ rods, d x.1 x.2.1 ≤ x.2.2
theorem fw_tel {n : Nat} {rods : List Rd3} (N : NetOk n rods) : Tel n rods (fw n rods) := ⟨fun e h => fw_low N h, fun x hx => (fw_rod N hx).1⟩
theorem bf_tel {n : Nat} {rods : List Rd3} (N : NetOk n rods) : Tel n rods (bf n rods) := ⟨fun e h => bf_low N h, fun x hx => (bf_rod N hx).1⟩
theorem Sl_iff {n : Nat} {rods : List Rd3} {d : Nat → Nat → Int} {r : List Int} (N : NetOk n rods) (D : Tel n rods d) (h6 : Row06 r) : Sl d n r = true ↔ SlR rods r := by
  unfold Sl
  constructor
  · intro h x hx
    obtain ⟨h1, h2, h3, h4⟩ := N.ok x hx
    have a := List.all_eq_true.mp h x.2.1 (List.mem_range.mpr h2)
    have b := List.all_eq_true.mp a x.1 (List.mem_range.mpr h1)
    have c : ¬ d x.1 x.2.1 < ab (r.getD x.1 0 - r.getD x.2.1 0) := by simpa using b
    have := D.rod x hx
    omega
  · intro h
    have M := met_row (n := n) h6 h
    refine List.all_eq_true.mpr fun j hj => List.all_eq_true.mpr fun k hk => ?_
    have h1 := List.mem_range.mp hj
    have h2 := List.mem_range.mp hk
    have := D.low _ M k j (by omega) h1
    have q : ¬ d k j < ab (r.getD k 0 - r.getD j 0) := by omega
    rw [decide_eq_false q] <;> rfl
theorem Sl_same {n : Nat} {rods : List Rd3} {r : List Int} (N : NetOk n rods) (h6 : Row06 r) : Sl (fw n rods) n r = Sl (bf n rods) n r := by
  rw [Bool.eq_iff_iff, Sl_iff N (fw_tel N) h6, Sl_iff N (bf_tel N) h6]
theorem all_pairs {n : Nat} {rods : List Rd3} {r : List Int} (N : NetOk n rods) (h6 : Row06 r) (h : SlR rods r) : ∀ i j, i < n → j < n → r.getD i 0 - r.getD j 0 ≤ fw n rods i j := fun i j hi hj => by
  have := fw_low N (met_row (n := n) h6 h) i j hi hj
  exact (ab_le.mp this).1
def inb (n : Nat) (lo hi r : List Int) : Bool := (List.range n).all fun k => decide (lo.getD k 0 ≤ r.getD k 0) && decide (r.getD k 0 ≤ hi.getD k 0)
def above (n : Nat) (lo r : List Int) : Bool := (List.range n).all fun k => !decide (r.getD k 0 < lo.getD k 0)
theorem roof_ge {n p : Nat} {d : Nat → Nat → Int} {lo : List Int} (hd : d p p = 0) (hp : p < n) : lo.getD p 0 ≤ (roof n d lo).getD p 0 := by
  rw [roof_at hp]
  have h := mx_ge (rg_mem (f := fun k => lo.getD k 0 - d k p) hp)
  rw [hd] at h
  omega
theorem floor_le {n p : Nat} {d : Nat → Nat → Int} {hi : List Int} (hd : d p p = 0) (hp : p < n) : (floor n d hi).getD p 0 ≤ hi.getD p 0 := by
  rw [floor_at hp]
  have h := mn_le (rg_mem (f := fun k => hi.getD k 0 + d k p) hp)
  rw [hd] at h
  omega
theorem roof_least {n : Nat} {rods : List Rd3} {lo r : List Int} (N : NetOk n rods) (h6 : Row06 r) (hS : SlR rods r) (h : ∀ p, p < n → lo.getD p 0 ≤ r.getD p 0) {p : Nat} (hp : p < n) : (roof n (fw n rods) lo).getD p 0 ≤ r.getD p 0 := by
  rw [roof_at hp]
  obtain ⟨k, hk, e⟩ := mem_rg (mx_mem (rg_ne (n := n) (f := fun k => lo.getD k 0 - fw n rods k p) (by omega)))
  rw [e]
  have a1 := h k hk
  have a2 := all_pairs N h6 hS k p hk hp
  omega
theorem floor_most {n : Nat} {rods : List Rd3} {hi r : List Int} (N : NetOk n rods) (h6 : Row06 r) (hS : SlR rods r) (h : ∀ p, p < n → r.getD p 0 ≤ hi.getD p 0) {p : Nat} (hp : p < n) : r.getD p 0 ≤ (floor n (fw n rods) hi).getD p 0 := by
  rw [floor_at hp]
  obtain ⟨k, hk, e⟩ := mem_rg (mn_mem (rg_ne (n := n) (f := fun k => hi.getD k 0 + fw n rods k p) (by omega)))
  rw [e]
  have a1 := h k hk
  have a2 := met_row (n := n) h6 hS
  have a3 := fw_low N a2 k p hk hp
  have a4 := (ab_le.mp a3).2
  omega
theorem Bt_iff {n : Nat} {rods : List Rd3} {lo hi r : List Int} (N : NetOk n rods) (h6 : Row06 r) : Bt (fw n rods) (roof n (fw n rods) lo) (floor n (fw n rods) hi) n r = (Sl (fw n rods) n r && inb n lo hi r) := by
  rw [Bool.eq_iff_iff, Bool.and_eq_true, Sl_iff N (fw_tel N) h6]
  have FO := fw_ok N
  unfold Bt inb
  constructor
  · intro h
    have key : ∀ j, j < n → max (bLo (fw n rods) r j) ((roof n (fw n rods) lo).getD j 0) ≤ r.getD j 0 ∧ r.getD j 0 < bHi (fw n rods) r j ((floor n (fw n rods) hi).getD j 0) + 1 := fun j hj => by
      have a := List.all_eq_true.mp h j (List.mem_range.mpr hj)
      rw [Bool.and_eq_true] at a
      exact ⟨of_decide_eq_true a.1, of_decide_eq_true a.2⟩
    constructor
    · intro x hx
      obtain ⟨h1, h2, h3, h4⟩ := N.ok x hx
      obtain ⟨k1, k2⟩ := key x.2.1 h2
      have b1 : r.getD x.1 0 - fw n rods x.1 x.2.1 ≤ bLo (fw n rods) r x.2.1 := mx_ge (List.mem_cons_of_mem _ (rg_mem (f := fun k => r.getD k 0 - fw n rods k x.2.1) h1))
      have b2 : bHi (fw n rods) r x.2.1 ((floor n (fw n rods) hi).getD x.2.1 0) ≤ r.getD x.1 0 + fw n rods x.1 x.2.1 := mn_le (List.mem_cons_of_mem _ (rg_mem (f := fun k => r.getD k 0 + fw n rods k x.2.1) h1))
      have b3 := (fw_tel N).rod x hx
      rw [ab_le]
      omega
    · refine List.all_eq_true.mpr fun j hj => ?_
      have hj' := List.mem_range.mp hj
      obtain ⟨k1, k2⟩ := key j hj'
      have b1 := roof_ge (lo := lo) (FO.diag j hj') hj'
      have b2 := floor_le (hi := hi) (FO.diag j hj') hj'
      have b3 : bHi (fw n rods) r j ((floor n (fw n rods) hi).getD j 0) ≤ (floor n (fw n rods) hi).getD j 0 := mn_le List.mem_cons_self
      rw [Bool.and_eq_true]
      exact ⟨decide_eq_true (by omega), decide_eq_true (by omega)⟩
  · rintro ⟨hS, h⟩
    have hb : ∀ j, j < n → lo.getD j 0 ≤ r.getD j 0 ∧ r.getD j 0 ≤ hi.getD j 0 := fun j hj => by
      have a := List.all_eq_true.mp h j (List.mem_range.mpr hj)
      rw [Bool.and_eq_true] at a
      exact ⟨of_decide_eq_true a.1, of_decide_eq_true a.2⟩
    refine List.all_eq_true.mpr fun j hj => ?_
    have hj' := List.mem_range.mp hj
    have c1 := roof_least (lo := lo) N h6 hS (fun p hp => (hb p hp).1) hj'
    have c2 := floor_most (hi := hi) N h6 hS (fun p hp => (hb p hp).2) hj'
    have c3 : bLo (fw n rods) r j ≤ r.getD j 0 := by
      unfold bLo
      rcases List.mem_cons.mp (mx_mem (ns := 0 :: (List.range j).map fun k => r.getD k 0 - fw n rods k j) (by simp)) with e | e
      · rw [e]
        exact (getD06 h6 j).1
      · obtain ⟨k, hk, e⟩ := mem_rg e
        rw [e]
        have := all_pairs N h6 hS k j (by omega) hj'
        omega
    have c4 : r.getD j 0 ≤ bHi (fw n rods) r j ((floor n (fw n rods) hi).getD j 0) := by
      unfold bHi
      rcases List.mem_cons.mp (mn_mem (ns := (floor n (fw n rods) hi).getD j 0 :: (List.range j).map fun k => r.getD k 0 + fw n rods k j) (by simp)) with e | e
      · rw [e]
        exact c2
      · obtain ⟨k, hk, e⟩ := mem_rg e
        rw [e]
        have := (ab_le.mp (fw_low N (met_row (n := n) h6 hS) k j (by omega) hj')).2
        omega
    rw [Bool.and_eq_true]
    exact ⟨decide_eq_true (by omega), decide_eq_true (by omega)⟩
theorem pr06 {M n : Nat} {r : List Int} (hM : M ≤ 6) (h : r ∈ pr M n) : r.length = n ∧ Row06 r := by
  obtain ⟨h1, h2⟩ := pr_mem.mp h
  exact ⟨h1, fun x hx => by
    have := mem_hs.mp (h2 x hx)
    omega⟩
/-- the rows between, told twice -/
theorem between_eq {n : Nat} {rods : List Rd3} {lo hi : List Int} (N : NetOk n rods) (ll : hi.length = n) (h6 : Row06 hi) : betw n (fw n rods) lo hi = (slopes n (bf n rods) 6).filter (inb n lo hi) := by
  rw [betw_eq (M := 6) fun p hp => (floor_ok (fw_ok N) ll h6 hp).2, slopes_eq, List.filter_filter]
  apply List.filter_congr
  intro r hr
  obtain ⟨h1, h2⟩ := pr06 (Nat.le_refl _) hr
  rw [Bt_iff N h2, Sl_same N h2, Bool.and_comm]
theorem above_eq {n m : Nat} {rods : List Rd3} {lo : List Int} (N : NetOk n rods) (hm : m ≤ 6) : betw n (fw n rods) lo (List.replicate n (m : Int)) = (slopes n (bf n rods) m).filter (above n lo) := by
  have gr : ∀ p, p < n → (List.replicate n (m : Int)).getD p 0 = m := fun p hp => by
    rw [List.getD_eq_getElem?_getD, List.getElem?_replicate, if_pos hp] <;> rfl
  rw [betw_eq (M := m) fun p hp => by
    have := floor_le (hi := List.replicate n (m : Int)) ((fw_ok N).diag p hp) hp
    rw [gr p hp] at this
    exact this, slopes_eq, List.filter_filter]
  apply List.filter_congr
  intro r hr
  obtain ⟨h1, h2⟩ := pr06 hm hr
  rw [Bt_iff N h2, Sl_same N h2, Bool.and_comm]
  congr 1
  unfold inb above
  refine all_congr' fun k hk => ?_
  have hk' := List.mem_range.mp hk
  have hx := mem_hs.mp ((pr_mem.mp hr).2 _ (getD_mem (r := r) (k := k) (by omega)))
  rw [gr k hk', decide_eq_true hx.2, Bool.and_true, Bool.eq_iff_iff, decide_eq_true_iff]
  simp
/-- the least and the greatest -/
theorem row_mem {n : Nat} {rods : List Rd3} {lo hi r : List Int} (N : NetOk n rods) (hl : r.length = n) (h6 : Row06 r) (hS : SlR rods r) (hb : ∀ p, p < n → lo.getD p 0 ≤ r.getD p 0 ∧ r.getD p 0 ≤ hi.getD p 0) : r ∈ (slopes n (bf n rods) 6).filter (inb n lo hi) := by
  rw [slopes_eq, List.mem_filter, List.mem_filter]
  refine ⟨⟨pr_mem.mpr ⟨hl, fun x hx => mem_hs.mpr (h6 x hx)⟩, (Sl_iff N (bf_tel N) h6).mpr hS⟩, ?_⟩
  unfold inb
  refine List.all_eq_true.mpr fun k hk => ?_
  obtain ⟨h1, h2⟩ := hb k (List.mem_range.mp hk)
  rw [Bool.and_eq_true]
  exact ⟨decide_eq_true h1, decide_eq_true h2⟩
theorem mem_row {n : Nat} {rods : List Rd3} {lo hi r : List Int} (N : NetOk n rods) (h : r ∈ (slopes n (bf n rods) 6).filter (inb n lo hi)) : r.length = n ∧ Row06 r ∧ SlR rods r ∧ ∀ p, p < n → lo.getD p 0 ≤ r.getD p 0 ∧ r.getD p 0 ≤ hi.getD p 0 := by
  rw [slopes_eq, List.mem_filter, List.mem_filter] at h
  obtain ⟨⟨h1, h2⟩, h3⟩ := h
  obtain ⟨g1, g2⟩ := pr06 (Nat.le_refl _) h1
  refine ⟨g1, g2, (Sl_iff N (bf_tel N) g2).mp h2, fun p hp => ?_⟩
  have a := List.all_eq_true.mp h3 p (List.mem_range.mpr hp)
  rw [Bool.and_eq_true] at a
  exact ⟨of_decide_eq_true a.1, of_decide_eq_true a.2⟩
theorem roof06 {n : Nat} {rods : List Rd3} {lo : List Int} (N : NetOk n rods) (ll : lo.length = n) (l6 : Row06 lo) : Row06 (roof n (fw n rods) lo) := fun x hx => by
  obtain ⟨p, hp, e⟩ := List.getElem_of_mem hx
  have hp' : p < n := by rw [roof_len] at hp; exact hp
  have := roof_ok (fw_ok N) ll l6 hp'
  rw [List.getD_eq_getElem?_getD, List.getElem?_eq_getElem hp] at this
  rw [← e]
  exact this
theorem floor06 {n : Nat} {rods : List Rd3} {hi : List Int} (N : NetOk n rods) (ll : hi.length = n) (l6 : Row06 hi) : Row06 (floor n (fw n rods) hi) := fun x hx => by
  obtain ⟨p, hp, e⟩ := List.getElem_of_mem hx
  have hp' : p < n := by rw [floor_len] at hp; exact hp
  have := floor_ok (fw_ok N) ll l6 hp'
  rw [List.getD_eq_getElem?_getD, List.getElem?_eq_getElem hp] at this
  rw [← e]
  exact this
theorem roof_slope {n : Nat} {rods : List Rd3} {lo : List Int} (N : NetOk n rods) : SlR rods (roof n (fw n rods) lo) := by
  have key : ∀ i j, i < n → j < n → (roof n (fw n rods) lo).getD i 0 - (roof n (fw n rods) lo).getD j 0 ≤ fw n rods i j := fun i j hi hj => by
    rw [roof_at hi, roof_at hj]
    obtain ⟨k, hk, e⟩ := mem_rg (mx_mem (rg_ne (n := n) (f := fun k => lo.getD k 0 - fw n rods k i) (by omega)))
    have a1 := mx_ge (rg_mem (f := fun k => lo.getD k 0 - fw n rods k j) hk)
    have a2 := (fw_inv N).tri k j i hk hj hi
    rw [e]
    omega
  intro x hx
  obtain ⟨h1, h2, h3, h4⟩ := N.ok x hx
  have b := fw_rod N hx
  have c1 := key x.1 x.2.1 (by omega) h2
  have c2 := key x.2.1 x.1 h2 (by omega)
  rw [ab_le]
  omega
theorem floor_slope {n : Nat} {rods : List Rd3} {hi : List Int} (N : NetOk n rods) : SlR rods (floor n (fw n rods) hi) := by
  have key : ∀ i j, i < n → j < n → (floor n (fw n rods) hi).getD i 0 - (floor n (fw n rods) hi).getD j 0 ≤ fw n rods j i := fun i j hi' hj => by
    rw [floor_at hi', floor_at hj]
    obtain ⟨k, hk, e⟩ := mem_rg (mn_mem (rg_ne (n := n) (f := fun k => hi.getD k 0 + fw n rods k j) (by omega)))
    have a1 := mn_le (rg_mem (f := fun k => hi.getD k 0 + fw n rods k i) hk)
    have a2 := (fw_inv N).tri k i j hk hi' hj
    rw [e]
    omega
  intro x hx
  obtain ⟨h1, h2, h3, h4⟩ := N.ok x hx
  have b := fw_rod N hx
  have c1 := key x.1 x.2.1 (by omega) h2
  have c2 := key x.2.1 x.1 h2 (by omega)
  rw [ab_le]
  omega
theorem over_iff {n : Nat} {a b : List Int} : over n a b = true ↔ ∃ p, p < n ∧ b.getD p 0 < a.getD p 0 := by
  unfold over
  rw [List.any_map, List.any_eq_true]
  constructor
  · rintro ⟨p, hp, h⟩
    exact ⟨p, List.mem_range.mp hp, of_decide_eq_true h⟩
  · rintro ⟨p, hp, h⟩
    exact ⟨p, List.mem_range.mpr hp, decide_eq_true h⟩
theorem over_nil {n : Nat} {rods : List Rd3} {lo hi : List Int} (N : NetOk n rods) (h : over n (roof n (fw n rods) lo) (floor n (fw n rods) hi) = true) : (slopes n (bf n rods) 6).filter (inb n lo hi) = [] := by
  obtain ⟨p, hp, hlt⟩ := over_iff.mp h
  refine List.eq_nil_iff_forall_not_mem.mpr fun r hr => ?_
  obtain ⟨h1, h2, h3, h4⟩ := mem_row N hr
  have a1 := roof_least (lo := lo) N h2 h3 (fun p hp => (h4 p hp).1) hp
  have a2 := floor_most (hi := hi) N h2 h3 (fun p hp => (h4 p hp).2) hp
  omega
theorem ends_in {n : Nat} {rods : List Rd3} {lo hi : List Int} (N : NetOk n rods) (ll : lo.length = n) (lh : hi.length = n) (l6 : Row06 lo) (h6 : Row06 hi) (h : over n (roof n (fw n rods) lo) (floor n (fw n rods) hi) = false) :
    roof n (fw n rods) lo ∈ (slopes n (bf n rods) 6).filter (inb n lo hi) ∧ floor n (fw n rods) hi ∈ (slopes n (bf n rods) 6).filter (inb n lo hi) := by
  have no : ∀ p, p < n → (roof n (fw n rods) lo).getD p 0 ≤ (floor n (fw n rods) hi).getD p 0 := fun p hp => by
    by_cases z : (floor n (fw n rods) hi).getD p 0 < (roof n (fw n rods) lo).getD p 0
    · rw [over_iff.mpr ⟨p, hp, z⟩] at h
      cases h
    · omega
  have g1 : ∀ p, p < n → lo.getD p 0 ≤ (roof n (fw n rods) lo).getD p 0 := fun p hp => roof_ge ((fw_ok N).diag p hp) hp
  have g2 : ∀ p, p < n → (floor n (fw n rods) hi).getD p 0 ≤ hi.getD p 0 := fun p hp => floor_le ((fw_ok N).diag p hp) hp
  constructor
  · exact row_mem N (roof_len _ _ _) (roof06 N ll l6) (roof_slope N) fun p hp => ⟨g1 p hp, by have := no p hp; have := g2 p hp; omega⟩
  · exact row_mem N (floor_len _ _ _) (floor06 N lh h6) (floor_slope N) fun p hp => ⟨by have := no p hp; have := g1 p hp; omega, g2 p hp⟩
theorem least_eq {n : Nat} {rods : List Rd3} {lo hi : List Int} (N : NetOk n rods) (ll : lo.length = n) (lh : hi.length = n) (l6 : Row06 lo) (h6 : Row06 hi) (h : over n (roof n (fw n rods) lo) (floor n (fw n rods) hi) = false) :
    (List.range n).map (fun p => mn (((slopes n (bf n rods) 6).filter (inb n lo hi)).map fun r => r.getD p 0)) = roof n (fw n rods) lo := by
  obtain ⟨hr, _⟩ := ends_in N ll lh l6 h6 h
  apply List.ext_getElem
  · rw [List.length_map, List.length_range, roof_len]
  intro p h1 h2
  have hp : p < n := by rw [roof_len] at h2; exact h2
  rw [List.getElem_map, List.getElem_range]
  have e : (roof n (fw n rods) lo)[p] = (roof n (fw n rods) lo).getD p 0 := by
    rw [List.getD_eq_getElem?_getD, List.getElem?_eq_getElem h2] <;> rfl
  rw [e]
  have hm := List.mem_map_of_mem (f := fun r : List Int => r.getD p 0) hr
  refine Int.le_antisymm (mn_le hm) ?_
  obtain ⟨r, hr', er⟩ := List.mem_map.mp (mn_mem (ns := ((slopes n (bf n rods) 6).filter (inb n lo hi)).map fun r => r.getD p 0) fun z => by rw [z] at hm; simp at hm)
  rw [← er]
  obtain ⟨q1, q2, q3, q4⟩ := mem_row N hr'
  exact roof_least N q2 q3 (fun p hp => (q4 p hp).1) hp
theorem most_eq {n : Nat} {rods : List Rd3} {lo hi : List Int} (N : NetOk n rods) (ll : lo.length = n) (lh : hi.length = n) (l6 : Row06 lo) (h6 : Row06 hi) (h : over n (roof n (fw n rods) lo) (floor n (fw n rods) hi) = false) :
    (List.range n).map (fun p => mx (((slopes n (bf n rods) 6).filter (inb n lo hi)).map fun r => r.getD p 0)) = floor n (fw n rods) hi := by
  obtain ⟨_, hr⟩ := ends_in N ll lh l6 h6 h
  apply List.ext_getElem
  · rw [List.length_map, List.length_range, floor_len]
  intro p h1 h2
  have hp : p < n := by rw [floor_len] at h2; exact h2
  rw [List.getElem_map, List.getElem_range]
  have e : (floor n (fw n rods) hi)[p] = (floor n (fw n rods) hi).getD p 0 := by
    rw [List.getD_eq_getElem?_getD, List.getElem?_eq_getElem h2] <;> rfl
  rw [e]
  have hm := List.mem_map_of_mem (f := fun r : List Int => r.getD p 0) hr
  refine Int.le_antisymm ?_ (mx_ge hm)
  obtain ⟨r, hr', er⟩ := List.mem_map.mp (mx_mem (ns := ((slopes n (bf n rods) 6).filter (inb n lo hi)).map fun r => r.getD p 0) fun z => by rw [z] at hm; simp at hm)
  rw [← er]
  obtain ⟨q1, q2, q3, q4⟩ := mem_row N hr'
  exact floor_most N q2 q3 (fun p hp => (q4 p hp).2) hp
theorem slopes_rows {n : Nat} {d : Nat → Nat → Int} {M : Nat} (hM : M ≤ 6) : ∀ p, RowsOk p ((List.range p).foldl (sStep d M) [[]])
  | 0 => ⟨fun r hr => by
      have er : r = [] := by simpa using hr
      subst er
      exact ⟨rfl, fun x hx => by simp at hx⟩, by simp⟩
  | p + 1 => by
    rw [fold_succ]
    exact sStep_ok hM (slopes_rows (n := n) hM p)
end Lt
set_option maxHeartbeats 1000000
namespace Lt
open PySem L2 Evl
section
variable {K : PySem.W.Frag} {σ : L2.St} {H : Hp} {te tl ta tb : TE} {D : Ends} {tz tu tw : TS} {E : XK} {P1 P2 P3 : VP}
theorem p_join {t : TS} (Mid : L2.St → Hp → Prop) (h : (∀ σ' H', Mid σ' H' → tz D σ' H') → t { D with nx := tz D } σ H) (k : ∀ σ' H', Mid σ' H' → tz D σ' H') : tSeq t tz D σ H := h k
theorem p_three {i j l : Nat} (h : EvP te σ H (vT [P1, P2, P3])) (k : ∀ v w x H1, Ex H H1 → P1.is H1 v → P2.is H1 w → P3.is H1 x → tz D (((σ.set i (some v)).set j (some w)).set l (some x)) H1) :
    tSeq (tAsg te (gTup K 3 (gCons (gName i) (gCons (gName j) (gCons (gName l) gNil))))) tz D σ H := h H (Ex.refl H) _ fun v H1 e p => g_three p fun x y z px py pz => k x y z H1 e px py pz
theorem p_two1 {i j : Nat} (h : EvP te σ H (vT [P1, P2])) (k : ∀ v w H1, Ex H H1 → P1.is H1 v → P2.is H1 w → D.nx ((σ.set i (some v)).set j (some w)) H1) : tAsg te (gTup K 2 (gCons (gName i) (gCons (gName j) gNil))) D σ H := h H (Ex.refl H) _ fun v H1 e p =>
  g_two p fun x y px py => k x y H1 e px py
theorem p_taken {r s : Addr} {ns : List Int} {i j : Nat} {m : Int} (c : Cel K H r s ns) (hσ : σ[i]? = some (some (.ref r))) (hm : EvP te σ H (vI m)) (h1 : 1 ≤ m ∧ m ≤ 1000) (k : ∀ (v : Int) H', Cel K H' r s ns → Kp r H H' → 0 ≤ v → v < m → tz D (σ.set j (some (.int v))) H') :
    tSeq (tAsg (tCall (spTaken K) [] E (tCons (tVar i) (tCons te tNil))) (gName j)) tz D σ H := call_taken c hσ hm h1 k
theorem draw_gt {r s : Addr} {ns : List Int} {g : Int → Int → Bool} (c : Cel K H r s ns) (hσ : σ[1]? = some (some (.ref r))) (h1 : ∀ H', Cel K H' r s ns → Kp r H H' → tu D σ H') (h2 : ∀ H', Cel K H' r s ns → Kp r H H' → tw D σ H') :
    tIfS (tTest (tOp (rI0 fun i j => .bl (g i j)) (tCall (spTaken K) [] E (tCons (tVar 1) (tCons (tC (.int 3)) tNil))) (tC (.int 0)))) tu tw D σ H := by
  refine call_taken c hσ e_c (by omega) fun v H' c' k' _ _ => ⟨v, 0, rfl, rfl, _, rfl, ?_⟩
  cases g v 0 with
  | true => exact h1 H' c' k'
  | false => exact h2 H' c' k'
theorem draw_eq {r s : Addr} {ns : List Int} (c : Cel K H r s ns) (hσ : σ[1]? = some (some (.ref r))) (h1 : ∀ H', Cel K H' r s ns → Kp r H H' → tu D σ H') (h2 : ∀ H', Cel K H' r s ns → Kp r H H' → tw D σ H') :
    tIfS (tTest (tOp rEq (tCall (spTaken K) [] E (tCons (tVar 1) (tCons (tC (.int 3)) tNil))) (tC (.int 0)))) tu tw D σ H := by
  refine call_taken c hσ e_c (by omega) fun v H' c' k' _ _ => ⟨rfl, _, rfl, ?_⟩
  cases decide (V.int v = V.int 0) with
  | true => exact h1 H' c' k'
  | false => exact h2 H' c' k'
theorem set_split {i j : Nat} {v : V} {g : TG} {tt : TT} {vs : List Nat} {rr : List V → Hp → VK → Prop} (hv : σ[i]? = some (some v)) (h : tb σ H fun y H1 => tAsg (tCB rr (tCons (tLc (ZN.iZipN K (tCons (tC v) (tCons (tC y) tNil))) g tt te vs) tNil)) (gName j) D σ H1) :
    tAsg (tCB rr (tCons (tLc (ZN.iZipN K (tCons (tVar i) (tCons tb tNil))) g tt te vs) tNil)) (gName j) D σ H := ⟨v, hv, h⟩
def zmin (n : Nat) (a b : List Int) : List Int := (List.range n).map fun i => min (a.getD i 0) (b.getD i 0)
def zmax (n : Nat) (a b : List Int) : List Int := (List.range n).map fun i => max (a.getD i 0) (b.getD i 0)
theorem zmin_ok {n : Nat} {a b : List Int} (ha : Row06 a) (hb : Row06 b) : (zmin n a b).length = n ∧ Row06 (zmin n a b) := ⟨by simp [zmin], fun x hx => by
  obtain ⟨k, hk, e⟩ := mem_rg hx
  have := getD06 ha k
  have := getD06 hb k
  omega⟩
theorem zmax_ok {n : Nat} {a b : List Int} (ha : Row06 a) (hb : Row06 b) : (zmax n a b).length = n ∧ Row06 (zmax n a b) := ⟨by simp [zmax], fun x hx => by
  obtain ⟨k, hk, e⟩ := mem_rg hx
  have := getD06 ha k
  have := getD06 hb k
  omega⟩
theorem e_zmin {n j : Nat} {a b : List Int} (ha : EvP ta σ H (vRow a)) (hb : EvP tb σ H (vRow b)) (la : a.length = n) (lb : b.length = n) (hn : n ≤ 4) (hw : ∀ x, wipe ((wipe σ [j]).set j (some x)) [j] = wipe σ [j]) (hg : ∀ x, ((wipe σ [j]).set j (some x))[j]? = some (some x)) :
    EvP (tCB (fun xs H Q => ∃ p ys, xs = [.ref p] ∧ ((SqL K H p ys ∧ ∀ l, H l = none → Q (.ref l) (upd H l (.tup ys))) ∨ (SqT K H p ys ∧ Q (.ref p) H))) (tCons (tLc (ZN.iZipN K (tCons ta (tCons tb tNil))) (gName j) tYes (tCB (LR.rMinT K) (tCons (tVar j) tNil)) [j]) tNil)) σ H (vRow (zmin n a b)) := by
  unfold zmin
  rw [vRow_map]
  exact e_tupleOf (e_lcN (n := n) (I := fun i => vT [vI (a.getD i 0), vI (b.getD i 0)]) (i_zipN ha hb (by simp [la]) (by simp [lb]) (fun i hi => map_get 0 i (by omega)) (fun i hi => map_get 0 i (by omega))) (by omega) (fun _ _ => stb_V) hw fun i x H1 hi e px => e_mnT (e_var (hg x) px))
theorem e_zmax {n j : Nat} {a b : List Int} (ha : EvP ta σ H (vRow a)) (hb : EvP tb σ H (vRow b)) (la : a.length = n) (lb : b.length = n) (hn : n ≤ 4) (hw : ∀ x, wipe ((wipe σ [j]).set j (some x)) [j] = wipe σ [j]) (hg : ∀ x, ((wipe σ [j]).set j (some x))[j]? = some (some x)) :
    EvP (tCB (fun xs H Q => ∃ p ys, xs = [.ref p] ∧ ((SqL K H p ys ∧ ∀ l, H l = none → Q (.ref l) (upd H l (.tup ys))) ∨ (SqT K H p ys ∧ Q (.ref p) H))) (tCons (tLc (ZN.iZipN K (tCons ta (tCons tb tNil))) (gName j) tYes (tCB (LR.rMaxT K) (tCons (tVar j) tNil)) [j]) tNil)) σ H (vRow (zmax n a b)) := by
  unfold zmax
  rw [vRow_map]
  exact e_tupleOf (e_lcN (n := n) (I := fun i => vT [vI (a.getD i 0), vI (b.getD i 0)]) (i_zipN ha hb (by simp [la]) (by simp [lb]) (fun i hi => map_get 0 i (by omega)) (fun i hi => map_get 0 i (by omega))) (by omega) (fun _ _ => stb_V) hw fun i x H1 hi e px => e_mxT (e_var (hg x) px))
theorem range_getD {α β : Type} (g : α → β) (z : α) (l : List α) : l.map g = (List.range l.length).map fun i => g (l.getD i z) := by
  apply List.ext_getElem
  · simp
  intro i h1 h2
  rw [List.getElem_map, List.getElem_map, List.getElem_range]
  have hi : i < l.length := by simpa using h1
  rw [List.getD_eq_getElem?_getD, List.getElem?_eq_getElem hi] <;> rfl
theorem giv_filter {α β : Type} (f : α → Bool) (g : α → β) (z : α) (l : List α) : giv l.length (fun i => f (l.getD i z)) (fun i => g (l.getD i z)) = (l.filter f).map g := by
  have e : l = (List.range l.length).map fun i => l.getD i z := by
    have := range_getD id z l
    rw [List.map_id] at this
    exact this
  have e2 : (l.filter f).map g = (((List.range l.length).map fun i => l.getD i z).filter f).map g := by rw [← e]
  rw [e2, List.filter_map, List.map_map] <;> rfl
/-- [told for told in rows if t] -/
theorem e_filt {t : TT} {j : Nat} {rows : List (List Int)} {f : List Int → Bool} (hl : EvP tl σ H (vRows rows)) (hz : rows.length ≤ 40000) (hw : ∀ x, wipe ((wipe σ [j]).set j (some x)) [j] = wipe σ [j]) (hg : ∀ x, ((wipe σ [j]).set j (some x))[j]? = some (some x))
    (ht : ∀ r x H1, r ∈ rows → Ex H H1 → (vRow r).is H1 x → EvT t ((wipe σ [j]).set j (some x)) H1 (f r)) : EvP (tLc (iList K tl) (gName j) t (tVar j) [j]) σ H (vRows (rows.filter f)) := by
  have e := e_lcNf (σ := σ) (H := H) (t := t) (vs := [j]) (j := j) (te := tVar j) (n := rows.length) (I := fun i => vRow (rows.getD i [])) (O := fun i => vRow (rows.getD i [])) (fun i => f (rows.getD i [])) (i_list (K := K) hl (by simp) (map_get [])) hz (fun _ _ => stb_row) hw
    (fun i x H1 hi e px => ht _ x H1 (by
      rw [List.getD_eq_getElem?_getD, List.getElem?_eq_getElem hi]
      exact List.getElem_mem hi) e px) (fun i x H1 hi e px _ => e_var (hg x) px)
  rw [giv_filter f vRow []] at e
  exact e
/-- [at for at in range(n) if t] == [] -/
theorem t_none {t : TT} {j i : Nat} {n : Nat} {f : Nat → Bool} (hn : n ≤ 4) (hi : ∀ H1, EvP (tVar i) σ H1 (vI (n : Int))) (hw : ∀ x, wipe ((wipe σ [j]).set j (some x)) [j] = wipe σ [j]) (hg : ∀ x, ((wipe σ [j]).set j (some x))[j]? = some (some x))
    (ht : ∀ k x H1, k < n → Ex H H1 → x = V.int (k : Int) → EvT t ((wipe σ [j]).set j (some x)) H1 (f k)) : EvT (tTest (tOp (rEqD K) (tLc (iRng1 (tCons (tVar i) tNil)) (gName j) t (tVar j) [j]) (tLst tNil))) σ H ((List.range n).all fun k => !f k) := by
  refine t_test (e_bool (e_eqNil (Ps := giv n f fun k => vI (k : Int)) (e_lcNf (n := n) (I := fun k => vI (k : Int)) (O := fun k => vI (k : Int)) f (i_rangeN (a_cons (hi H) a_nil) (by omega)) (by omega) (fun _ _ => stb_V) hw (fun k x H1 hk e px => ht k x H1 hk e px) (fun k x H1 hk e px _ => e_var (hg x) px)) ?_) (giv_nil _ _ _))
  intro O hO
  obtain ⟨k, _, _, rfl⟩ := giv_mem hO
  intro H v h
  obtain ⟨d, g1, g2, g3⟩ := dp_I (K := K) _ H v h
  exact ⟨d, g1, g2, by omega⟩
end
theorem p_join2 {t t2 tz : TS} {D : Ends} {σ : L2.St} {H : Hp} (Mid : L2.St → Hp → Prop) (h : (∀ σ' H', Mid σ' H' → tz D σ' H') → tSeq t (tSeq t2 tz) D σ H) (k : ∀ σ' H', Mid σ' H' → tz D σ' H') : tSeq t (tSeq t2 tz) D σ H := h k
theorem e_isNon {ta : TE} {σ : L2.St} {H : Hp} (ha : EvP ta σ H vN) : EvP (tOp (fun x y H Q => y = .non ∧ Q (.bl (decide (x = .non))) H) ta (tC .non)) σ H (vB true) :=
  e_op ha e_c fun x y H1 _ px py Q q => ⟨py, q _ H1 (Ex.refl H1) (by
    show V.bl _ = V.bl _
    rw [decide_eq_true (show x = .non from px)])⟩
theorem e_notNon {ta : TE} {σ : L2.St} {H : Hp} (ha : EvP ta σ H vN) : EvP (tOp (fun x y H Q => y = .non ∧ Q (.bl (!decide (x = .non))) H) ta (tC .non)) σ H (vB false) :=
  e_op ha e_c fun x y H1 _ px py Q q => ⟨py, q _ H1 (Ex.refl H1) (by
    show V.bl _ = V.bl _
    rw [decide_eq_true (show x = .non from px)] <;> rfl)⟩
theorem e_notN {K : PySem.W.Frag} {n : String} {P0 : VP} {ta : TE} {σ : L2.St} {H : Hp} (ha : EvP ta σ H P0) (hP : TyP K P0 n) : EvP (tOp (fun x y H Q => y = .non ∧ Q (.bl (!decide (x = .non))) H) ta (tC .non)) σ H (vB true) :=
  e_op ha e_c fun x y H1 _ px py Q q => ⟨py, q _ H1 (Ex.refl H1) (by
    show V.bl _ = V.bl _
    rw [decide_eq_false (hP _ _ px).2] <;> rfl)⟩
theorem dp_rows {K : PySem.W.Frag} (rows : List (List Int)) : ∀ P ∈ rows.map vRow, DpV K 1 P := fun P hP => by
  obtain ⟨r, _, rfl⟩ := List.mem_map.mp hP
  exact dp_row r
theorem stb_net (n : Nat) (rods : List Rd3) : Stb (vNet n rods) := stb_T fun O hO => by
  simp only [List.mem_cons, List.not_mem_nil, or_false] at hO
  rcases hO with rfl | rfl
  · exact stb_V
  · refine stb_T fun O hO => ?_
    obtain ⟨x, _, rfl⟩ := List.mem_map.mp hO
    refine stb_T fun O hO => ?_
    simp only [List.mem_cons, List.not_mem_nil, or_false] at hO
    rcases hO with rfl | rfl | rfl <;> exact stb_V
/-- what stands in the law's midst -/
structure Sit (K : PySem.W.Frag) (H : Hp) (r s : Addr) (ns : List Int) (n : Nat) (rods : List Rd3) (lo hi : List Int) (v2 v4 v6 v7 : V) : Prop where
  cel : Cel K H r s ns
  net : (vNet n rods).is H v2
  tab : (vTab n (bf n rods)).is H v4
  lo : (vRow lo).is H v6
  hi : (vRow hi).is H v7
theorem Sit.mono {K : PySem.W.Frag} {H H' : Hp} {r s : Addr} {ns : List Int} {n : Nat} {rods : List Rd3} {lo hi : List Int} {v2 v4 v6 v7 : V} (e : Ex H H') (h : Sit K H r s ns n rods lo hi v2 v4 v6 v7) : Sit K H' r s ns n rods lo hi v2 v4 v6 v7 :=
  ⟨h.cel.mono e, (vNet n rods).mono e h.net, (vTab n (bf n rods)).mono e h.tab, (vRow lo).mono e h.lo, (vRow hi).mono e h.hi⟩
theorem Sit.kp {K : PySem.W.Frag} {H H' : Hp} {r s : Addr} {ns : List Int} {n : Nat} {rods : List Rd3} {lo hi : List Int} {v2 v4 v6 v7 : V} (hn : 1 ≤ n) (h : Sit K H r s ns n rods lo hi v2 v4 v6 v7) (c : Cel K H' r s ns) (k : Kp r H H') : Sit K H' r s ns n rods lo hi v2 v4 v6 v7 :=
  ⟨c, (stb_net n rods).c.go h.cel c k h.net, (stc_tab hn _).go h.cel c k h.tab, stb_row.c.go h.cel c k h.lo, stb_row.c.go h.cel c k h.hi⟩
def spLaw (K : PySem.W.Frag) : Sp := fun vs H Q _ => ∃ (a : Addr) (ns : List Int), vs = [.ref a] ∧ SqL K H a (ns.map V.int) ∧ ns.length ≤ 63 ∧ ∀ H', Q (.bl true) H'
section
variable {P : Program} {w : World} {K : PySem.W.Frag} {mg : Str → Option Value} {base : Heap} {C : Addr}
theorem ok_law (T : Txt K mg C) (F_law : Fd K mg "law" s_law p_law) (F__law_net : Fd K mg "_law_net" s__law_net p__law_net) (F__law_pick : Fd K mg "_law_pick" s__law_pick p__law_pick) (F__law_far : Fd K mg "_law_far" s__law_far p__law_far) (F__law_heights : Fd K mg "_law_heights" s__law_heights p__law_heights) (F__law_taken : Fd K mg "_law_taken" s__law_taken p__law_taken) (F__law_roof : Fd K mg "_law_roof" s__law_roof p__law_roof) (F__law_slopes : Fd K mg "_law_slopes" s__law_slopes p__law_slopes) (F__law_alike : Fd K mg "_law_alike" s__law_alike p__law_alike) (F_number_between : Fd K mg "number_between" s_number_between p_number_between) (F_rows_above : Fd K mg "rows_above" s_rows_above p_rows_above) (F_first_between : Fd K mg "first_between" s_first_between p_first_between)
    (ok__law_net : FnOk P w K mg base CX0 2 F__law_net.f F__law_net.fd p__law_net (spNet K)) (ok__law_pick : FnOk P w K mg base CX0 2 F__law_pick.f F__law_pick.fd p__law_pick (spPick K)) (ok__law_far : FnOk P w K mg base CX0 1 F__law_far.f F__law_far.fd p__law_far (spF R__law_far))
    (ok__law_heights : FnOk P w K mg base CX0 2 F__law_heights.f F__law_heights.fd p__law_heights (spHeights K)) (ok__law_taken : FnOk P w K mg base CX0 1 F__law_taken.f F__law_taken.fd p__law_taken (spTaken K)) (ok__law_roof : FnOk P w K mg base CX0 1 F__law_roof.f F__law_roof.fd p__law_roof (spF R__law_roof))
    (ok__law_slopes : FnOk P w K mg base CX0 1 F__law_slopes.f F__law_slopes.fd p__law_slopes (spF R__law_slopes)) (ok__law_alike : FnOk P w K mg base CX0 3 F__law_alike.f F__law_alike.fd p__law_alike (spF (R__law_alike 3))) (ok_number_between : FnOk P w K mg base CX0 4 F_number_between.f F_number_between.fd p_number_between (spF R_number_between))
    (ok_rows_above : FnOk P w K mg base CX0 4 F_rows_above.f F_rows_above.fd p_rows_above (spF R_rows_above)) (ok_first_between : FnOk P w K mg base (L2.CX P w) 4 F_first_between.f F_first_between.fd p_first_between (spFB C)) :
    FnOk P w K mg base CX0 5 F_law.f F_law.fd p_law (spLaw K) := by
  refine F_law.F.ok sc_law (fun vs H Q E ⟨_, _, e, _⟩ => by subst e; rfl) (fun cdv A outer s H vs Q E hr h => ?_)
  obtain ⟨a, ns, rfl, hS, hlen, q⟩ := h
  have vi : ∀ (i : Int) H, (vI i).is H (.int i) := fun _ _ => rfl
  refine ⟨_, (pss_cons (ps_set (i := 1) sc_law.nd rfl (Or.inl rfl) (pe_lst (pa_cons (pv 0) (pa_cons pe_int (pa_cons pe_int (pa_cons pe_int pa_nil))))))
      (pss_cons (ps_set (i := 2) sc_law.nd rfl (Or.inl rfl) (pe_call ok__law_net (hr.mono (by decide)) (by rfl) F__law_net.g F__law_net.F.kp F__law_net.b .nil pass0 (pa_cons (pv 1) (pa_cons pe_int (pa_cons (pe_call ok__law_pick (hr.mono (by decide)) (by rfl) F__law_pick.g F__law_pick.F.kp F__law_pick.b .nil pass0 (pa_cons (pv 1) (pa_cons (pe_lst (pa_cons pe_int (pa_cons pe_int (pa_cons pe_int pa_nil)))) pa_nil))) pa_nil)))))
      (pss_cons (ps_asg (pe_tup (pa_cons (pe_ix (LK.ix_tup K) (pv 2) pe_int (fun _ _ => rfl)) (pa_cons (pe_call ok__law_far (hr.mono (by decide)) (by rfl) F__law_far.g F__law_far.F.kp F__law_far.b .nil pass0 (pa_cons (pv 2) pa_nil)) (pa_cons pe_int pa_nil)))) (pg_tup rfl (pgs_cons (pg_name (i := 3) sc_law.nd rfl (Or.inr rfl)) (pgs_cons (pg_name (i := 4) sc_law.nd rfl (Or.inl rfl)) (pgs_cons (pg_name (i := 5) sc_law.nd rfl (Or.inl rfl)) pgs_nil)))))
      (pss_cons (ps_asg (pe_tup (pa_cons (pe_call ok__law_heights (hr.mono (by decide)) (by rfl) F__law_heights.g F__law_heights.F.kp F__law_heights.b .nil pass0 (pa_cons (pv 1) (pa_cons (pv 3) (pa_cons (pv 5) pa_nil)))) (pa_cons (pe_call ok__law_heights (hr.mono (by decide)) (by rfl) F__law_heights.g F__law_heights.F.kp F__law_heights.b .nil pass0 (pa_cons (pv 1) (pa_cons (pv 3) (pa_cons (pv 5) pa_nil)))) pa_nil))) (pg_tup rfl (pgs_cons (pg_name (i := 6) sc_law.nd rfl (Or.inr rfl)) (pgs_cons (pg_name (i := 7) sc_law.nd rfl (Or.inr rfl)) pgs_nil))))
      (pss_cons (ps_if (pt_cmpR op_gt (pe_call ok__law_taken (hr.mono (by decide)) (by rfl) F__law_taken.g F__law_taken.F.kp F__law_taken.b .nil pass0 (pa_cons (pv 1) (pa_cons pe_int pa_nil))) pe_int (nomark _)) (pss_one (ps_asg (pe_tup (pa_cons (pe_callTy (LK.call_tuple_of K) (by rfl) T.tuple (by decide +kernel) (pa_cons (pe_lc (own := [("_law_pair", 13)]) (g := (gName 13)) rfl sc_law.nd (ZN.pi_zipN (by rfl) T.zip (pa_cons (pv 6) (pa_cons (pv 7) pa_nil))) (blkOk_by (own := [("_law_pair", 13)]) (N := n_law) (sc := defScope s_law) (by decide +kernel)) (fun _ _ _ _ _ => (pg_name (i := 13) sc_law.nd rfl (Or.inl rfl))) (fun _ _ _ _ _ => pts_nil) (fun _ _ _ _ _ => (pe_callB (LK.cr_minT K hr.units) (by rfl) T.min (by decide +kernel) (pa_cons (pv 13) pa_nil)))) pa_nil)) (pa_cons (pe_callTy (LK.call_tuple_of K) (by rfl) T.tuple (by decide +kernel) (pa_cons (pe_lc (own := [("_law_pair", 13)]) (g := (gName 13)) rfl sc_law.nd (ZN.pi_zipN (by rfl) T.zip (pa_cons (pv 6) (pa_cons (pv 7) pa_nil))) (blkOk_by (own := [("_law_pair", 13)]) (N := n_law) (sc := defScope s_law) (by decide +kernel)) (fun _ _ _ _ _ => (pg_name (i := 13) sc_law.nd rfl (Or.inl rfl))) (fun _ _ _ _ _ => pts_nil) (fun _ _ _ _ _ => (pe_callB (LK.cr_maxT K hr.units) (by rfl) T.max (by decide +kernel) (pa_cons (pv 13) pa_nil)))) pa_nil)) pa_nil))) (pg_tup rfl (pgs_cons (pg_name (i := 6) sc_law.nd rfl (Or.inr rfl)) (pgs_cons (pg_name (i := 7) sc_law.nd rfl (Or.inr rfl)) pgs_nil))))) pss_nil)
      (pss_cons (ps_if (pt_cmpR op_eq (pe_call ok__law_taken (hr.mono (by decide)) (by rfl) F__law_taken.g F__law_taken.F.kp F__law_taken.b .nil pass0 (pa_cons (pv 1) (pa_cons pe_int pa_nil))) pe_int (nomark _)) (pss_one (ps_set (i := 7) sc_law.nd rfl (Or.inr rfl) (pe_callTy (LK.call_tuple_of K) (by rfl) T.tuple (by decide +kernel) (pa_cons (pe_lc (own := [("_law_pair", 13)]) (g := (gName 13)) rfl sc_law.nd (ZN.pi_zipN (by rfl) T.zip (pa_cons (pv 7) (pa_cons (pe_call ok__law_roof (hr.mono (by decide)) (by rfl) F__law_roof.g F__law_roof.F.kp F__law_roof.b .nil pass0 (pa_cons (pv 4) (pa_cons (pv 6) pa_nil))) pa_nil))) (blkOk_by (own := [("_law_pair", 13)]) (N := n_law) (sc := defScope s_law) (by decide +kernel)) (fun _ _ _ _ _ => (pg_name (i := 13) sc_law.nd rfl (Or.inl rfl))) (fun _ _ _ _ _ => pts_nil) (fun _ _ _ _ _ => (pe_callB (LK.cr_maxT K hr.units) (by rfl) T.max (by decide +kernel) (pa_cons (pv 13) pa_nil)))) pa_nil)))) pss_nil)
      (pss_cons (ps_set (i := 8) sc_law.nd rfl (Or.inr rfl) (pe_lc (own := [("_law_told", 14)]) (g := (gName 14)) rfl sc_law.nd (LK.pi_list K (pe_call ok__law_slopes (hr.mono (by decide)) (by rfl) F__law_slopes.g F__law_slopes.F.kp F__law_slopes.b .nil pass0 (pa_cons (pv 4) (pa_cons (pv 5) pa_nil)))) (blkOk_by (own := [("_law_told", 14)]) (N := n_law) (sc := defScope s_law) (by decide +kernel)) (fun _ _ _ _ _ => (pg_name (i := 14) sc_law.nd rfl (Or.inr rfl))) (fun _ _ _ _ _ => (pts_one (pt_cmpR (LK.op_eqD K hr.units) (pe_lc (own := [("_law_at", 15)]) (g := (gName 15)) rfl sc_law.nd (pi_range1 rfl T.range (pa_cons (pv 3) pa_nil)) (blkOk_by (own := [("_law_at", 15)]) (N := n_law) (sc := (relS { kind := .function, names := [(PySem.Str.ofString ".0", .local), (PySem.Str.ofString "_law_told", .cell), (PySem.Str.ofString "range", .globalImplicit), (PySem.Str.ofString "_law_many", .free), (PySem.Str.ofString "_law_one", .free), (PySem.Str.ofString "_law_other", .free)], isGenerator := false, isCoroutine := false, more := [] } (defScope s_law))) (by decide +kernel)) (fun _ _ _ _ _ => (pg_name (i := 15) sc_law.nd rfl (Or.inl rfl))) (fun _ _ _ _ _ => (pts_one (pt_not (pt_chain op_le op_le (pe_ix (LK.ix_tup K) (pv 6) (pv 15) (fun _ _ => rfl)) (pe_ix (LK.ix_tup K) (pv 14) (pv 15) (fun _ _ => rfl)) (pe_ix (LK.ix_tup K) (pv 7) (pv 15) (fun _ _ => rfl)))))) (fun _ _ _ _ _ => (pv 15))) (pe_lst pa_nil) (nomark _)))) (fun _ _ _ _ _ => (pv 14))))
      (pss_cons (ps_if (pt_not (pt_val (pe_call ok__law_alike (hr.mono (by decide)) (by rfl) F__law_alike.g F__law_alike.F.kp F__law_alike.b .nil pass0 (pa_cons (pe_call ok_number_between (hr.mono (by decide)) (by rfl) F_number_between.g F_number_between.F.kp F_number_between.b .nil pass0 (pa_cons (pv 2) (pa_cons (pv 6) (pa_cons (pv 7) pa_nil)))) (pa_cons (pe_callB (LK.call_len_seq K) (by rfl) T.len (by decide +kernel) (pa_cons (pv 8) pa_nil)) pa_nil))))) (pss_one (ps_ret pe_bl)) pss_nil)
      (pss_cons (ps_set (i := 9) sc_law.nd rfl (Or.inl rfl) pe_non)
      (pss_cons (ps_try_only (tb := fun W => tAsg (tCallS (spFB C) (WE W) (tCons (tVar 2) (tCons (tVar 6) (tCons (tVar 7) tNil)))) (gName 9)) (ts := fun _ _ _ => tAsg (tC .non) (gName 9)) (Wout := fun _ _ _ _ => False) rfl rfl ⟨rfl, by decide, .inl T.gP⟩ takes0 (fun W pn xe tk _ => (pss_one (ps_set (i := 9) sc_law.nd rfl (Or.inl rfl) (by exact (pe_callS ok_first_between (hr.mono (by decide)) rfl F_first_between.g F_first_between.F.kp F_first_between.b (fun σ => passAt tk σ) (by exact (pa_cons (pv 2) (pa_cons (pv 6) (pa_cons (pv 7) pa_nil))))))))) (fun a oe cls d pn hz hf => (pss_one (ps_set (i := 9) sc_law.nd rfl (Or.inl rfl) pe_non))))
      (pss_cons (ps_if (pt_cmpR op_ne (pe_cmpR op_isN (pv 9) pe_non (nomark _)) (pe_cmpR (LK.op_eqD K hr.units) (pv 8) (pe_lst pa_nil) (nomark _)) (nomark _)) (pss_one (ps_ret pe_bl)) pss_nil)
      (pss_cons (ps_if (pt_cmpR op_notN (pv 9) pe_non (nomark _)) (pss_cons (ps_set (i := 10) sc_law.nd rfl (Or.inl rfl) (pe_callTy (LK.call_tuple_of K) (by rfl) T.tuple (by decide +kernel) (pa_cons (pe_lc (own := [("_law_at", 15)]) (g := (gName 15)) rfl sc_law.nd (pi_range1 rfl T.range (pa_cons (pv 3) pa_nil)) (blkOk_by (own := [("_law_at", 15)]) (N := n_law) (sc := defScope s_law) (by decide +kernel)) (fun _ _ _ _ _ => (pg_name (i := 15) sc_law.nd rfl (Or.inr rfl))) (fun _ _ _ _ _ => pts_nil) (fun _ _ _ _ _ => (pe_callB (LK.cr_min K) (by rfl) T.min (by decide +kernel) (pa_cons (pe_lc (own := [("_law_told", 14)]) (g := (gName 14)) rfl sc_law.nd (LK.pi_list K (pv 8)) (blkOk_by (own := [("_law_told", 14)]) (N := n_law) (sc := (relS { kind := .function, names := [(PySem.Str.ofString ".0", .local), (PySem.Str.ofString "_law_at", .cell), (PySem.Str.ofString "min", .globalImplicit), (PySem.Str.ofString "_law_rows", .free)], isGenerator := false, isCoroutine := false, more := [] } (defScope s_law))) (by decide +kernel)) (fun _ _ _ _ _ => (pg_name (i := 14) sc_law.nd rfl (Or.inl rfl))) (fun _ _ _ _ _ => pts_nil) (fun _ _ _ _ _ => (pe_ix (LK.ix_tup K) (pv 14) (pv 15) (fun _ _ => rfl)))) pa_nil)))) pa_nil)))
      (pss_one (ps_if (pt_not (pt_val (pe_call ok__law_alike (hr.mono (by decide)) (by rfl) F__law_alike.g F__law_alike.F.kp F__law_alike.b .nil pass0 (pa_cons (pv 9) (pa_cons (pe_tup (pa_cons (pv 10) (pa_cons (pe_callTy (LK.call_tuple_of K) (by rfl) T.tuple (by decide +kernel) (pa_cons (pe_lc (own := [("_law_at", 15)]) (g := (gName 15)) rfl sc_law.nd (pi_range1 rfl T.range (pa_cons (pv 3) pa_nil)) (blkOk_by (own := [("_law_at", 15)]) (N := n_law) (sc := defScope s_law) (by decide +kernel)) (fun _ _ _ _ _ => (pg_name (i := 15) sc_law.nd rfl (Or.inr rfl))) (fun _ _ _ _ _ => pts_nil) (fun _ _ _ _ _ => (pe_callB (LK.cr_max K) (by rfl) T.max (by decide +kernel) (pa_cons (pe_lc (own := [("_law_told", 14)]) (g := (gName 14)) rfl sc_law.nd (LK.pi_list K (pv 8)) (blkOk_by (own := [("_law_told", 14)]) (N := n_law) (sc := (relS { kind := .function, names := [(PySem.Str.ofString ".0", .local), (PySem.Str.ofString "_law_at", .cell), (PySem.Str.ofString "max", .globalImplicit), (PySem.Str.ofString "_law_rows", .free)], isGenerator := false, isCoroutine := false, more := [] } (defScope s_law))) (by decide +kernel)) (fun _ _ _ _ _ => (pg_name (i := 14) sc_law.nd rfl (Or.inl rfl))) (fun _ _ _ _ _ => pts_nil) (fun _ _ _ _ _ => (pe_ix (LK.ix_tup K) (pv 14) (pv 15) (fun _ _ => rfl)))) pa_nil)))) pa_nil)) pa_nil))) pa_nil))))) (pss_one (ps_ret pe_bl)) pss_nil))) pss_nil)
      (pss_cons (ps_set (i := 11) sc_law.nd rfl (Or.inl rfl) (pe_call ok__law_taken (hr.mono (by decide)) (by rfl) F__law_taken.g F__law_taken.F.kp F__law_taken.b .nil pass0 (pa_cons (pv 1) (pa_cons (pe_op op_add (pv 5) pe_int) pa_nil))))
      (pss_cons (ps_setLc (i := 12) (own := [("_law_told", 14)]) (g := (gName 14)) rfl sc_law.nd rfl rfl (sw_true rfl rfl rfl (by decide +kernel)) (LK.pi_list K (pe_call ok__law_slopes (hr.mono (by decide)) (by rfl) F__law_slopes.g F__law_slopes.F.kp F__law_slopes.b .nil pass0 (pa_cons (pv 4) (pa_cons (pv 11) pa_nil)))) (blkOk_by (own := [("_law_told", 14)]) (N := n_law) (sc := defScope s_law) (by decide +kernel)) (fun _ _ _ _ _ => (pg_name (i := 14) sc_law.nd rfl (Or.inr rfl))) (fun _ _ _ _ _ => (pts_one (pt_cmpR (LK.op_eqD K hr.units) (pe_lc (own := [("_law_at", 15)]) (g := (gName 15)) rfl sc_law.nd (pi_range1 rfl T.range (pa_cons (pv 3) pa_nil)) (blkOk_by (own := [("_law_at", 15)]) (N := n_law) (sc := (relS { kind := .function, names := [(PySem.Str.ofString ".0", .local), (PySem.Str.ofString "_law_told", .cell), (PySem.Str.ofString "range", .globalImplicit), (PySem.Str.ofString "_law_many", .free), (PySem.Str.ofString "_law_one", .free)], isGenerator := false, isCoroutine := false, more := [] } (defScope s_law))) (by decide +kernel)) (fun _ _ _ _ _ => (pg_name (i := 15) sc_law.nd rfl (Or.inl rfl))) (fun _ _ _ _ _ => (pts_one (pt_cmpR op_lt (pe_ix (LK.ix_tup K) (pv 14) (pv 15) (fun _ _ => rfl)) (pe_ix (LK.ix_tup K) (pv 6) (pv 15) (fun _ _ => rfl)) (nomark _)))) (fun _ _ _ _ _ => (pv 15))) (pe_lst pa_nil) (nomark _)))) (fun _ _ _ _ _ => (pv 14)))
      (pss_one (ps_ret (pe_call ok__law_alike (hr.mono (by decide)) (by rfl) F__law_alike.g F__law_alike.F.kp F__law_alike.b .nil pass0 (pa_cons (pe_call ok_rows_above (hr.mono (by decide)) (by rfl) F_rows_above.g F_rows_above.F.kp F_rows_above.b .nil pass0 (pa_cons (pv 2) (pa_cons (pv 6) (pa_cons (pv 11) pa_nil)))) (pa_cons (pv 12) pa_nil))))))))))))))))))), ?_⟩
  -- the cell
  refine ⟨_, rfl, sz_of (by show (4 : Nat) ≤ 100000; omega), fun r hnr => ?_⟩
  have c0 : Cel K (upd H r (.lst [.ref a, .int 0, .int 6840, .int 0])) r a ns := ⟨ex_l (fun x o hx => by
    have z : x ≠ r := ne_of_none hx hnr
    rw [rem_ne z, upd_ne z]
    exact hx) hS, 0, 6840, 0, by omega, upd_same⟩
  -- the net
  refine ⟨_, rfl, _, rfl, sz_of (by show (3 : Nat) ≤ 100000; omega), fun t ht => ⟨r, a, t, ns, c0.mono (Ex.new ht), rfl, c0.ne ht, upd_same, fun lg H2 c2 k2 l1 l4 => ⟨r, a, ns, lg, c2, rfl, ⟨l1, l4⟩, fun v2 H3 n rods c3 k3 N p2 => ?_⟩⟩⟩
  have hn1 := N.n1
  have hn4 := N.n4
  try dsimp only
  -- the table
  refine p_three (P1 := vI (n : Int)) (P2 := vTab n (bf n rods)) (P3 := vI 6) (e_tup (a_cons (e_ixT (k := 0) (e_var rfl p2) e_c rfl) (a_cons (e_call (a_cons (e_var rfl p2) a_nil) ⟨n, rods, N, rfl, rfl⟩) (a_cons e_c a_nil))) (by simp)) fun v3 v4 v5 H4 e4 p3 p4 p5 => ?_
  obtain rfl : v3 = .int (n : Int) := p3
  obtain rfl : v5 = .int 6 := p5
  have c4 := c3.mono e4
  have p2' := (vNet n rods).mono e4 p2
  -- two rows
  refine ⟨_, rfl, _, rfl, _, rfl, r, a, ns, n, 6, c4, rfl, hn4, by omega, fun v6 H5 lo c5 k5 ll l6 p6 => ⟨_, rfl, _, rfl, _, rfl, r, a, ns, n, 6, c5, rfl, hn4, by omega, fun v7 H6 hi c6 k6 lh h6 p7 => ⟨sz_of (by show (2 : Nat) ≤ 100000; omega), fun tp htp => ⟨tp, _, rfl, st_of upd_same, rfl, _, _, rfl, _, _, rfl, rfl, ?_⟩⟩⟩⟩
  have S6 : Sit K (upd H6 tp (.tup [v6, v7])) r a ns n rods lo hi v2 v4 v6 v7 := by
    have c46 := c4
    refine Sit.mono (Ex.new htp) ⟨c6, ?_, ?_, stb_row.c.go c5 c6 k6 p6, p7⟩
    · exact (stb_net n rods).c.go c5 c6 k6 ((stb_net n rods).c.go c4 c5 k5 p2')
    · exact (stc_tab hn1 _).go c5 c6 k6 ((stc_tab hn1 _).go c4 c5 k5 p4)
  try dsimp only
  generalize upd H6 tp (.tup [v6, v7]) = H7 at S6 ⊢
  have rowsOk : ∀ M, M ≤ 6 → RowsOk n (slopes n (bf n rods) M) := fun M hM => slopes_rows (n := n) hM n
  have few : ∀ M, M ≤ 6 → (slopes n (bf n rods) M).length ≤ 40000 := fun M hM => by
    have h1 := (rowsOk M hM).2
    have h2 := pow7 hn4
    omega
  -- the first draw of three
  refine p_join (fun σ' H' => ∃ lo hi v6 v7, Sit K H' r a ns n rods lo hi v2 v4 v6 v7 ∧ lo.length = n ∧ hi.length = n ∧ Row06 lo ∧ Row06 hi ∧ σ' = [some (.ref a), some (.ref r), some v2, some (.int (n : Int)), some v4, some (.int 6), some v6, some v7, none, none, none, none, none, none, none, none])
    (fun kk => draw_gt S6.cel rfl (fun H8 c8 k8 => ?_) (fun H8 c8 k8 => kk _ _ ⟨lo, hi, v6, v7, S6.kp hn1 c8 k8, ll, lh, l6, h6, rfl⟩)) ?_
  · have S8 := S6.kp hn1 c8 k8
    refine p_two1 (e_tup (a_cons (e_zmin (e_var rfl S8.lo) (e_var rfl S8.hi) ll lh hn4 (fun _ => rfl) (fun _ => rfl)) (a_cons (e_zmax (e_var rfl S8.lo) (e_var rfl S8.hi) ll lh hn4 (fun _ => rfl) (fun _ => rfl)) a_nil)) (by simp)) fun x y H9 e9 px py => ?_
    have S9 := S8.mono e9
    exact kk _ _ ⟨_, _, x, y, ⟨S9.cel, S9.net, S9.tab, px, py⟩, (zmin_ok l6 h6).1, (zmax_ok l6 h6).1, (zmin_ok l6 h6).2, (zmax_ok l6 h6).2, rfl⟩
  rintro σ' H8 ⟨lo, hi, v6, v7, S8, ll, lh, l6, h6, rfl⟩
  -- the second one
  refine p_join (fun σ' H' => ∃ lo hi v6 v7, Sit K H' r a ns n rods lo hi v2 v4 v6 v7 ∧ lo.length = n ∧ hi.length = n ∧ Row06 lo ∧ Row06 hi ∧ σ' = [some (.ref a), some (.ref r), some v2, some (.int (n : Int)), some v4, some (.int 6), some v6, some v7, none, none, none, none, none, none, none, none])
    (fun kk => draw_eq S8.cel rfl (fun H9 c9 k9 => ?_) (fun H9 c9 k9 => kk _ _ ⟨lo, hi, v6, v7, S8.kp hn1 c9 k9, ll, lh, l6, h6, rfl⟩)) ?_
  · have S9 := S8.kp hn1 c9 k9
    refine set_split rfl ?_
    refine e_call (P := vSome vRow fun r' => r'.length = n ∧ Row06 r') (a_cons (e_var rfl S9.tab) (a_cons (e_var rfl S9.lo) a_nil)) ⟨n, _, lo, hn4, bf_pos N, ll, l6, rfl, rfl⟩ H9 (Ex.refl _) _ fun y H10 e10 py => ?_
    obtain ⟨r', ⟨lr, r6⟩, py⟩ := py
    have S10 := S9.mono e10
    refine p_set1 (P := vRow (zmax n hi r')) (e_zmax (e_cv S10.hi) (e_cv py) lh lr hn4 (fun _ => rfl) (fun _ => rfl)) fun x H11 e11 px => ?_
    have S11 := S10.mono e11
    exact kk _ _ ⟨lo, _, v6, x, ⟨S11.cel, S11.net, S11.tab, S11.lo, px⟩, ll, (zmax_ok h6 r6).1, l6, (zmax_ok h6 r6).2, rfl⟩
  rintro σ' H9 ⟨lo, hi, v6, v7, S9, ll, lh, l6, h6, rfl⟩
  -- the rows between, by all rows
  refine p_set (P := vRows ((slopes n (bf n rods) 6).filter (inb n lo hi))) (e_filt (e_call (P := vRows (slopes n (bf n rods) 6)) (a_cons (e_var rfl S9.tab) (a_cons (e_var rfl (vi _ _)) a_nil)) ⟨n, _, 6, hn4, by omega, rfl, rfl⟩) (few 6 (by omega)) (fun _ => rfl) (fun _ => rfl) (fun ro x H10 hro e10 px => ?_)) fun v8 H10 e10 p8 => ?_
  · have S10 := S9.mono e10
    have lr := ((rowsOk 6 (by omega)).1 ro hro).1
    refine et_is (t_none (f := fun k => !(decide (lo.getD k 0 ≤ ro.getD k 0) && decide (ro.getD k 0 ≤ hi.getD k 0))) hn4 (fun _ => e_var rfl (vi _ _)) (fun _ => rfl) (fun _ => rfl) (fun k y H11 hk e11 ey => ?_)) (all_congr' fun k _ => Bool.not_not _)
    subst ey
    exact et_not (t_chain2 (e_row (e_var rfl ((vRow lo).mono e11 S10.lo)) (e_var rfl (vi _ _)) (by omega)) (e_row (e_var rfl ((vRow ro).mono e11 px)) (e_var rfl (vi _ _)) (by omega)) (e_row (e_var rfl ((vRow hi).mono e11 S10.hi)) (e_var rfl (vi _ _)) (by omega)))
  have S10 := S9.mono e10
  have DR : Drawn n rods lo hi := ⟨N, fw_ok N, ll, lh, l6, h6⟩
  -- how many
  refine p_no (et_is (et_not (t_test (e_call (P := vB true) (a_cons (e_is (e_call (a_cons (e_var rfl S10.net) (a_cons (e_var rfl S10.lo) (a_cons (e_var rfl S10.hi) a_nil))) ⟨n, rods, lo, hi, DR, rfl, rfl⟩) (by rw [between_eq N lh h6, List.length_map])) (a_cons (e_lenL (e_var rfl p8)) a_nil)) ⟨vI _, dat_I 2 _, rfl, rfl⟩))) rfl) fun H11 e11 => ?_
  have S11 := S10.mono e11
  have p8' := (vRows ((slopes n (bf n rods) 6).filter (inb n lo hi))).mono e11 p8
  refine p_set (P := vN) e_c fun v9 H12 e12 p9 => ?_
  have S12 := S11.mono e12
  have p8'' := (vRows ((slopes n (bf n rods) 6).filter (inb n lo hi))).mono e12 p8'
  -- the least and the greatest, or none
  refine p_join (fun σ' H' => ∃ v9, Sit K H' r a ns n rods lo hi v2 v4 v6 v7 ∧ (vRows ((slopes n (bf n rods) 6).filter (inb n lo hi))).is H' v8 ∧
      ((over n (roof n (fw n rods) lo) (floor n (fw n rods) hi) = true ∧ v9 = .non) ∨ (over n (roof n (fw n rods) lo) (floor n (fw n rods) hi) = false ∧ (vT [vRow (roof n (fw n rods) lo), vRow (floor n (fw n rods) hi)]).is H' v9)) ∧
      σ' = [some (.ref a), some (.ref r), some v2, some (.int (n : Int)), some v4, some (.int 6), some v6, some v7, some v8, some v9, none, none, none, none, none, none])
    (fun kk => ⟨_, rfl, _, rfl, _, rfl, n, rods, lo, hi, DR, .cons S12.net (.cons S12.lo (.cons S12.hi .nil)), fun hb H13 e13 => ⟨true, T.eP, fun _ a' ha' => ?_, fun z => nomatch z⟩, fun hb v H13 e13 p13 => ?_⟩) ?_
  · exact kk _ _ ⟨.non, S12.mono e13, (vRows _).mono e13 p8'', .inl ⟨hb, rfl⟩, rfl⟩
  · exact kk _ _ ⟨v, S12.mono e13, (vRows _).mono e13 p8'', .inr ⟨hb, p13⟩, rfl⟩
  rintro σ' H13 ⟨v9, S13, p8, hcase, rfl⟩
  refine p_join2 (fun σ' H' => ∃ x9 x10, Sit K H' r a ns n rods lo hi v2 v4 v6 v7 ∧ σ' = [some (.ref a), some (.ref r), some v2, some (.int (n : Int)), some v4, some (.int 6), some v6, some v7, some v8, x9, x10, none, none, none, none, none]) (fun kk => ?_) ?_
  · rcases hcase with ⟨hb, rfl⟩ | ⟨hb, p9⟩
    · have e0 := over_nil N hb
      rw [e0] at p8
      refine p_no (et_is (t_test (e_ne (x := .bl true) (y := .bl true) (e_isNon (e_var rfl (show vN.is H13 _ from rfl))) (e_bool (e_eqNil (e_var rfl p8) (dp_rows [])) (by simp)) rfl)) (by simp)) fun H14 e14 => ?_
      exact p_no (t_test (e_notNon (e_var rfl (show vN.is H14 _ from rfl)))) fun H15 e15 => kk _ _ ⟨_, _, S13.mono (e14.trans e15), rfl⟩
    · obtain ⟨m1, m2⟩ := ends_in N ll lh l6 h6 hb
      have hle := least_eq N ll lh l6 h6 hb
      have hmo := most_eq N ll lh l6 h6 hb
      have hlen : ((slopes n (bf n rods) 6).filter (inb n lo hi)).length ≤ 40000 := Nat.le_trans (List.length_filter_le _ _) (few 6 (by omega))
      have hall : ∀ ro ∈ (slopes n (bf n rods) 6).filter (inb n lo hi), ro.length = n := fun ro hro => (mem_row N hro).1
      have lro := roof_len n (fw n rods) lo
      have lfl := floor_len n (fw n rods) hi
      generalize (slopes n (bf n rods) 6).filter (inb n lo hi) = R at *
      have hne : R ≠ [] := fun z => by
        rw [z] at m1
        simp at m1
      have hpos : R.length ≠ 0 := fun z => hne (List.eq_nil_of_length_eq_zero z)
      refine p_no (et_is (t_test (e_ne (x := .bl false) (y := .bl false) (e_isN (e_var rfl p9) (ty_T (K := K) _)) (e_bool (e_eqNil (e_var rfl p8) (dp_rows R)) (by rw [List.length_map]; exact decide_eq_false hpos)) rfl)) (by simp)) fun H14 e14 => ?_
      have S14 := S13.mono e14
      have p8 := (vRows R).mono e14 p8
      have p9 := (vT [vRow (roof n (fw n rods) lo), vRow (floor n (fw n rods) hi)]).mono e14 p9
      refine p_if (b := true) (t_test (e_notN (e_var rfl p9) (ty_T (K := K) _))) (fun _ H15 e15 => ?_) fun z => nomatch z
      have S15 := S14.mono e15
      have p8 := (vRows R).mono e15 p8
      have p9 := (vT [vRow (roof n (fw n rods) lo), vRow (floor n (fw n rods) hi)]).mono e15 p9
      have getR : ∀ i, i < R.length → R.getD i [] ∈ R := fun i hi => by
        rw [List.getD_eq_getElem?_getD, List.getElem?_eq_getElem hi]
        exact List.getElem_mem hi
      have hneP : ∀ p, R.map (fun ro => ro.getD p 0) ≠ [] := fun p z => hne (by simpa using z)
      refine p_set (P := vRow (roof n (fw n rods) lo)) ?_ fun v10 H16 e16 p10 => ?_
      · rw [← hle, vRow_map]
        refine e_tupleOf (e_lcN (i_rangeN (a_cons (e_var rfl (vi _ _)) a_nil) (by omega)) (by omega) (fun _ _ => stb_V) (fun _ => rfl) fun p x H17 hp e17 px => ?_)
        obtain rfl : x = .int (p : Int) := px
        refine e_mnL ?_ (hneP p)
        rw [range_getD (fun ro : List Int => ro.getD p 0) [] R, vIL_map]
        exact e_lcN (n := R.length) (I := fun i => vRow (R.getD i [])) (i_list (e_var rfl ((vRows R).mono e17 p8)) (by simp) (map_get [])) hlen (fun _ _ => stb_V) (fun _ => rfl) fun i y H18 hi e18 py => e_row (e_var rfl py) (e_var rfl (vi _ _)) (by have := hall _ (getR i hi); omega)
      · have S16 := S15.mono e16
        have p8 := (vRows R).mono e16 p8
        have p9 := (vT [vRow (roof n (fw n rods) lo), vRow (floor n (fw n rods) hi)]).mono e16 p9
        refine p_no1 (et_is (et_not (t_test (e_call (P := vB true) (a_cons (e_var rfl p9) (a_cons (e_tup (a_cons (e_var rfl p10) (a_cons (P := vRow (floor n (fw n rods) hi)) ?_ a_nil)) (by simp)) a_nil)) ⟨_, dat_two (by omega) (by omega), rfl, rfl⟩))) rfl) fun H17 e17 => kk _ _ ⟨_, _, S16.mono e17, rfl⟩
        rw [← hmo, vRow_map]
        refine e_tupleOf (e_lcN (i_rangeN (a_cons (e_var rfl (vi _ _)) a_nil) (by omega)) (by omega) (fun _ _ => stb_V) (fun _ => rfl) fun p x H17 hp e17 px => ?_)
        obtain rfl : x = .int (p : Int) := px
        refine e_mxL ?_ (hneP p)
        rw [range_getD (fun ro : List Int => ro.getD p 0) [] R, vIL_map]
        exact e_lcN (n := R.length) (I := fun i => vRow (R.getD i [])) (i_list (e_var rfl ((vRows R).mono e17 p8)) (by simp) (map_get [])) hlen (fun _ _ => stb_V) (fun _ => rfl) fun i y H18 hi e18 py => e_row (e_var rfl py) (e_var rfl (vi _ _)) (by have := hall _ (getR i hi); omega)
  rintro σ' H14 ⟨x9, x10, S14, rfl⟩
  -- the rows above
  refine p_taken (m := 7) S14.cel rfl ?_ (by omega) fun u H15 c15 k15 u0 u7 => ?_
  · exact e_is (e_I0 (e_var rfl (vi _ _)) e_c) rfl
  obtain ⟨m, rfl⟩ : ∃ m : Nat, u = (m : Int) := ⟨u.toNat, by omega⟩
  have hm : m ≤ 6 := by omega
  have S15 := S14.kp hn1 c15 k15
  try dsimp only
  refine p_set (P := vRows ((slopes n (bf n rods) m).filter (above n lo))) (e_filt (e_call (P := vRows (slopes n (bf n rods) m)) (a_cons (e_var rfl S15.tab) (a_cons (e_var rfl (vi _ _)) a_nil)) ⟨n, _, m, hn4, hm, rfl, rfl⟩) (few m hm) (fun _ => rfl) (fun _ => rfl) (fun ro x H16 hro e16 px => ?_)) fun v12 H16 e16 p12 => ?_
  · have S16 := S15.mono e16
    have lr := ((rowsOk m hm).1 ro hro).1
    refine t_none (f := fun k => decide (ro.getD k 0 < lo.getD k 0)) hn4 (fun _ => e_var rfl (vi _ _)) (fun _ => rfl) (fun _ => rfl) (fun k y H17 hk e17 ey => ?_)
    subst ey
    exact t_test (e_I0 (e_row (e_var rfl ((vRow ro).mono e17 px)) (e_var rfl (vi _ _)) (by omega)) (e_row (e_var rfl ((vRow lo).mono e17 S16.lo)) (e_var rfl (vi _ _)) (by omega)))
  have S16 := S15.mono e16
  have DR2 : Drawn n rods lo (List.replicate n (m : Int)) := ⟨N, fw_ok N, ll, by simp, l6, fun x hx => by
    rw [List.eq_of_mem_replicate hx]
    omega⟩
  have ab6 : ∀ ro ∈ (slopes n (bf n rods) m).filter (above n lo), ro.length ≤ 40000 := fun ro hro => by
    have := ((rowsOk m hm).1 ro (List.mem_filter.mp hro).1).1
    omega
  have abl : ((slopes n (bf n rods) m).filter (above n lo)).length ≤ 40000 := Nat.le_trans (List.length_filter_le _ _) (few m hm)
  refine p_ret (P := vB true) (e_call (a_cons (P := vRows ((slopes n (bf n rods) m).filter (above n lo))) ?_ (a_cons (e_var rfl p12) a_nil)) ⟨_, dat_rows abl ab6, rfl, rfl⟩) fun v H17 e17 p17 => ?_
  · rw [← above_eq N hm]
    exact e_call (a_cons (e_var rfl S16.net) (a_cons (e_var rfl S16.lo) (a_cons (e_var rfl (vi _ _)) a_nil))) ⟨n, rods, lo, _, DR2, by omega, by omega, rfl, rfl⟩
  · obtain rfl : v = .bl true := p17
    exact q H17
end
end Lt
set_option maxHeartbeats 1000000
namespace Lt
open PySem L2 Evl
/-- an error of the class at S is what an except clause of S names -/
theorem exm_own {K : PySem.W.Frag} {S : Addr} (h1 : PySem.W.subIn K (.ref S) (.type "BaseException") = some true) (h2 : PySem.W.isClsIn K S = true) (h3 : PySem.W.typeIn K (.ref S) = some (.type "type")) (h4 : PySem.W.subIn K (.ref S) (.ref S) = some true) : PySem.W.exmOne K (.ref S) (.ref S) = some true := by
  have q1 : (PySem.W.subIn K (.ref S) (.type "BaseException") == some true) = true := by rw [h1] <;> rfl
  have q2 : ((PySem.W.clsIn K S).isSome && PySem.W.typeIn K (.ref S) == some (.type "type")) = true := by
    have h2b : (PySem.W.clsIn K S).isSome = true := h2
    rw [h2b, h3] <;> rfl
  unfold PySem.W.exmOne
  rw [if_pos q1]
  show (if ((PySem.W.clsIn K S).isSome && PySem.W.typeIn K (.ref S) == some (.type "type")) = true then PySem.W.subIn K (.ref S) (.ref S) else none) = some true
  rw [if_pos q2]
  exact h4
set_option maxHeartbeats 4000000 in
theorem all_mk {P : Program} {w : World} {K : PySem.W.Frag} {h : Heap} {mg : Str → Option Value} {fa C : Addr} (X : K.In h) (G : h.Ns mainGlobals mg) (hfa : mg "law" = some (.ref fa))
    {f0 : Addr} {od0 an0 : Option Addr} {sl0 : Array (Option Value)} {oc0 kV0 dc0 pm0 cd0 ct0 : Value}
    {f1 : Addr} {od1 an1 : Option Addr} {sl1 : Array (Option Value)} {oc1 kV1 dc1 pm1 cd1 ct1 : Value}
    {f2 : Addr} {od2 an2 : Option Addr} {sl2 : Array (Option Value)} {oc2 kV2 dc2 pm2 cd2 ct2 : Value}
    {f3 : Addr} {od3 an3 : Option Addr} {sl3 : Array (Option Value)} {oc3 kV3 dc3 pm3 cd3 ct3 : Value}
    {f4 : Addr} {od4 an4 : Option Addr} {sl4 : Array (Option Value)} {oc4 kV4 dc4 pm4 cd4 ct4 : Value}
    {f5 : Addr} {od5 an5 : Option Addr} {sl5 : Array (Option Value)} {oc5 kV5 dc5 pm5 cd5 ct5 : Value}
    {f6 : Addr} {od6 an6 : Option Addr} {sl6 : Array (Option Value)} {oc6 kV6 dc6 pm6 cd6 ct6 : Value}
    {f7 : Addr} {od7 an7 : Option Addr} {sl7 : Array (Option Value)} {oc7 kV7 dc7 pm7 cd7 ct7 : Value}
    {f8 : Addr} {od8 an8 : Option Addr} {sl8 : Array (Option Value)} {oc8 kV8 dc8 pm8 cd8 ct8 : Value}
    {f9 : Addr} {od9 an9 : Option Addr} {sl9 : Array (Option Value)} {oc9 kV9 dc9 pm9 cd9 ct9 : Value}
    {f10 : Addr} {od10 an10 : Option Addr} {sl10 : Array (Option Value)} {oc10 kV10 dc10 pm10 cd10 ct10 : Value}
    {f11 : Addr} {od11 an11 : Option Addr} {sl11 : Array (Option Value)} {oc11 kV11 dc11 pm11 cd11 ct11 : Value}
    {f12 : Addr} {od12 an12 : Option Addr} {sl12 : Array (Option Value)} {oc12 kV12 dc12 pm12 cd12 ct12 : Value}
    {f13 : Addr} {od13 an13 : Option Addr} {sl13 : Array (Option Value)} {oc13 kV13 dc13 pm13 cd13 ct13 : Value}
    {f14 : Addr} {od14 an14 : Option Addr} {sl14 : Array (Option Value)} {oc14 kV14 dc14 pm14 cd14 ct14 : Value}
    {f15 : Addr} {od15 an15 : Option Addr} {sl15 : Array (Option Value)} {oc15 kV15 dc15 pm15 cd15 ct15 : Value}
    {f16 : Addr} {od16 an16 : Option Addr} {sl16 : Array (Option Value)} {oc16 kV16 dc16 pm16 cd16 ct16 : Value}
    {f17 : Addr} {od17 an17 : Option Addr} {sl17 : Array (Option Value)} {oc17 kV17 dc17 pm17 cd17 ct17 : Value}
    {f18 : Addr} {od18 an18 : Option Addr} {sl18 : Array (Option Value)} {oc18 kV18 dc18 pm18 cd18 ct18 : Value}
    {f19 : Addr} {od19 an19 : Option Addr} {sl19 : Array (Option Value)} {oc19 kV19 dc19 pm19 cd19 ct19 : Value}
    {f20 : Addr} {od20 an20 : Option Addr} {sl20 : Array (Option Value)} {oc20 kV20 dc20 pm20 cd20 ct20 : Value}
    {f21 : Addr} {od21 an21 : Option Addr} {sl21 : Array (Option Value)} {oc21 kV21 dc21 pm21 cd21 ct21 : Value}
    {f22 : Addr} {od22 an22 : Option Addr} {sl22 : Array (Option Value)} {oc22 kV22 dc22 pm22 cd22 ct22 : Value}
    {f23 : Addr} {od23 an23 : Option Addr} {sl23 : Array (Option Value)} {oc23 kV23 dc23 pm23 cd23 ct23 : Value}
    {t0 t1 t2 t3 : Tok}
    (a0 : PySem.W.nsIn K mainGlobals "whole" = some (some (.ref f0))) (l0 : K.lookup f0 = some ⟨oc0, od0, .func (PySem.W.fnOf "whole" "whole" (defArgs s_whole) (defBody s_whole) (defScope s_whole) .none kV0 dc0 pm0 an0 cd0 ct0), sl0⟩) (c0 : PySem.W.codeIn K cd0 "whole" = true) (k0 : PySem.W.keepIn K (.ref f0) = true)
    (a1 : PySem.W.nsIn K mainGlobals "within" = some (some (.ref f1))) (l1 : K.lookup f1 = some ⟨oc1, od1, .func (PySem.W.fnOf "within" "within" (defArgs s_within) (defBody s_within) (defScope s_within) .none kV1 dc1 pm1 an1 cd1 ct1), sl1⟩) (c1 : PySem.W.codeIn K cd1 "within" = true) (k1 : PySem.W.keepIn K (.ref f1) = true)
    (a2 : PySem.W.nsIn K mainGlobals "need_number" = some (some (.ref f2))) (l2 : K.lookup f2 = some ⟨oc2, od2, .func (PySem.W.fnOf "need_number" "need_number" (defArgs s_need_number) (defBody s_need_number) (defScope s_need_number) .none kV2 dc2 pm2 an2 cd2 ct2), sl2⟩) (c2 : PySem.W.codeIn K cd2 "need_number" = true) (k2 : PySem.W.keepIn K (.ref f2) = true)
    (a3 : PySem.W.nsIn K mainGlobals "tuple_of" = some (some (.ref f3))) (l3 : K.lookup f3 = some ⟨oc3, od3, .func (PySem.W.fnOf "tuple_of" "tuple_of" (defArgs s_tuple_of) (defBody s_tuple_of) (defScope s_tuple_of) .none kV3 dc3 pm3 an3 cd3 ct3), sl3⟩) (c3 : PySem.W.codeIn K cd3 "tuple_of" = true) (k3 : PySem.W.keepIn K (.ref f3) = true)
    (a4 : PySem.W.nsIn K mainGlobals "is_rod" = some (some (.ref f4))) (l4 : K.lookup f4 = some ⟨oc4, od4, .func (PySem.W.fnOf "is_rod" "is_rod" (defArgs s_is_rod) (defBody s_is_rod) (defScope s_is_rod) .none kV4 dc4 pm4 an4 cd4 ct4), sl4⟩) (c4 : PySem.W.codeIn K cd4 "is_rod" = true) (k4 : PySem.W.keepIn K (.ref f4) = true)
    (a5 : PySem.W.nsIn K mainGlobals "need_net" = some (some (.ref f5))) (l5 : K.lookup f5 = some ⟨oc5, od5, .func (PySem.W.fnOf "need_net" "need_net" (defArgs s_need_net) (defBody s_need_net) (defScope s_need_net) .none kV5 dc5 pm5 an5 cd5 ct5), sl5⟩) (c5 : PySem.W.codeIn K cd5 "need_net" = true) (k5 : PySem.W.keepIn K (.ref f5) = true)
    (a6 : PySem.W.nsIn K mainGlobals "need_row" = some (some (.ref f6))) (l6 : K.lookup f6 = some ⟨oc6, od6, .func (PySem.W.fnOf "need_row" "need_row" (defArgs s_need_row) (defBody s_need_row) (defScope s_need_row) .none kV6 dc6 pm6 an6 cd6 ct6), sl6⟩) (c6 : PySem.W.codeIn K cd6 "need_row" = true) (k6 : PySem.W.keepIn K (.ref f6) = true)
    (a7 : PySem.W.nsIn K mainGlobals "table_of" = some (some (.ref f7))) (l7 : K.lookup f7 = some ⟨oc7, od7, .func (PySem.W.fnOf "table_of" "table_of" (defArgs s_table_of) (defBody s_table_of) (defScope s_table_of) .none kV7 dc7 pm7 an7 cd7 ct7), sl7⟩) (c7 : PySem.W.codeIn K cd7 "table_of" = true) (k7 : PySem.W.keepIn K (.ref f7) = true)
    (a8 : PySem.W.nsIn K mainGlobals "roof_of" = some (some (.ref f8))) (l8 : K.lookup f8 = some ⟨oc8, od8, .func (PySem.W.fnOf "roof_of" "roof_of" (defArgs s_roof_of) (defBody s_roof_of) (defScope s_roof_of) .none kV8 dc8 pm8 an8 cd8 ct8), sl8⟩) (c8 : PySem.W.codeIn K cd8 "roof_of" = true) (k8 : PySem.W.keepIn K (.ref f8) = true)
    (a9 : PySem.W.nsIn K mainGlobals "floor_of" = some (some (.ref f9))) (l9 : K.lookup f9 = some ⟨oc9, od9, .func (PySem.W.fnOf "floor_of" "floor_of" (defArgs s_floor_of) (defBody s_floor_of) (defScope s_floor_of) .none kV9 dc9 pm9 an9 cd9 ct9), sl9⟩) (c9 : PySem.W.codeIn K cd9 "floor_of" = true) (k9 : PySem.W.keepIn K (.ref f9) = true)
    (a10 : PySem.W.nsIn K mainGlobals "bounds_at" = some (some (.ref f10))) (l10 : K.lookup f10 = some ⟨oc10, od10, .func (PySem.W.fnOf "bounds_at" "bounds_at" (defArgs s_bounds_at) (defBody s_bounds_at) (defScope s_bounds_at) .none kV10 dc10 pm10 an10 cd10 ct10), sl10⟩) (c10 : PySem.W.codeIn K cd10 "bounds_at" = true) (k10 : PySem.W.keepIn K (.ref f10) = true)
    (a11 : PySem.W.nsIn K mainGlobals "between_of" = some (some (.ref f11))) (l11 : K.lookup f11 = some ⟨oc11, od11, .func (PySem.W.fnOf "between_of" "between_of" (defArgs s_between_of) (defBody s_between_of) (defScope s_between_of) .none kV11 dc11 pm11 an11 cd11 ct11), sl11⟩) (c11 : PySem.W.codeIn K cd11 "between_of" = true) (k11 : PySem.W.keepIn K (.ref f11) = true)
    (a12 : PySem.W.nsIn K mainGlobals "number_between" = some (some (.ref f12))) (l12 : K.lookup f12 = some ⟨oc12, od12, .func (PySem.W.fnOf "number_between" "number_between" (defArgs s_number_between) (defBody s_number_between) (defScope s_number_between) .none kV12 dc12 pm12 an12 cd12 ct12), sl12⟩) (c12 : PySem.W.codeIn K cd12 "number_between" = true) (k12 : PySem.W.keepIn K (.ref f12) = true)
    (a13 : PySem.W.nsIn K mainGlobals "first_between" = some (some (.ref f13))) (l13 : K.lookup f13 = some ⟨oc13, od13, .func (PySem.W.fnOf "first_between" "first_between" (defArgs s_first_between) (defBody s_first_between) (defScope s_first_between) .none kV13 dc13 pm13 an13 cd13 ct13), sl13⟩) (c13 : PySem.W.codeIn K cd13 "first_between" = true) (k13 : PySem.W.keepIn K (.ref f13) = true)
    (a14 : PySem.W.nsIn K mainGlobals "rows_above" = some (some (.ref f14))) (l14 : K.lookup f14 = some ⟨oc14, od14, .func (PySem.W.fnOf "rows_above" "rows_above" (defArgs s_rows_above) (defBody s_rows_above) (defScope s_rows_above) .none kV14 dc14 pm14 an14 cd14 ct14), sl14⟩) (c14 : PySem.W.codeIn K cd14 "rows_above" = true) (k14 : PySem.W.keepIn K (.ref f14) = true)
    (a15 : PySem.W.nsIn K mainGlobals "_law_taken" = some (some (.ref f15))) (l15 : K.lookup f15 = some ⟨oc15, od15, .func (PySem.W.fnOf "_law_taken" "_law_taken" (defArgs s__law_taken) (defBody s__law_taken) (defScope s__law_taken) .none kV15 dc15 pm15 an15 cd15 ct15), sl15⟩) (c15 : PySem.W.codeIn K cd15 "_law_taken" = true) (k15 : PySem.W.keepIn K (.ref f15) = true)
    (a16 : PySem.W.nsIn K mainGlobals "_law_net" = some (some (.ref f16))) (l16 : K.lookup f16 = some ⟨oc16, od16, .func (PySem.W.fnOf "_law_net" "_law_net" (defArgs s__law_net) (defBody s__law_net) (defScope s__law_net) .none kV16 dc16 pm16 an16 cd16 ct16), sl16⟩) (c16 : PySem.W.codeIn K cd16 "_law_net" = true) (k16 : PySem.W.keepIn K (.ref f16) = true)
    (a17 : PySem.W.nsIn K mainGlobals "_law_pick" = some (some (.ref f17))) (l17 : K.lookup f17 = some ⟨oc17, od17, .func (PySem.W.fnOf "_law_pick" "_law_pick" (defArgs s__law_pick) (defBody s__law_pick) (defScope s__law_pick) .none kV17 dc17 pm17 an17 cd17 ct17), sl17⟩) (c17 : PySem.W.codeIn K cd17 "_law_pick" = true) (k17 : PySem.W.keepIn K (.ref f17) = true)
    (a18 : PySem.W.nsIn K mainGlobals "_law_far" = some (some (.ref f18))) (l18 : K.lookup f18 = some ⟨oc18, od18, .func (PySem.W.fnOf "_law_far" "_law_far" (defArgs s__law_far) (defBody s__law_far) (defScope s__law_far) .none kV18 dc18 pm18 an18 cd18 ct18), sl18⟩) (c18 : PySem.W.codeIn K cd18 "_law_far" = true) (k18 : PySem.W.keepIn K (.ref f18) = true)
    (a19 : PySem.W.nsIn K mainGlobals "_law_heights" = some (some (.ref f19))) (l19 : K.lookup f19 = some ⟨oc19, od19, .func (PySem.W.fnOf "_law_heights" "_law_heights" (defArgs s__law_heights) (defBody s__law_heights) (defScope s__law_heights) .none kV19 dc19 pm19 an19 cd19 ct19), sl19⟩) (c19 : PySem.W.codeIn K cd19 "_law_heights" = true) (k19 : PySem.W.keepIn K (.ref f19) = true)
    (a20 : PySem.W.nsIn K mainGlobals "_law_roof" = some (some (.ref f20))) (l20 : K.lookup f20 = some ⟨oc20, od20, .func (PySem.W.fnOf "_law_roof" "_law_roof" (defArgs s__law_roof) (defBody s__law_roof) (defScope s__law_roof) .none kV20 dc20 pm20 an20 cd20 ct20), sl20⟩) (c20 : PySem.W.codeIn K cd20 "_law_roof" = true) (k20 : PySem.W.keepIn K (.ref f20) = true)
    (a21 : PySem.W.nsIn K mainGlobals "_law_slopes" = some (some (.ref f21))) (l21 : K.lookup f21 = some ⟨oc21, od21, .func (PySem.W.fnOf "_law_slopes" "_law_slopes" (defArgs s__law_slopes) (defBody s__law_slopes) (defScope s__law_slopes) .none kV21 dc21 pm21 an21 cd21 ct21), sl21⟩) (c21 : PySem.W.codeIn K cd21 "_law_slopes" = true) (k21 : PySem.W.keepIn K (.ref f21) = true)
    (a22 : PySem.W.nsIn K mainGlobals "_law_alike" = some (some (.ref f22))) (l22 : K.lookup f22 = some ⟨oc22, od22, .func (PySem.W.fnOf "_law_alike" "_law_alike" (defArgs s__law_alike) (defBody s__law_alike) (defScope s__law_alike) .none kV22 dc22 pm22 an22 cd22 ct22), sl22⟩) (c22 : PySem.W.codeIn K cd22 "_law_alike" = true) (k22 : PySem.W.keepIn K (.ref f22) = true)
    (a23 : PySem.W.nsIn K mainGlobals "law" = some (some (.ref f23))) (l23 : K.lookup f23 = some ⟨oc23, od23, .func (PySem.W.fnOf "law" "law" (defArgs s_law) (defBody s_law) (defScope s_law) .none kV23 dc23 pm23 an23 cd23 ct23), sl23⟩) (c23 : PySem.W.codeIn K cd23 "law" = true) (k23 : PySem.W.keepIn K (.ref f23) = true)
    (z_range : PySem.W.nsIn K mainGlobals "range" = some none)
    (z_len : PySem.W.nsIn K mainGlobals "len" = some none)
    (z_max : PySem.W.nsIn K mainGlobals "max" = some none)
    (z_min : PySem.W.nsIn K mainGlobals "min" = some none)
    (z_tuple : PySem.W.nsIn K mainGlobals "tuple" = some none)
    (z_list : PySem.W.nsIn K mainGlobals "list" = some none)
    (z_int : PySem.W.nsIn K mainGlobals "int" = some none)
    (z_bool : PySem.W.nsIn K mainGlobals "bool" = some none)
    (z_str : PySem.W.nsIn K mainGlobals "str" = some none)
    (z_isinstance : PySem.W.nsIn K mainGlobals "isinstance" = some none)
    (z_all : PySem.W.nsIn K mainGlobals "all" = some none)
    (z_any : PySem.W.nsIn K mainGlobals "any" = some none)
    (z_enumerate : PySem.W.nsIn K mainGlobals "enumerate" = some none)
    (z_zip : PySem.W.nsIn K mainGlobals "zip" = some none)
    (z_sorted : PySem.W.nsIn K mainGlobals "sorted" = some none)
    (z_abs : PySem.W.nsIn K mainGlobals "abs" = some none)
    (v_0 : PySem.W.nsIn K mainGlobals "MOST_PLACES" = some (some (.int 8 t0)))
    (v_1 : PySem.W.nsIn K mainGlobals "MOST_LENGTH" = some (some (.int 9 t1)))
    (v_2 : PySem.W.nsIn K mainGlobals "MOST_HEIGHT" = some (some (.int 99 t2)))
    (v_3 : PySem.W.nsIn K mainGlobals "MOST_BEGINNINGS" = some (some (.int 20000 t3)))
    (gC : PySem.W.nsIn K mainGlobals "NoRow" = some (some (.ref C))) (kC : PySem.W.keepIn K (.ref C) = true) (xC : PySem.W.excIn K C [.type "ValueError", .type "Exception", .type "BaseException", .type "object"] "ValueError.__new__" = true) (bC : PySem.W.subIn K (.ref C) (.type "BaseException") = some true) (tC : PySem.W.typeIn K (.ref C) = some (.type "type")) (iC : PySem.W.isClsIn K C = true) (sC : PySem.W.subIn K (.ref C) (.ref C) = some true) :
    ∃ fd : FuncData, (∀ (s : Shared) (u : Value), BindsTo s fd ⟨[u], []⟩ [("_law_script", u)]) ∧ ∀ base : Heap, K.In base → base.Ns mainGlobals mg → FnOk P w K mg base CX0 5 fa fd ["_law_script"] (spLaw K) := by
  have e := hfa.symm.trans (PySem.W.mg_of X G a23)
  cases e
  have T : Txt K mg C := { range := PySem.W.mg_none_of X G z_range, len := PySem.W.mg_none_of X G z_len, max := PySem.W.mg_none_of X G z_max, min := PySem.W.mg_none_of X G z_min, tuple := PySem.W.mg_none_of X G z_tuple, list := PySem.W.mg_none_of X G z_list, int := PySem.W.mg_none_of X G z_int, bool := PySem.W.mg_none_of X G z_bool, str := PySem.W.mg_none_of X G z_str, isinstance := PySem.W.mg_none_of X G z_isinstance, all := PySem.W.mg_none_of X G z_all, any := PySem.W.mg_none_of X G z_any, enumerate := PySem.W.mg_none_of X G z_enumerate, zip := PySem.W.mg_none_of X G z_zip, sorted := PySem.W.mg_none_of X G z_sorted, abs := PySem.W.mg_none_of X G z_abs, MOST_PLACES := ⟨_, PySem.W.mg_of X G v_0⟩, MOST_LENGTH := ⟨_, PySem.W.mg_of X G v_1⟩, MOST_HEIGHT := ⟨_, PySem.W.mg_of X G v_2⟩, MOST_BEGINNINGS := ⟨_, PySem.W.mg_of X G v_3⟩, gP := PySem.W.mg_of X G gC, kP := kC, xP := xC, bP := bC, tP := tC, eP := exm_own bC iC tC sC }
  have F_whole : Fd K mg "whole" s_whole p_whole := ⟨_, _, fun_mk (st := s_whole) l0 c0 k0, PySem.W.mg_of X G a0, (fun_mk (st := s_whole) l0 c0 k0).binds (ps := p_whole) fun _ _ _ _ _ _ us hl => match us, hl with | [_], _ => rfl⟩
  have F_within : Fd K mg "within" s_within p_within := ⟨_, _, fun_mk (st := s_within) l1 c1 k1, PySem.W.mg_of X G a1, (fun_mk (st := s_within) l1 c1 k1).binds (ps := p_within) fun _ _ _ _ _ _ us hl => match us, hl with | [_, _, _], _ => rfl⟩
  have F_need_number : Fd K mg "need_number" s_need_number p_need_number := ⟨_, _, fun_mk (st := s_need_number) l2 c2 k2, PySem.W.mg_of X G a2, (fun_mk (st := s_need_number) l2 c2 k2).binds (ps := p_need_number) fun _ _ _ _ _ _ us hl => match us, hl with | [_, _, _], _ => rfl⟩
  have F_tuple_of : Fd K mg "tuple_of" s_tuple_of p_tuple_of := ⟨_, _, fun_mk (st := s_tuple_of) l3 c3 k3, PySem.W.mg_of X G a3, (fun_mk (st := s_tuple_of) l3 c3 k3).binds (ps := p_tuple_of) fun _ _ _ _ _ _ us hl => match us, hl with | [_, _, _], _ => rfl⟩
  have F_is_rod : Fd K mg "is_rod" s_is_rod p_is_rod := ⟨_, _, fun_mk (st := s_is_rod) l4 c4 k4, PySem.W.mg_of X G a4, (fun_mk (st := s_is_rod) l4 c4 k4).binds (ps := p_is_rod) fun _ _ _ _ _ _ us hl => match us, hl with | [_, _], _ => rfl⟩
  have F_need_net : Fd K mg "need_net" s_need_net p_need_net := ⟨_, _, fun_mk (st := s_need_net) l5 c5 k5, PySem.W.mg_of X G a5, (fun_mk (st := s_need_net) l5 c5 k5).binds (ps := p_need_net) fun _ _ _ _ _ _ us hl => match us, hl with | [_], _ => rfl⟩
  have F_need_row : Fd K mg "need_row" s_need_row p_need_row := ⟨_, _, fun_mk (st := s_need_row) l6 c6 k6, PySem.W.mg_of X G a6, (fun_mk (st := s_need_row) l6 c6 k6).binds (ps := p_need_row) fun _ _ _ _ _ _ us hl => match us, hl with | [_, _], _ => rfl⟩
  have F_table_of : Fd K mg "table_of" s_table_of p_table_of := ⟨_, _, fun_mk (st := s_table_of) l7 c7 k7, PySem.W.mg_of X G a7, (fun_mk (st := s_table_of) l7 c7 k7).binds (ps := p_table_of) fun _ _ _ _ _ _ us hl => match us, hl with | [_], _ => rfl⟩
  have F_roof_of : Fd K mg "roof_of" s_roof_of p_roof_of := ⟨_, _, fun_mk (st := s_roof_of) l8 c8 k8, PySem.W.mg_of X G a8, (fun_mk (st := s_roof_of) l8 c8 k8).binds (ps := p_roof_of) fun _ _ _ _ _ _ us hl => match us, hl with | [_, _], _ => rfl⟩
  have F_floor_of : Fd K mg "floor_of" s_floor_of p_floor_of := ⟨_, _, fun_mk (st := s_floor_of) l9 c9 k9, PySem.W.mg_of X G a9, (fun_mk (st := s_floor_of) l9 c9 k9).binds (ps := p_floor_of) fun _ _ _ _ _ _ us hl => match us, hl with | [_, _], _ => rfl⟩
  have F_bounds_at : Fd K mg "bounds_at" s_bounds_at p_bounds_at := ⟨_, _, fun_mk (st := s_bounds_at) l10 c10 k10, PySem.W.mg_of X G a10, (fun_mk (st := s_bounds_at) l10 c10 k10).binds (ps := p_bounds_at) fun _ _ _ _ _ _ us hl => match us, hl with | [_, _, _, _], _ => rfl⟩
  have F_between_of : Fd K mg "between_of" s_between_of p_between_of := ⟨_, _, fun_mk (st := s_between_of) l11 c11 k11, PySem.W.mg_of X G a11, (fun_mk (st := s_between_of) l11 c11 k11).binds (ps := p_between_of) fun _ _ _ _ _ _ us hl => match us, hl with | [_, _, _], _ => rfl⟩
  have F_number_between : Fd K mg "number_between" s_number_between p_number_between := ⟨_, _, fun_mk (st := s_number_between) l12 c12 k12, PySem.W.mg_of X G a12, (fun_mk (st := s_number_between) l12 c12 k12).binds (ps := p_number_between) fun _ _ _ _ _ _ us hl => match us, hl with | [_, _, _], _ => rfl⟩
  have F_first_between : Fd K mg "first_between" s_first_between p_first_between := ⟨_, _, fun_mk (st := s_first_between) l13 c13 k13, PySem.W.mg_of X G a13, (fun_mk (st := s_first_between) l13 c13 k13).binds (ps := p_first_between) fun _ _ _ _ _ _ us hl => match us, hl with | [_, _, _], _ => rfl⟩
  have F_rows_above : Fd K mg "rows_above" s_rows_above p_rows_above := ⟨_, _, fun_mk (st := s_rows_above) l14 c14 k14, PySem.W.mg_of X G a14, (fun_mk (st := s_rows_above) l14 c14 k14).binds (ps := p_rows_above) fun _ _ _ _ _ _ us hl => match us, hl with | [_, _, _], _ => rfl⟩
  have F__law_taken : Fd K mg "_law_taken" s__law_taken p__law_taken := ⟨_, _, fun_mk (st := s__law_taken) l15 c15 k15, PySem.W.mg_of X G a15, (fun_mk (st := s__law_taken) l15 c15 k15).binds (ps := p__law_taken) fun _ _ _ _ _ _ us hl => match us, hl with | [_, _], _ => rfl⟩
  have F__law_net : Fd K mg "_law_net" s__law_net p__law_net := ⟨_, _, fun_mk (st := s__law_net) l16 c16 k16, PySem.W.mg_of X G a16, (fun_mk (st := s__law_net) l16 c16 k16).binds (ps := p__law_net) fun _ _ _ _ _ _ us hl => match us, hl with | [_, _, _], _ => rfl⟩
  have F__law_pick : Fd K mg "_law_pick" s__law_pick p__law_pick := ⟨_, _, fun_mk (st := s__law_pick) l17 c17 k17, PySem.W.mg_of X G a17, (fun_mk (st := s__law_pick) l17 c17 k17).binds (ps := p__law_pick) fun _ _ _ _ _ _ us hl => match us, hl with | [_, _], _ => rfl⟩
  have F__law_far : Fd K mg "_law_far" s__law_far p__law_far := ⟨_, _, fun_mk (st := s__law_far) l18 c18 k18, PySem.W.mg_of X G a18, (fun_mk (st := s__law_far) l18 c18 k18).binds (ps := p__law_far) fun _ _ _ _ _ _ us hl => match us, hl with | [_], _ => rfl⟩
  have F__law_heights : Fd K mg "_law_heights" s__law_heights p__law_heights := ⟨_, _, fun_mk (st := s__law_heights) l19 c19 k19, PySem.W.mg_of X G a19, (fun_mk (st := s__law_heights) l19 c19 k19).binds (ps := p__law_heights) fun _ _ _ _ _ _ us hl => match us, hl with | [_, _, _], _ => rfl⟩
  have F__law_roof : Fd K mg "_law_roof" s__law_roof p__law_roof := ⟨_, _, fun_mk (st := s__law_roof) l20 c20 k20, PySem.W.mg_of X G a20, (fun_mk (st := s__law_roof) l20 c20 k20).binds (ps := p__law_roof) fun _ _ _ _ _ _ us hl => match us, hl with | [_, _], _ => rfl⟩
  have F__law_slopes : Fd K mg "_law_slopes" s__law_slopes p__law_slopes := ⟨_, _, fun_mk (st := s__law_slopes) l21 c21 k21, PySem.W.mg_of X G a21, (fun_mk (st := s__law_slopes) l21 c21 k21).binds (ps := p__law_slopes) fun _ _ _ _ _ _ us hl => match us, hl with | [_, _], _ => rfl⟩
  have F__law_alike : Fd K mg "_law_alike" s__law_alike p__law_alike := ⟨_, _, fun_mk (st := s__law_alike) l22 c22 k22, PySem.W.mg_of X G a22, (fun_mk (st := s__law_alike) l22 c22 k22).binds (ps := p__law_alike) fun _ _ _ _ _ _ us hl => match us, hl with | [_, _], _ => rfl⟩
  let F_law : Fd K mg "law" s_law p_law := ⟨_, _, fun_mk (st := s_law) l23 c23 k23, PySem.W.mg_of X G a23, (fun_mk (st := s_law) l23 c23 k23).binds (ps := p_law) fun _ _ _ _ _ _ us hl => match us, hl with | [_], _ => rfl⟩
  refine ⟨PySem.W.fnOf "law" "law" (defArgs s_law) (defBody s_law) (defScope s_law) .none kV23 dc23 pm23 an23 cd23 ct23, fun s u => .of_eq rfl, fun base _ _ => ?_⟩
  have ok_whole := ok_whole (P := P) (w := w) (base := base) T F_whole 
  have ok_within := ok_within (P := P) (w := w) (base := base) T F_within F_whole (ok_whole := ok_whole)
  have ok_need_number := ok_need_number (P := P) (w := w) (base := base) T F_need_number F_within (ok_within := ok_within)
  have ok_tuple_of := ok_tuple_of (P := P) (w := w) (base := base) T F_tuple_of 
  have ok_is_rod := ok_is_rod (P := P) (w := w) (base := base) T F_is_rod F_whole F_tuple_of (ok_whole := ok_whole) (ok_tuple_of := ok_tuple_of)
  have ok_need_net := ok_need_net (P := P) (w := w) (base := base) T F_need_net F_tuple_of F_within F_is_rod (ok_tuple_of := ok_tuple_of) (ok_within := ok_within) (ok_is_rod := ok_is_rod)
  have ok_need_row := ok_need_row (P := P) (w := w) (base := base) T F_need_row F_tuple_of F_within (ok_tuple_of := ok_tuple_of) (ok_within := ok_within)
  have ok_table_of := ok_table_of (P := P) (w := w) (base := base) T F_table_of 
  have ok_roof_of := ok_roof_of (P := P) (w := w) (base := base) T F_roof_of 
  have ok_floor_of := ok_floor_of (P := P) (w := w) (base := base) T F_floor_of 
  have ok_bounds_at := ok_bounds_at (P := P) (w := w) (base := base) T F_bounds_at 
  have ok_between_of := ok_between_of (P := P) (w := w) (base := base) T F_between_of F_roof_of F_floor_of F_bounds_at (ok_roof_of := ok_roof_of) (ok_floor_of := ok_floor_of) (ok_bounds_at := ok_bounds_at)
  have ok_number_between := ok_number_between (P := P) (w := w) (base := base) T F_number_between F_need_net F_need_row F_between_of F_table_of (ok_need_net := ok_need_net) (ok_need_row := ok_need_row) (ok_between_of := ok_between_of) (ok_table_of := ok_table_of)
  have ok_first_between := ok_first_between (P := P) (w := w) (base := base) T F_first_between F_need_net F_need_row F_table_of F_roof_of F_floor_of (ok_need_net := ok_need_net) (ok_need_row := ok_need_row) (ok_table_of := ok_table_of) (ok_roof_of := ok_roof_of) (ok_floor_of := ok_floor_of)
  have ok_rows_above := ok_rows_above (P := P) (w := w) (base := base) T F_rows_above F_need_net F_need_row F_need_number F_between_of F_table_of (ok_need_net := ok_need_net) (ok_need_row := ok_need_row) (ok_need_number := ok_need_number) (ok_between_of := ok_between_of) (ok_table_of := ok_table_of)
  have ok__law_taken := ok__law_taken (P := P) (w := w) (base := base) T F__law_taken 
  have ok__law_net := ok__law_net (P := P) (w := w) (base := base) T F__law_net F__law_taken (ok__law_taken := ok__law_taken)
  have ok__law_pick := ok__law_pick (P := P) (w := w) (base := base) T F__law_pick F__law_taken (ok__law_taken := ok__law_taken)
  have ok__law_far := ok__law_far (P := P) (w := w) (base := base) T F__law_far 
  have ok__law_heights := ok__law_heights (P := P) (w := w) (base := base) T F__law_heights F__law_taken (ok__law_taken := ok__law_taken)
  have ok__law_roof := ok__law_roof (P := P) (w := w) (base := base) T F__law_roof 
  have ok__law_slopes := ok__law_slopes (P := P) (w := w) (base := base) T F__law_slopes 
  have ok__law_alike := ok__law_alike (P := P) (w := w) (base := base) T F__law_alike 3
  exact ok_law (P := P) (w := w) (base := base) T F_law F__law_net F__law_pick F__law_far F__law_heights F__law_taken F__law_roof F__law_slopes F__law_alike F_number_between F_rows_above F_first_between (ok__law_net := ok__law_net) (ok__law_pick := ok__law_pick) (ok__law_far := ok__law_far) (ok__law_heights := ok__law_heights) (ok__law_taken := ok__law_taken) (ok__law_roof := ok__law_roof) (ok__law_slopes := ok__law_slopes) (ok__law_alike := ok__law_alike) (ok_number_between := ok_number_between) (ok_rows_above := ok_rows_above) (ok_first_between := ok_first_between)
end Lt
open PySem PySem.W PyProof.Rows
set_option maxRecDepth 100000 in
set_option maxHeartbeats 0 in
theorem PySem.Challenge.cw_littowers_k40_whole_rows_between_holds : PySem.Challenge.rw_littowers_k40_whole_rows_between.Holds := by
  w_on; o_law; k_head; (case hw => w_witness2)
  k_fill
  refine L2.walk_of (l := PySem.Challenge.rw_littowers_k40_whole_rows_between) (n := 63) (k := 5) (x := "_law_script") (CX := fun _ => L2.CX0) (sp := fun w => Lt.spLaw _) rfl (by decide) rfl ⟨rfl, by decide, by decide⟩ (fun w h Y => PySem.W.kIn_of Y) ?F (fun _ _ a ns hl _ hS => ⟨a, ns, rfl, hS, hl, fun _ => rfl⟩) (fun _ _ _ _ _ h => h)
  case F =>
    intro w mg fa h KX G hmg
    refine' Lt.all_mk KX G hmg ?a0 ?l0 ?c0 ?k0 ?a1 ?l1 ?c1 ?k1 ?a2 ?l2 ?c2 ?k2 ?a3 ?l3 ?c3 ?k3 ?a4 ?l4 ?c4 ?k4 ?a5 ?l5 ?c5 ?k5 ?a6 ?l6 ?c6 ?k6 ?a7 ?l7 ?c7 ?k7 ?a8 ?l8 ?c8 ?k8 ?a9 ?l9 ?c9 ?k9 ?a10 ?l10 ?c10 ?k10 ?a11 ?l11 ?c11 ?k11 ?a12 ?l12 ?c12 ?k12 ?a13 ?l13 ?c13 ?k13 ?a14 ?l14 ?c14 ?k14 ?a15 ?l15 ?c15 ?k15 ?a16 ?l16 ?c16 ?k16 ?a17 ?l17 ?c17 ?k17 ?a18 ?l18 ?c18 ?k18 ?a19 ?l19 ?c19 ?k19 ?a20 ?l20 ?c20 ?k20 ?a21 ?l21 ?c21 ?k21 ?a22 ?l22 ?c22 ?k22 ?a23 ?l23 ?c23 ?k23 ?z_range ?z_len ?z_max ?z_min ?z_tuple ?z_list ?z_int ?z_bool ?z_str ?z_isinstance ?z_all ?z_any ?z_enumerate ?z_zip ?z_sorted ?z_abs ?v_0 ?v_1 ?v_2 ?v_3 ?gC ?kC ?xC ?bC ?tC ?iC ?sC
    (case a0 => k_is)
    (case l0 => k_is)
    (case c0 => k_is)
    (case k0 => k_is)
    (case a1 => k_is)
    (case l1 => k_is)
    (case c1 => k_is)
    (case k1 => k_is)
    (case a2 => k_is)
    (case l2 => k_is)
    (case c2 => k_is)
    (case k2 => k_is)
    (case a3 => k_is)
    (case l3 => k_is)
    (case c3 => k_is)
    (case k3 => k_is)
    (case a4 => k_is)
    (case l4 => k_is)
    (case c4 => k_is)
    (case k4 => k_is)
    (case a5 => k_is)
    (case l5 => k_is)
    (case c5 => k_is)
    (case k5 => k_is)
    (case a6 => k_is)
    (case l6 => k_is)
    (case c6 => k_is)
    (case k6 => k_is)
    (case a7 => k_is)
    (case l7 => k_is)
    (case c7 => k_is)
    (case k7 => k_is)
    (case a8 => k_is)
    (case l8 => k_is)
    (case c8 => k_is)
    (case k8 => k_is)
    (case a9 => k_is)
    (case l9 => k_is)
    (case c9 => k_is)
    (case k9 => k_is)
    (case a10 => k_is)
    (case l10 => k_is)
    (case c10 => k_is)
    (case k10 => k_is)
    (case a11 => k_is)
    (case l11 => k_is)
    (case c11 => k_is)
    (case k11 => k_is)
    (case a12 => k_is)
    (case l12 => k_is)
    (case c12 => k_is)
    (case k12 => k_is)
    (case a13 => k_is)
    (case l13 => k_is)
    (case c13 => k_is)
    (case k13 => k_is)
    (case a14 => k_is)
    (case l14 => k_is)
    (case c14 => k_is)
    (case k14 => k_is)
    (case a15 => k_is)
    (case l15 => k_is)
    (case c15 => k_is)
    (case k15 => k_is)
    (case a16 => k_is)
    (case l16 => k_is)
    (case c16 => k_is)
    (case k16 => k_is)
    (case a17 => k_is)
    (case l17 => k_is)
    (case c17 => k_is)
    (case k17 => k_is)
    (case a18 => k_is)
    (case l18 => k_is)
    (case c18 => k_is)
    (case k18 => k_is)
    (case a19 => k_is)
    (case l19 => k_is)
    (case c19 => k_is)
    (case k19 => k_is)
    (case a20 => k_is)
    (case l20 => k_is)
    (case c20 => k_is)
    (case k20 => k_is)
    (case a21 => k_is)
    (case l21 => k_is)
    (case c21 => k_is)
    (case k21 => k_is)
    (case a22 => k_is)
    (case l22 => k_is)
    (case c22 => k_is)
    (case k22 => k_is)
    (case a23 => k_is)
    (case l23 => k_is)
    (case c23 => k_is)
    (case k23 => k_is)
    (case z_range => k_is)
    (case z_len => k_is)
    (case z_max => k_is)
    (case z_min => k_is)
    (case z_tuple => k_is)
    (case z_list => k_is)
    (case z_int => k_is)
    (case z_bool => k_is)
    (case z_str => k_is)
    (case z_isinstance => k_is)
    (case z_all => k_is)
    (case z_any => k_is)
    (case z_enumerate => k_is)
    (case z_zip => k_is)
    (case z_sorted => k_is)
    (case z_abs => k_is)
    (case v_0 => k_is)
    (case v_1 => k_is)
    (case v_2 => k_is)
    (case v_3 => k_is)
    (case gC => k_is)
    (case kC => k_is)
    (case xC => k_exc)
    (case bC => k_is)
    (case tC => k_is)
    (case iC => k_is)
    (case sC => first | rfl | k_is)
