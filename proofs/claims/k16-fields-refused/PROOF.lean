import PyProof.Rows.All
import Wide.All
import OpenK.AllK
import Wide.FinOn
import PySem.Challenge.RW_reportlays_k16_fields_refused
import HandS.ForMost
import HandS.Zip0
import KE.GoesEnumKw
import PyProof.ZipIter
import KE.KDictWalk
import HandS.MakeKwOnly
import HandS.HeadHook2
import HandS.WordsExc
import HandS.Property
import HandS.IsInst
import HandS.Wide
import HandS.Flow
import HandS.TupAny
import HandS.Evl
import HandS.ExcInit
import HandS.ExcField
import HandS.ExcIs
import KE.KExcInit
import HandS.ExcOwn
import KE.KExcIs
import PyProof.ReprRoads
import HandS.CallSlots
import HandS.TupMul
import HandS.FStr
import HandS.Small
import HandS.List
import PyProof.DictUpdate
import HandS.Style
set_option Elab.async false
section
set_option Elab.async false
set_option linter.all false
set_option maxRecDepth 100000
set_option maxHeartbeats 4000000
/-! zip of two sources of any kind, strict or not, over the layer. -/
namespace L2.RL
open PySem PySem.Spec PyProof.Rows
open PySem.Sem (wp)

structure Dr (P : Program) (w : World) (K : PySem.W.Frag) (J : It) (it : Addr) (tn : Nat → Heap → Prop) : Prop where
  obj : ∀ i h, tn i h → ∃ o, h.get? it = some o ∧ ∀ v, o.data ≠ .cell v
  keep : ∀ i h h', tn i h → (∀ o, h.get? it = some o → h'.get? it = some o) → tn i h'
  item : ∀ (X : Cx), X.prog = P → X.w = w → X.K = K → ∀ (A' : Around) (i : Nat) (pins : List (Addr × Obj)) (s : Shared) (σ : St) (H : Hp) (E : Value → Shared → Prop) (Q : Value → Shared → Prop),
    Inv X pins σ H s → FpOk X pins H it → tn i s.heap → J.go i H →
    (∀ u x H' h' tk, Inv X pins σ H' { s with heap := h', toks := tk } → RelV x u → J.yld i H x H' → tn (i + 1) h' → (∀ b o, b ≠ it → s.heap.get? b = some o → h'.get? b = some o) →
      (∀ b o, s.heap.get? b = some o → H b = none → H' b = none) → Q u { s with heap := h', toks := tk }) →
    wpAny (model P w) A' (Builtin.SmallTypes.nextOf (.ref it)) Q E s
  done : ∀ (X : Cx), X.prog = P → X.w = w → X.K = K → ∀ (A' : Around) (i : Nat) (pins : List (Addr × Obj)) (s : Shared) (σ : St) (H : Hp) (E : Value → Shared → Prop) (Q : Value → Shared → Prop), A'.handled = none →
    Inv X pins σ H s → FpOk X pins H it → tn i s.heap → J.stop i H →
    (∀ e h' tk, Inv X pins σ H { s with heap := h', toks := tk } → (∃ o, h'.get? e = some o ∧ o.cls = .type "StopIteration") → (∀ b o, b ≠ it → s.heap.get? b = some o → h'.get? b = some o) →
      E (.ref e) { s with heap := h', toks := tk }) →
    wpAny (model P w) A' (Builtin.SmallTypes.nextOf (.ref it)) Q E s

section
variable {P : Program} {w : World} {K : PySem.W.Frag}
theorem FpOk.after {X : Cx} {pins : List (Addr × Obj)} {H H' : Hp} {b : Addr} (f : FpOk X pins H b) (n : H' b = none) : FpOk X pins H' b := ⟨n, f.2⟩
theorem Inv.turn1 {X : Cx} {pins : List (Addr × Obj)} {σ : St} {H : Hp} {s : Shared} {h' : Heap} {t' : Nat} {z : Addr} (I : Inv X pins σ H s) (f : FpOk X pins H z) (k : ∀ b o, b ≠ z → s.heap.get? b = some o → h'.get? b = some o) :
    Inv X pins σ H { s with heap := h', toks := t' } := I.turnedL (ch := [z]) (fun b o hb e => k b o (fun q => hb (by simp [q])) e) fun b hb => by
  have e : b = z := by simpa using hb
  rw [e]; exact f

theorem dr_list (a it : Addr) : Dr P w K (Itl K a) it (fun i h => h.IsListIter it a i) where
  obj := fun i h ⟨o, e, _, d⟩ => ⟨o, e, fun v z => by rw [d] at z; cases z⟩
  keep := fun i h h' st k => st.at fun o e => k o e
  item := by
    intro X hP hw hK A' i pins s σ H E Q I f st hg hQ
    subst hP hw hK
    obtain ⟨xs, x, hq, hx⟩ := hg
    obtain ⟨its, rv, p, _⟩ := I.list hq
    obtain ⟨u, hu, ru⟩ := rv.get hx
    refine wpAny_nextOf_list_item st p.isList (x := u) (by simpa using hu) fun h' st' sb => ?_
    exact hQ u x H h' s.toks (Inv.turn1 I f fun b o hb e => (sb.2 b hb).trans e) ru ⟨rfl, fun ys hy => by rw [I.list_inj hy hq]; exact hx⟩ st' (fun b o hb e => (sb.2 b hb).trans e) fun _ _ _ n => n
  done := by
    intro X hP hw hK A' i pins s σ H E Q hh I f st hg hE
    subst hP hw hK
    obtain ⟨xs, hq, hx⟩ := hg
    obtain ⟨its, rv, p, _⟩ := I.list hq
    have hl := rv.length
    exact wpAny_nextOf_list_end hh st p.isList (by simp; omega) fun h' e hs he => hE e h' s.toks (Inv.turn1 I f fun b o hb q => hs b o hb q) he fun b o hb q => hs b o hb q

theorem dr_tup (a it : Addr) : Dr P w K (Itt K a) it (fun i h => h.IsTupleIter it a i) where
  obj := fun i h ⟨o, e, _, d⟩ => ⟨o, e, fun v z => by rw [d] at z; cases z⟩
  keep := fun i h h' st k => st.at fun o e => k o e
  item := by
    intro X hP hw hK A' i pins s σ H E Q I f st hg hQ
    subst hP hw hK
    obtain ⟨xs, x, hq, hx⟩ := hg
    obtain ⟨its, rv, p, _⟩ := I.tuple hq
    obtain ⟨u, hu, ru⟩ := rv.get hx
    refine RZ.nextOf_tuple_item st (show s.heap.IsTuple a its.toArray from p) (x := u) (by simpa using hu) fun h' st' sb => ?_
    exact hQ u x H h' s.toks (Inv.turn1 I f fun b o hb e => (sb.2 b hb).trans e) ru ⟨rfl, fun ys hy => by rw [I.tuple_inj hy hq]; exact hx⟩ st' (fun b o hb e => (sb.2 b hb).trans e) fun _ _ _ n => n
  done := by
    intro X hP hw hK A' i pins s σ H E Q hh I f st hg hE
    subst hP hw hK
    obtain ⟨xs, hq, hx⟩ := hg
    obtain ⟨its, rv, p, _⟩ := I.tuple hq
    have hl := rv.length
    exact RZ.nextOf_tuple_end hh st (show s.heap.IsTuple a its.toArray from p) (by simp; omega) fun h' e hs he => hE e h' s.toks (Inv.turn1 I f fun b o hb q => hs b o hb q) he fun b o hb q => hs b o hb q
end
end L2.RL
end
section
set_option Elab.async false
set_option linter.all false
set_option maxRecDepth 100000
set_option maxHeartbeats 4000000
/-! zip(a, b), strict or not, of two sources. -/
namespace L2.RL
open PySem PySem.Spec PyProof.Rows
open PySem.Sem (wp)

abbrev ZipAt (h : Heap) (b : Bool) (z TI TO : Addr) (f0 : Value) : Prop :=
  h.get? z = some { cls := .type "zip", dict := none, data := .fields #[f0, .bool false, .bool b, .ref TI, .ref TO], slots := #[] }

structure Five (z TI TO i1 i2 : Addr) : Prop where
  nTz : TI ≠ z
  nOz : TO ≠ z
  n1z : i1 ≠ z
  n2z : i2 ≠ z
  nTO : TI ≠ TO
  nT1 : TI ≠ i1
  nT2 : TI ≠ i2
  nO1 : TO ≠ i1
  nO2 : TO ≠ i2
  n12 : i1 ≠ i2

def It2 (b : Bool) (J1 J2 : It) : It :=
  ⟨fun i H => J1.go i H ∧ ∀ x H1, J1.yld i H x H1 → J2.go i H1,
   fun i H v H' => ∃ T x y H1 H2, J1.yld i H x H1 ∧ J2.yld i H1 y H2 ∧ v = .ref T ∧ H2 T = none ∧ H' = upd H2 T (.tup [x, y]),
   fun i H => J1.stop i H ∧ (b = true → J2.stop i H) ∨ b = false ∧ J1.go i H ∧ ∀ x H1, J1.yld i H x H1 → H1 = H ∧ J2.stop i H1⟩

section
variable {P : Program} {w : World} {K : PySem.W.Frag} {J1 J2 : It} {z TI TO i1 i2 : Addr} {tn1 tn2 : Nat → Heap → Prop} {b : Bool}
theorem draw_some {M : Model} {A : Around} {it : Value} {s : Shared} {E : Value → Shared → Prop} {Q : Option Value → Shared → Prop} (h : wpAny M A (Builtin.SmallTypes.nextOf it) (fun u => Q (some u)) (fun _ _ => False) s) :
    wpAny M A (if b = true then Builtin.SmallTypes.nextOrEnd it else return some (← Builtin.SmallTypes.nextOf it)) Q E s := by
  cases b with
  | true =>
    rw [if_pos rfl]
    unfold Builtin.SmallTypes.nextOrEnd
    refine wpAny_bind (wpAny_attempt ?_)
    exact wpAny_mono h (fun u s1 q => wpAny_pure q) fun _ _ q => q.elim
  | false =>
    rw [if_neg Bool.false_ne_true]
    exact wpAny_bind (wpAny_mono h (fun u s1 q => wpAny_pure q) fun _ _ q => q.elim)
theorem ends_none {M : Model} {A : Around} {it : Value} {s : Shared} {E : Value → Shared → Prop} {Q : Option Value → Shared → Prop}
    (h : wpAny M A (Builtin.SmallTypes.nextOf it) (fun _ _ => False) (fun e s1 => (∃ a, e = .ref a ∧ ∃ o, s1.heap.get? a = some o ∧ o.cls = .type "StopIteration") ∧ Q none s1) s) :
    wpAny M A (Builtin.SmallTypes.nextOrEnd it) Q E s := by
  unfold Builtin.SmallTypes.nextOrEnd
  refine wpAny_bind (wpAny_attempt ?_)
  refine wpAny_mono h (fun u s1 q => q.elim) fun e s1 ⟨⟨a, ea, o, ho, hc⟩, q⟩ => ?_
  subst ea
  exact wpAny_bind (wpAny_isInstance (T := "StopIteration") (b := true) ⟨o, ho, hc⟩ isSubtype_stop (wpAny_pure q))

theorem set_pair {prog : Program} {w : World} {A : Around} {E : Value → Shared → Prop} {s : Shared} {T : Addr} {x y v : Value} {k : Nat} {Q : Unit → Shared → Prop} (hT : IsPair s.heap T x y)
    (h : ∀ h', h'.get? T = some { cls := .type "tuple", data := .seq ((#[x, y] : Array Value).setIfInBounds k v) } → Heap.SameBut T s.heap h' → Q () { s with heap := h' }) :
    wpAny (model prog w) A (updateSeq T (·.setIfInBounds k v)) Q E s := wpAny_updateSeq_pair hT h

theorem zip2_item {X : Cx} (hP : X.prog = P) (hw : X.w = w) (hK : X.K = K) {A' : Around} {i : Nat} {pins : List (Addr × Obj)} {s : Shared} {σ : St} {H : Hp} {E : Value → Shared → Prop} {Q : Value → Shared → Prop} {p q : Value}
    (V : Five z TI TO i1 i2) (D1 : Dr P w K J1 i1 tn1) (D2 : Dr P w K J2 i2 tn2) (I : Inv X pins σ H s) (fz : FpOk X pins H z) (fO : FpOk X pins H TO) (f1 : FpOk X pins H i1) (f2 : FpOk X pins H i2)
    (hz : ZipAt s.heap b z TI TO .none) (hTI : IsPair s.heap TI (.ref i1) (.ref i2)) (hTO : IsPair s.heap TO p q) (t1 : tn1 i s.heap) (t2 : tn2 i s.heap) (g : (It2 b J1 J2).go i H)
    (hQ : ∀ T u1 u2 x y H1 H2 h' tk, J1.yld i H x H1 → J2.yld i H1 y H2 → RelV x u1 → RelV y u2 → H2 T = none → (∀ c o, s.heap.get? c = some o → H c = none → H2 c = none) → (∀ c o, s.heap.get? c = some o → c ≠ T) →
      Inv X pins σ (upd H2 T (.tup [x, y])) { s with heap := h', toks := tk } → ZipAt h' b z TI TO (rawInt T) → IsPair h' T u1 u2 → IsPair h' TO u1 u2 → tn1 (i + 1) h' → tn2 (i + 1) h' →
      (∀ c o, c ≠ z → c ≠ TO → c ≠ i1 → c ≠ i2 → s.heap.get? c = some o → h'.get? c = some o) → Q (.ref T) { s with heap := h', toks := tk }) :
    wpAny (model P w) A' (Builtin.«zip.__next__» ⟨[.ref z], []⟩) (fun fin s' => ∃ v, fin = .done (.ret v) ∧ Q v s') E s := by
  obtain ⟨hp, gg, d, tk0, os⟩ := s
  show wpAny _ _ (field (.ref z) 2 >>= _) _ _ _
  refine wpAny_bind (wpAny_field hz rfl (x := .bool b) rfl ?_)
  show wpAny _ _ (field (.ref z) 3 >>= _) _ _ _
  refine wpAny_bind (wpAny_field hz rfl (x := .ref TI) rfl ?_)
  refine wpAny_bind (wpAny_seqItems hTI rfl ?_)
  show wpAny _ _ (Builtin.SmallTypes.ownedTupleIsFree (.ref z) >>= _) _ _ _
  refine wpAny_bind ?_
  unfold Builtin.SmallTypes.ownedTupleIsFree
  refine wpAny_bind (wpAny_field hz rfl (x := .none) rfl (wpAny_pure ?_))
  simp only [if_true]
  refine wpAny_bind (wpAny_rule ?_)
  refine wpAny_bind (wpAny_field hz rfl (x := .ref TO) rfl ?_)
  refine wpAny_bind (wpAny_setField_rec hz (by simp) fun g0 hz0 hs0 => ?_)
  replace hz0 : ZipAt g0 b z TI TO .ellipsis := hz0
  replace hs0 : Heap.SameBut z hp g0 := hs0
  have I0 : Inv X pins σ H ⟨g0, gg, d, tk0, os⟩ := Inv.turn1 (s := ⟨hp, gg, d, tk0, os⟩) (t' := tk0) I fz fun c o hc e => hs0.extBut c o hc e
  have hbb : (Value.bool b == Value.bool true) = b := by cases b <;> rfl
  rw [hbb]
  refine wpAny_bind ?_
  simp only [List.zipIdx_cons, List.zipIdx_nil, List.forIn_cons, List.forIn_nil]
  refine wpAny_bind (wpAny_bind (wpAny_onRaise ?_))
  refine draw_some (b := b) (D1.item X hP hw hK A' i pins ⟨g0, gg, d, tk0, os⟩ σ H _ _ I0 f1 (D1.keep _ _ _ t1 fun o e => hs0.extBut _ _ V.n1z e) g.1 fun u1 x H1 p1 tk1 I1 r1 y1 n1 k1 fr1 => ?_)
  have z1 : ZipAt p1 b z TI TO .ellipsis := k1 _ _ V.n1z.symm hz0
  have O1 : IsPair p1 TO p q := k1 _ _ V.nO1 (hs0.extBut _ _ V.nOz hTO)
  have lz0 : ∀ {c o}, hp.get? c = some o → H c = none → H1 c = none := fun {c o} e n => by
    by_cases hc : c = z
    · subst hc; exact fr1 _ _ hz0 n
    · exact fr1 c o (hs0.extBut c o hc e) n
  refine wpAny_bind (wpAny_seqItems (s := ⟨p1, gg, d, tk1, os⟩) O1 rfl ?_)
  refine wpAny_bind (set_pair (s := ⟨p1, gg, d, tk1, os⟩) O1 fun g1 hT1 hs1 => ?_)
  replace hT1 : IsPair g1 TO u1 q := hT1
  replace hs1 : Heap.SameBut TO p1 g1 := hs1
  have fO1 : FpOk X pins H1 TO := FpOk.after fO (lz0 hTO fO.1)
  have fz1 : FpOk X pins H1 z := FpOk.after fz (lz0 hz fz.1)
  obtain ⟨o1, e1, _⟩ := D1.obj _ _ t1
  obtain ⟨o2, e2, _⟩ := D2.obj _ _ t2
  have f11 : FpOk X pins H1 i1 := FpOk.after f1 (lz0 e1 f1.1)
  have f21 : FpOk X pins H1 i2 := FpOk.after f2 (lz0 e2 f2.1)
  have I2 : Inv X pins σ H1 ⟨g1, gg, d, tk1, os⟩ := Inv.turn1 (s := ⟨p1, gg, d, tk1, os⟩) (t' := tk1) I1 fO1 fun c o hc e => hs1.extBut c o hc e
  refine wpAny_bind (wpAny_letGo (wpAny_pure ?_))
  refine wpAny_bind (wpAny_bind (wpAny_onRaise ?_))
  have t2' : tn2 i g1 := D2.keep _ _ _ t2 fun o e => hs1.extBut _ _ V.nO2.symm (k1 _ _ V.n12.symm (hs0.extBut _ _ V.n2z e))
  refine draw_some (b := b) (D2.item X hP hw hK A' i pins ⟨g1, gg, d, tk1, os⟩ σ H1 _ _ I2 f21 t2' (g.2 x H1 y1) fun u2 y H2 p2 tk2 I3 r2 y2 n2 k2 fr2 => ?_)
  have lz1 : ∀ {c o}, p1.get? c = some o → H1 c = none → H2 c = none := fun {c o} e n => by
    by_cases hc : c = TO
    · subst hc; exact fr2 _ _ hT1 n
    · exact fr2 c o (hs1.extBut c o hc e) n
  have lz2 : ∀ c o, hp.get? c = some o → H c = none → H2 c = none := fun c o e n => by
    have n1' := lz0 e n
    by_cases hc : c = z
    · subst hc; exact lz1 z1 n1'
    · by_cases hc1 : c = i1
      · subst hc1
        obtain ⟨o', e', _⟩ := D1.obj _ _ n1
        exact lz1 e' n1'
      · exact lz1 (k1 c o hc1 (hs0.extBut c o hc e)) n1'
  have z2 : ZipAt p2 b z TI TO .ellipsis := k2 _ _ V.n2z.symm (hs1.extBut _ _ V.nOz.symm z1)
  have O2 : IsPair p2 TO u1 q := k2 _ _ V.nO2 hT1
  have n1b : tn1 (i + 1) p2 := D1.keep _ _ _ n1 fun o e => k2 _ _ V.n12 (hs1.extBut _ _ V.nO1.symm e)
  refine wpAny_bind (wpAny_seqItems (s := ⟨p2, gg, d, tk2, os⟩) O2 rfl ?_)
  refine wpAny_bind (set_pair (s := ⟨p2, gg, d, tk2, os⟩) O2 fun g2 hT2 hs2 => ?_)
  replace hT2 : IsPair g2 TO u1 u2 := hT2
  replace hs2 : Heap.SameBut TO p2 g2 := hs2
  refine wpAny_bind (wpAny_letGo (wpAny_pure (wpAny_pure ?_)))
  refine wpAny_bind (wpAny_seqItems (s := ⟨g2, gg, d, tk2, os⟩) hT2 rfl ?_)
  have fO2 : FpOk X pins H2 TO := FpOk.after fO (lz2 _ _ hTO fO.1)
  have fz2 : FpOk X pins H2 z := FpOk.after fz (lz2 _ _ hz fz.1)
  have I4 : Inv X pins σ H2 ⟨g2, gg, d, tk2, os⟩ := Inv.turn1 (s := ⟨p2, gg, d, tk2, os⟩) (t' := tk2) I3 fO2 fun c o hc e => hs2.extBut c o hc e
  have z3 : ZipAt g2 b z TI TO .ellipsis := hs2.extBut _ _ V.nOz.symm z2
  refine wpAny_bind (wpAny_newTuple ?_)
  show wpAny _ _ (Builtin.SmallTypes.ownedTupleHandOut (.ref z) (.ref g2.objs.size) >>= _) _ _ ⟨g2.push { cls := .type "tuple", data := .seq #[u1, u2] }, gg, d, tk2, os⟩
  refine wpAny_bind ?_
  unfold Builtin.SmallTypes.ownedTupleHandOut
  have z4 : ZipAt (g2.push { cls := .type "tuple", data := .seq #[u1, u2] }) b z TI TO .ellipsis := Heap.get?_push_of_some _ z3
  refine wpAny_bind (wpAny_setField_rec z4 (by simp) fun g5 z5 s5 => ?_)
  replace z5 : ZipAt g5 b z TI TO (rawInt g2.objs.size) := z5
  refine wpAny_setField_rec z5 (by simp) fun g6 z6 s6 => ?_
  replace z6 : ZipAt g6 b z TI TO (rawInt g2.objs.size) := z6
  replace s5 : Heap.SameBut z (g2.push { cls := .type "tuple", data := .seq #[u1, u2] }) g5 := s5
  replace s6 : Heap.SameBut z g5 g6 := s6
  have up : ∀ c o, c ≠ z → g2.get? c = some o → g6.get? c = some o := fun c o hc e => s6.extBut _ _ hc (s5.extBut _ _ hc (Heap.get?_push_of_some _ e))
  have hzl : z < g2.objs.size := Heap.lt_size z3
  have hT6 : IsPair g6 g2.objs.size u1 u2 := s6.extBut _ _ (Nat.ne_of_gt hzl) (s5.extBut _ _ (Nat.ne_of_gt hzl) (Heap.get?_push_size _ rfl))
  have new : ObjOk X.prog X.w (upd H2 g2.objs.size (.tup [x, y])) g6 g2.objs.size (.tup [x, y]) :=
    ⟨by show 2 ≤ sizeLine; rw [sizeLine_eq]; omega, [u1, u2], .cons r1 (.cons r2 .nil), ⟨_, hT6, rfl, _, rfl⟩⟩
  have I5 : Inv X pins σ (upd H2 g2.objs.size (.tup [x, y])) ⟨g6, gg, d, tk2, os⟩ :=
    Inv.turnedNew (s := ⟨g2, gg, d, tk2, os⟩) (t' := tk2) I4 (ch := [z]) (fun c o hc e => up c o (fun qq => hc (by simp [qq])) e) (fun c hc => by
      have e : c = z := by simpa using hc
      rw [e]; exact fz2) (Nat.le_refl _) new
  have all : ∀ c o, c ≠ z → c ≠ TO → c ≠ i1 → c ≠ i2 → hp.get? c = some o → g6.get? c = some o := fun c o c1 c2 c3 c4 e =>
    up c o c1 (hs2.extBut _ _ c2 (k2 _ _ c4 (hs1.extBut _ _ c2 (k1 _ _ c3 (hs0.extBut _ _ c1 e)))))
  refine wpAny_pure ⟨_, rfl, ?_⟩
  refine hQ g2.objs.size u1 u2 x y H1 H2 g6 tk2 y1 y2 r1 r2 (I4.hok.fresh (Nat.le_refl _)) lz2 (fun c o e => ?_) I5 z6 hT6 (up _ _ V.nOz hT2) ?_ ?_ all
  · have hlt : c < g2.objs.size := by
      have key : ∃ o', g2.get? c = some o' := by
        by_cases hc : c = z
        · subst hc; exact ⟨_, z3⟩
        by_cases hc2 : c = TO
        · subst hc2; exact ⟨_, hT2⟩
        by_cases hc3 : c = i1
        · subst hc3
          obtain ⟨o', e', _⟩ := D1.obj _ _ n1b
          exact ⟨o', hs2.extBut _ _ hc2 e'⟩
        by_cases hc4 : c = i2
        · subst hc4
          obtain ⟨o', e', _⟩ := D2.obj _ _ n2
          exact ⟨o', hs2.extBut _ _ hc2 e'⟩
        exact ⟨o, hs2.extBut _ _ hc2 (k2 _ _ hc4 (hs1.extBut _ _ hc2 (k1 _ _ hc3 (hs0.extBut _ _ hc e))))⟩
      obtain ⟨o', e'⟩ := key
      exact Heap.lt_size e'
    exact Nat.ne_of_lt hlt
  · exact D1.keep _ _ _ n1b fun o e => up _ _ V.n1z (hs2.extBut _ _ V.nO1.symm e)
  · exact D2.keep _ _ _ n2 fun o e => up _ _ V.n2z (hs2.extBut _ _ V.nO2.symm e)
end
end L2.RL
end
section
set_option Elab.async false
set_option linter.all false
set_option maxRecDepth 100000
set_option maxHeartbeats 4000000
/-! zip's end, its turns, its call. -/
namespace L2.RL
open PySem PySem.Spec PyProof.Rows
open PySem.Sem (wp)
section
variable {P : Program} {w : World} {K : PySem.W.Frag} {J1 J2 : It} {z TI TO i1 i2 : Addr} {tn1 tn2 : Nat → Heap → Prop} {b : Bool}

theorem stop_raise {prog : Program} {w : World} {A : Around} {s : Shared} {E : Value → Shared → Prop} {Q : Fin → Shared → Prop} (hh : A.handled = none)
    (h : ∀ e h', (∀ c o, s.heap.get? c = some o → h'.get? c = some o) → (∃ o, h'.get? e = some o ∧ o.cls = .type "StopIteration") → E (.ref e) { s with heap := h' }) :
    wpAny (model prog w) A (Builtin.SmallTypes.stopIteration : Sem Fin) Q E s := by
  show wpAny _ _ (newExc (.type "StopIteration") [] >>= _) _ _ _
  refine wpAny_bind ?_
  simp only [newExc, newTuple]
  refine wpAny_bind (wpAny_newObj_type ?_ (by size_fits))
  refine wpAny_bind (m := firstArgMember _ _) (wpAny_of_eq (a := Value.none) (by first | rfl | (simp only [firstArgMember]; rfl)) ?_)
  refine wpAny_newObj_type ?_ (by size_fits)
  simp only [raiseNew]
  refine wpAny_bind (wpAny_handled ?_)
  rw [hh]
  refine wpAny_bind (wpAny_pure (wpAny_throw ?_))
  exact h _ _ (fun c o e => Heap.get?_push_of_some _ (Heap.get?_push_of_some _ e)) ⟨_, Heap.get?_push_size _ rfl, rfl⟩

def Ended (X : Cx) (pins : List (Addr × Obj)) (σ : St) (H : Hp) (s : Shared) (E : Value → Shared → Prop) : Prop :=
  ∀ e h' tk, Inv X pins σ H { s with heap := h', toks := tk } → (∃ o, h'.get? e = some o ∧ o.cls = .type "StopIteration") → E (.ref e) { s with heap := h', toks := tk }

theorem zip2_end {X : Cx} (hP : X.prog = P) (hw : X.w = w) (hK : X.K = K) {A' : Around} (hh : A'.handled = none) {i : Nat} {pins : List (Addr × Obj)} {s : Shared} {σ : St} {H : Hp} {E : Value → Shared → Prop} {Q : Fin → Shared → Prop} {p q : Value}
    (V : Five z TI TO i1 i2) (D1 : Dr P w K J1 i1 tn1) (D2 : Dr P w K J2 i2 tn2) (I : Inv X pins σ H s) (fz : FpOk X pins H z) (fO : FpOk X pins H TO) (f1 : FpOk X pins H i1) (f2 : FpOk X pins H i2)
    (hz : ZipAt s.heap b z TI TO .none) (hTI : IsPair s.heap TI (.ref i1) (.ref i2)) (hTO : IsPair s.heap TO p q) (t1 : tn1 i s.heap) (t2 : tn2 i s.heap) (g : (It2 b J1 J2).stop i H)
    (hE : Ended X pins σ H s E) : wpAny (model P w) A' (Builtin.«zip.__next__» ⟨[.ref z], []⟩) Q E s := by
  obtain ⟨hp, gg, d, tk0, os⟩ := s
  show wpAny _ _ (field (.ref z) 2 >>= _) _ _ _
  refine wpAny_bind (wpAny_field hz rfl (x := .bool b) rfl ?_)
  show wpAny _ _ (field (.ref z) 3 >>= _) _ _ _
  refine wpAny_bind (wpAny_field hz rfl (x := .ref TI) rfl ?_)
  refine wpAny_bind (wpAny_seqItems hTI rfl ?_)
  show wpAny _ _ (Builtin.SmallTypes.ownedTupleIsFree (.ref z) >>= _) _ _ _
  refine wpAny_bind ?_
  unfold Builtin.SmallTypes.ownedTupleIsFree
  refine wpAny_bind (wpAny_field hz rfl (x := .none) rfl (wpAny_pure ?_))
  simp only [if_true]
  refine wpAny_bind (wpAny_rule ?_)
  refine wpAny_bind (wpAny_field hz rfl (x := .ref TO) rfl ?_)
  refine wpAny_bind (wpAny_setField_rec hz (by simp) fun g0 hz0 hs0 => ?_)
  replace hz0 : ZipAt g0 b z TI TO .ellipsis := hz0
  replace hs0 : Heap.SameBut z hp g0 := hs0
  have I0 : Inv X pins σ H ⟨g0, gg, d, tk0, os⟩ := Inv.turn1 (s := ⟨hp, gg, d, tk0, os⟩) (t' := tk0) I fz fun c o hc e => hs0.extBut c o hc e
  have hbb : (Value.bool b == Value.bool true) = b := by cases b <;> rfl
  rw [hbb]
  refine wpAny_bind ?_
  simp only [List.zipIdx_cons, List.zipIdx_nil, List.forIn_cons, List.forIn_nil]
  refine wpAny_bind (wpAny_bind (wpAny_onRaise ?_))
  have t1' : tn1 i g0 := D1.keep _ _ _ t1 fun o e => hs0.extBut _ _ V.n1z e
  have t2' : tn2 i g0 := D2.keep _ _ _ t2 fun o e => hs0.extBut _ _ V.n2z e
  obtain ⟨o2, e2, _⟩ := D2.obj _ _ t2
  rcases g with ⟨g1, g2⟩ | ⟨rfl, g1, g2⟩
  · cases b with
    | true =>
      show wpAny _ _ (Builtin.SmallTypes.nextOrEnd (.ref i1)) _ _ _
      refine ends_none (D1.done X hP hw hK A' i pins ⟨g0, gg, d, tk0, os⟩ σ H _ _ hh I0 f1 t1' g1 fun e p1 tk1 I1 he k1 => ⟨⟨e, rfl, he⟩, ?_⟩)
      have z1 : ZipAt p1 true z TI TO .ellipsis := k1 _ _ V.n1z.symm hz0
      refine wpAny_bind (wpAny_setField_rec (s := ⟨p1, gg, d, tk1, os⟩) z1 (by simp) fun g3 z3 s3 => ?_)
      replace s3 : Heap.SameBut z p1 g3 := s3
      have I3 : Inv X pins σ H ⟨g3, gg, d, tk1, os⟩ := Inv.turn1 (s := ⟨p1, gg, d, tk1, os⟩) (t' := tk1) I1 fz fun c o hc e => s3.extBut c o hc e
      have t3 : tn2 i g3 := D2.keep _ _ _ t2' fun o e => s3.extBut _ _ V.n2z (k1 _ _ V.n12.symm e)
      refine wpAny_bind ?_
      show wpAny _ _ (bind _ _) _ _ _
      refine wpAny_bind ?_
      simp only [List.drop_succ_cons, List.drop_zero, List.zipIdx_cons, List.zipIdx_nil, List.forIn_cons, List.forIn_nil]
      refine wpAny_bind (wpAny_bind (ends_none (D2.done X hP hw hK A' i pins ⟨g3, gg, d, tk1, os⟩ σ H _ _ hh I3 f2 t3 (g2 rfl) fun e' p2 tk2 I4 he' k2 => ⟨⟨e', rfl, he'⟩, ?_⟩)))
      refine wpAny_ite ?_
      rw [if_neg (by simp)]
      refine wpAny_pure (wpAny_pure ?_)
      refine wpAny_bind (wpAny_rule ?_)
      refine stop_raise hh fun e5 h5 k5 he5 => hE e5 h5 tk2 ?_ he5
      exact Inv.kept (s := ⟨p2, gg, d, tk2, os⟩) (t' := tk2) I4 k5
    | false =>
      show wpAny _ _ (Builtin.SmallTypes.nextOf (.ref i1) >>= _) _ _ _
      refine wpAny_bind (D1.done X hP hw hK A' i pins ⟨g0, gg, d, tk0, os⟩ σ H _ _ hh I0 f1 t1' g1 fun e p1 tk1 I1 he k1 => ?_)
      have z1 : ZipAt p1 false z TI TO .ellipsis := k1 _ _ V.n1z.symm hz0
      obtain ⟨oe, hoe, hce⟩ := he
      have hez : e ≠ z := fun x => by
        subst x
        rw [z1] at hoe
        cases hoe
        simp at hce
      refine wpAny_setField_rec (s := ⟨p1, gg, d, tk1, os⟩) z1 (by simp) fun g3 z3 s3 => ?_
      replace s3 : Heap.SameBut z p1 g3 := s3
      exact hE e g3 tk1 (Inv.turn1 (s := ⟨p1, gg, d, tk1, os⟩) (t' := tk1) I1 fz fun c o hc e => s3.extBut c o hc e) ⟨oe, s3.extBut _ _ hez hoe, hce⟩
  · refine draw_some (b := false) (D1.item X hP hw hK A' i pins ⟨g0, gg, d, tk0, os⟩ σ H _ _ I0 f1 t1' g1 fun u1 x H1 p1 tk1 I1 r1 y1 n1 k1 fr1 => ?_)
    obtain ⟨rfl, g3⟩ := g2 x H1 y1
    have z1 : ZipAt p1 false z TI TO .ellipsis := k1 _ _ V.n1z.symm hz0
    have O1 : IsPair p1 TO p q := k1 _ _ V.nO1 (hs0.extBut _ _ V.nOz hTO)
    refine wpAny_bind (wpAny_seqItems (s := ⟨p1, gg, d, tk1, os⟩) O1 rfl ?_)
    refine wpAny_bind (set_pair (s := ⟨p1, gg, d, tk1, os⟩) O1 fun g4 hT1 hs1 => ?_)
    replace hs1 : Heap.SameBut TO p1 g4 := hs1
    have I2 : Inv X pins σ H1 ⟨g4, gg, d, tk1, os⟩ := Inv.turn1 (s := ⟨p1, gg, d, tk1, os⟩) (t' := tk1) I1 fO fun c o hc e => hs1.extBut c o hc e
    refine wpAny_bind (wpAny_letGo (wpAny_pure ?_))
    refine wpAny_bind (wpAny_bind (wpAny_onRaise ?_))
    have t3 : tn2 i g4 := D2.keep _ _ _ t2' fun o e => hs1.extBut _ _ V.nO2.symm (k1 _ _ V.n12.symm e)
    show wpAny _ _ (Builtin.SmallTypes.nextOf (.ref i2) >>= _) _ _ _
    refine wpAny_bind (D2.done X hP hw hK A' i pins ⟨g4, gg, d, tk1, os⟩ σ H1 _ _ hh I2 f2 t3 g3 fun e p2 tk2 I3 he k2 => ?_)
    have z2 : ZipAt p2 false z TI TO .ellipsis := k2 _ _ V.n2z.symm (hs1.extBut _ _ V.nOz.symm z1)
    obtain ⟨oe, hoe, hce⟩ := he
    have hez : e ≠ z := fun x => by
      subst x
      rw [z2] at hoe
      cases hoe
      simp at hce
    refine wpAny_setField_rec (s := ⟨p2, gg, d, tk2, os⟩) z2 (by simp) fun g5 z5 s5 => ?_
    replace s5 : Heap.SameBut z p2 g5 := s5
    exact hE e g5 tk2 (Inv.turn1 (s := ⟨p2, gg, d, tk2, os⟩) (t' := tk2) I3 fz fun c o hc e => s5.extBut c o hc e) ⟨oe, s5.extBut _ _ hez hoe, hce⟩

theorem letGoZ {prog : Program} {A : Around} {E : Value → Shared → Prop} {s : Shared} {elts : List Expr} {x1} {pos : Pos} {T : Addr} {Q : Unit → Shared → Prop} (hz : ZipAt s.heap b z TI TO (rawInt T))
    (hQ : ∀ h', ZipAt h' b z TI TO .none → Heap.SameBut z s.heap h' → Q () { s with heap := h' }) :
    wpAny (model prog w) A (letOwnedTupleGo (.Tuple elts x1 pos) (.ref z) (.ref T)) Q E s := by
  unfold letOwnedTupleGo
  refine wpAny_bind (wpAny_load hz ?_)
  simp only [Array.getElem?_eq_getElem, List.size_toArray, List.length_cons, List.length_nil]
  split
  · refine wpAny_bind (wpAny_rule ?_)
    show wpAny _ _ (setField (.ref z) 0 .none) Q E s
    exact wpAny_setField_rec hz (by simp) hQ
  · rename_i hc
    exact absurd (by simp) hc
theorem iterZ {prog : Program} {A : Around} {E : Value → Shared → Prop} {s : Shared} {f0 : Value} {Q : Value → Shared → Prop} (hz : ZipAt s.heap b z TI TO f0) (h : Q (.ref z) s) : wpAny (model prog w) A (pyIter (.ref z)) Q E s := by
  have hT : s.TypeIs (.ref z) "zip" := ⟨_, hz, rfl⟩
  refine wpAny_pyIter_slot hT F.slot_zip_iter (wpAny_call_entry F.slot_zip_iter hT F.entry_zip_iter ?_ (F.args_zip_iter_1 _))
  exact wpAny_pure ⟨_, rfl, "zip", _, hT, F.slot_zip_next.lookup, h⟩

theorem turn_zip2 {elts : List Expr} {kk : Nat} {tpos : Pos} (V : Five z TI TO i1 i2) (D1 : Dr P w K J1 i1 tn1) (D2 : Dr P w K J2 i2 tn2) :
    Turn P w K (.Tuple elts kk tpos) (It2 b J1 J2) [z, TI, TO, i1, i2] z (fun i h => ZipAt h b z TI TO .none ∧ IsPair h TI (.ref i1) (.ref i2) ∧ (∃ p q, IsPair h TO p q) ∧ tn1 i h ∧ tn2 i h) where
  mem := by simp
  obj := fun i h st c hc => by
    obtain ⟨hz, hTI, ⟨x, y, hTO⟩, t1, t2⟩ := st
    have e' : c = z ∨ c = TI ∨ c = TO ∨ c = i1 ∨ c = i2 := by simpa using hc
    rcases e' with rfl | rfl | rfl | rfl | rfl
    · exact ⟨_, hz, fun v q => nomatch q⟩
    · exact ⟨_, hTI, fun v q => nomatch q⟩
    · exact ⟨_, hTO, fun v q => nomatch q⟩
    · exact D1.obj _ _ t1
    · exact D2.obj _ _ t2
  keep := fun i h h' st k => by
    obtain ⟨hz, hTI, ⟨x, y, hTO⟩, t1, t2⟩ := st
    exact ⟨k z (by simp) _ hz, k TI (by simp) _ hTI, ⟨x, y, k TO (by simp) _ hTO⟩, D1.keep _ _ _ t1 fun o e => k i1 (by simp) o e, D2.keep _ _ _ t2 fun o e => k i2 (by simp) o e⟩
  item := by
    intro X hP hw hK hc i pins s σ H E I hf st hg
    obtain ⟨hz, hTI, ⟨x0, y0, hTO⟩, t1, t2⟩ := st
    have hT : s.TypeIs (.ref z) "zip" := ⟨_, hz, rfl⟩
    unfold pyNext
    refine wpAny_bind (wpAny_attempt (wpAny_callSpecial?_slot (name := Str.ofString "__next__") hT F.slot_zip_next
      (wpAny_call_entry F.slot_zip_next hT F.entry_zip_next (zip2_item hP hw hK V D1 D2 I (hf z (by simp)) (hf TO (by simp)) (hf i1 (by simp)) (hf i2 (by simp)) hz hTI hTO t1 t2 hg ?_) (F.args_zip_next_1 _))))
    intro T u1 u2 x y H1 H2 h' tk y1 y2 r1 r2 hn lz hne I2 hz' hTT hTO' t1' t2' all
    refine wpAny_pure ⟨_, rfl, ?_⟩
    refine letGoZ hz' fun h'' hz'' sb => ?_
    have lz3 : ∀ c ∈ [z, TI, TO, i1, i2], (upd H2 T (.tup [x, y])) c = none := fun c hc => by
      have e' : c = z ∨ c = TI ∨ c = TO ∨ c = i1 ∨ c = i2 := by simpa using hc
      have ex : ∃ o, s.heap.get? c = some o := by
        rcases e' with rfl | rfl | rfl | rfl | rfl
        · exact ⟨_, hz⟩
        · exact ⟨_, hTI⟩
        · exact ⟨_, hTO⟩
        · obtain ⟨o, e, _⟩ := D1.obj _ _ t1; exact ⟨o, e⟩
        · obtain ⟨o, e, _⟩ := D2.obj _ _ t2; exact ⟨o, e⟩
      obtain ⟨o, e⟩ := ex
      rw [upd_ne (hne c o e)]
      exact lz c o e (hf c hc).1
    have fz2 : FpOk X pins (upd H2 T (.tup [x, y])) z := FpOk.after (hf z (by simp)) (lz3 z (by simp))
    refine ⟨.ref T, _, Inv.turn1 (s := { s with heap := h', toks := tk }) (t' := tk) I2 fz2 fun c o hc e => sb.extBut c o hc e, rfl, ⟨T, x, y, H1, H2, y1, y2, rfl, hn, rfl⟩, ⟨hz'', ?_, ⟨u1, u2, ?_⟩, ?_, ?_⟩, lz3⟩
    · exact sb.extBut _ _ V.nTz (all _ _ V.nTz V.nTO V.nT1 V.nT2 hTI)
    · exact sb.extBut _ _ V.nOz hTO'
    · exact D1.keep _ _ _ t1' fun o e => sb.extBut _ _ V.n1z e
    · exact D2.keep _ _ _ t2' fun o e => sb.extBut _ _ V.n2z e
  done := by
    intro X hP hw hK hc i pins s σ H E I hf st hg
    obtain ⟨hz, hTI, ⟨x0, y0, hTO⟩, t1, t2⟩ := st
    have hT : s.TypeIs (.ref z) "zip" := ⟨_, hz, rfl⟩
    unfold pyNext
    refine wpAny_bind (wpAny_attempt (wpAny_callSpecial?_slot (name := Str.ofString "__next__") hT F.slot_zip_next
      (wpAny_call_entry F.slot_zip_next hT F.entry_zip_next (zip2_end hP hw hK (by exact I.ok.hd hc) V D1 D2 I (hf z (by simp)) (hf TO (by simp)) (hf i1 (by simp)) (hf i2 (by simp)) hz hTI hTO t1 t2 hg ?_) (F.args_zip_next_1 _))))
    intro e h' tk I2 he
    obtain ⟨o, ho, hcl⟩ := he
    refine wpAny_bind (wpAny_isInstance (T := "StopIteration") (b := true) ⟨o, ho, hcl⟩ isSubtype_stop ?_)
    exact wpAny_pure ⟨rfl, I2⟩
  self := fun A i s Q E st h => iterZ st.1 h
end
end L2.RL
end
section
set_option Elab.async false
set_option linter.all false
set_option maxRecDepth 100000
set_option maxHeartbeats 4000000
/-! the items of a dict of the module's text, as a source of a zip. -/
namespace L2.RL
open PySem PySem.Spec PyProof.Rows
open PySem.Sem (wp)

theorem alive_any {M : Model} {A : Around} {s : Shared} {E : Value → Shared → Prop} {a : Addr} {Q : Option Obj → Shared → Prop} (h : Q (s.heap.get? a) s) : wpAny M A (loadIfAlive a) Q E s :=
  fun Γ p _ => by unfold loadIfAlive; rw [Sem.wp_loadIfAlive]; exact h

abbrev ItemsAt (h : Heap) (it d : Addr) (i n ep : Nat) (f0 f1 k v : Value) : Prop :=
  h.get? it = some { cls := .type "dict_itemiterator", dict := none, data := .fields #[f0, f1, .ref d, .int i 0, .int n 0, .int ep 0, k, v], slots := #[] }
def Handed (f0 : Value) : Prop := f0 = .none ∨ ∃ a : Nat, f0 = rawInt (a : Nat)

section
variable {prog : Program} {w : World} {A : Around} {E : Value → Shared → Prop} {s : Shared}
theorem free_cases {it d : Addr} {i n ep : Nat} {f0 f1 k v : Value} {Q : Bool → Shared → Prop} (hf : Handed f0) (hit : ItemsAt s.heap it d i n ep f0 f1 k v)
    (h : ∀ (b : Bool) f1' h', ItemsAt h' it d i n ep f0 f1' k v → (∀ c o, c ≠ it → s.heap.get? c = some o → h'.get? c = some o) → h'.objs.size = s.heap.objs.size → Q b { s with heap := h' }) :
    wpAny (model prog w) A (Builtin.Dict_items.ownedTupleIsFree (.ref it)) Q E s := by
  obtain ⟨hp, g, dr, tk, os⟩ := s
  unfold Builtin.Dict_items.ownedTupleIsFree
  rcases hf with rfl | ⟨a, rfl⟩
  · exact wpAny_bind (wpAny_field hit rfl (x := .none) rfl (wpAny_pure (h true f1 hp hit (fun _ _ _ e => e) rfl)))
  · refine wpAny_bind (wpAny_field hit rfl (x := rawInt (a : Nat)) rfl ?_)
    refine wpAny_bind (alive_any ?_)
    refine wpAny_ite ?_
    split
    · exact wpAny_pure (h true f1 hp hit (fun _ _ _ e => e) rfl)
    · refine wpAny_bind (wpAny_field hit rfl (x := f1) rfl ?_)
      refine wpAny_ite ?_
      split
      · refine wpAny_bind (wpAny_setField_rec hit (by simp) fun h1 e1 s1 => wpAny_pure ?_)
        exact h false (.bool true) h1 e1 (fun c o hc e => s1.extBut c o hc e) s1.1
      · exact wpAny_pure (h false f1 hp hit (fun _ _ _ e => e) rfl)

theorem pair_out {it d : Addr} {i n ep : Nat} {f0 f1 k v key val : Value} {Q : Value → Shared → Prop} (hf : Handed f0) (hit : ItemsAt s.heap it d i n ep f0 f1 k v)
    (h : ∀ T g0 g1 k' v' h', Handed g0 → ItemsAt h' it d i n ep g0 g1 k' v' → s.heap.objs.size ≤ T → h'.get? T = some { cls := .type "tuple", data := .seq #[key, val] } → (∀ c o, c ≠ it → s.heap.get? c = some o → h'.get? c = some o) →
      Q (.ref T) { s with heap := h' }) :
    wpAny (model prog w) A (Builtin.Dict_items.pairFromOwner (.ref it) 6 key val) Q E s := by
  obtain ⟨hp, g, dr, tk, os⟩ := s
  have hil : it < hp.objs.size := Heap.lt_size hit
  unfold Builtin.Dict_items.pairFromOwner
  refine wpAny_bind (wpAny_newTuple ?_)
  have h0 : ItemsAt (hp.push { cls := .type "tuple", data := .seq #[key, val] }) it d i n ep f0 f1 k v := Heap.get?_push_of_some _ hit
  have t0 : (hp.push { cls := .type "tuple", data := .seq #[key, val] }).get? hp.objs.size = some { cls := .type "tuple", data := .seq #[key, val] } := Heap.get?_push_size _ rfl
  have k0 : ∀ c o, hp.get? c = some o → (hp.push { cls := .type "tuple", data := .seq #[key, val] }).get? c = some o := fun c o e => Heap.get?_push_of_some _ e
  refine wpAny_bind (free_cases (s := ⟨hp.push { cls := .type "tuple", data := .seq #[key, val] }, g, dr, tk, os⟩) hf h0 fun b f1' h1 e1 k1 z1 => ?_)
  have t1 : h1.get? hp.objs.size = some { cls := .type "tuple", data := .seq #[key, val] } := k1 _ _ (Nat.ne_of_gt hil) t0
  refine wpAny_ite ?_
  split
  · refine wpAny_bind (wpAny_field e1 rfl (x := k) rfl ?_)
    refine wpAny_bind (wpAny_field e1 rfl (x := v) rfl ?_)
    refine wpAny_bind (wpAny_setField_rec e1 (by simp) fun h2 e2 s2 => ?_)
    replace e2 : ItemsAt h2 it d i n ep f0 f1' key v := e2
    refine wpAny_bind (wpAny_setField_rec e2 (by simp) fun h3 e3 s3 => ?_)
    replace e3 : ItemsAt h3 it d i n ep f0 f1' key val := e3
    refine wpAny_bind (wpAny_setField_rec e3 (by simp) fun h4 e4 s4 => ?_)
    replace e4 : ItemsAt h4 it d i n ep (rawInt (hp.objs.size : Nat)) f1' key val := e4
    refine wpAny_bind (wpAny_setField_rec e4 (by simp) fun h5 e5 s5 => ?_)
    replace e5 : ItemsAt h5 it d i n ep (rawInt (hp.objs.size : Nat)) (.bool false) key val := e5
    refine wpAny_bind (wpAny_letGo (wpAny_pure ?_))
    have up : ∀ c o, c ≠ it → h1.get? c = some o → h5.get? c = some o := fun c o hc e => s5.extBut _ _ hc (s4.extBut _ _ hc (s3.extBut _ _ hc (s2.extBut _ _ hc e)))
    exact h hp.objs.size _ _ _ _ h5 (.inr ⟨_, rfl⟩) e5 (Nat.le_refl _) (up _ _ (Nat.ne_of_gt hil) t1) fun c o hc e => up c o hc (k1 c o hc (k0 c o e))
  · exact wpAny_pure (h hp.objs.size _ _ _ _ h1 hf e1 (Nat.le_refl _) t1 fun c o hc e => k1 c o hc (k0 c o e))

theorem items_next {it d : Addr} {i ep : Nat} {es : Array DictEntry} {f0 f1 k v : Value} {Q : Value → Shared → Prop} (hf : Handed f0) (hit : ItemsAt s.heap it d i es.size ep f0 f1 k v) (hm : s.heap.DictRaw d es ep) (hlt : i < es.size)
    (h : ∀ T g0 g1 k' v' h', Handed g0 → ItemsAt h' it d (i + 1) es.size ep g0 g1 k' v' → s.heap.objs.size ≤ T → h'.get? T = some { cls := .type "tuple", data := .seq #[es[i].key, es[i].val] } →
      (∀ c o, c ≠ it → s.heap.get? c = some o → h'.get? c = some o) → Q (.ref T) { s with heap := h' }) :
    wpAny (model prog w) A (Builtin.SmallTypes.nextOf (.ref it)) Q E s := by
  obtain ⟨hp, g, dr, tk, os⟩ := s
  obtain ⟨od, hod, hcd, hdd⟩ := id hm
  have hT : Shared.TypeIs ⟨hp, g, dr, tk, os⟩ (.ref it) "dict_itemiterator" := ⟨_, hit, rfl⟩
  unfold Builtin.SmallTypes.nextOf
  refine wpAny_bind (wpAny_callSpecial?_slot (name := Str.ofString "__next__") hT F.slot_dict_itemiterator_next
    (wpAny_call_entry F.slot_dict_itemiterator_next hT F.entry_dict_itemiterator_next ?_ (F.args_dict_itemiterator_next_1 _)))
  refine wpAny_bind (wpAny_pure ?_)
  refine wpAny_bind ?_
  refine wpAny_bind ?_
  first | refine wpAny_bind (wpAny_typeNameOfWhole_itemiter hT (wpAny_pure ?_)) | refine wpAny_bind (wpAny_typeNameOf_itemiter hT (wpAny_pure ?_))
  refine wpAny_bind (wpAny_fieldsOf hit rfl ?_)
  have own : Builtin.Dict_items.ownsTuple "dict_itemiterator" = true := by decide
  simp only [own, if_true]
  show wpAny _ _ (if (Value.ref d == Value.none) = true then _ else _) _ _ _
  rw [if_neg (show ¬ ((Value.ref d == Value.none) = true) from Bool.false_ne_true)]
  refine wpAny_bind (wpAny_pure ?_)
  refine wpAny_bind (wpAny_dictEntries hod hdd ?_)
  rw [if_neg (by simp)]
  refine wpAny_bind (wpAny_pure ?_)
  refine wpAny_bind (wpAny_dictEpoch hod hdd ?_)
  rw [if_neg (by simp)]
  refine wpAny_pure ?_
  simp only [show ¬ ((i : Int) < 0) from by omega, if_false, Int.toNat_natCast, Array.getElem?_eq_getElem hlt]
  refine wpAny_bind ?_
  first | refine wpAny_bind (wpAny_typeNameOfWhole_itemiter hT (wpAny_pure ?_)) | refine wpAny_bind (wpAny_typeNameOf_itemiter hT (wpAny_pure ?_))
  refine wpAny_bind (wpAny_isOneOf_itemiter hT ?_)
  show wpAny _ _ (setField (.ref it) 3 (rawInt ((i : Int) + 1)) >>= _) _ _ ⟨hp, g, dr, tk, os⟩
  refine wpAny_bind (wpAny_setField_rec hit (by simp) fun h1 e1 s1 => ?_)
  replace e1 : ItemsAt h1 it d (i + 1) es.size ep f0 f1 k v := by
    have e : ((i + 1 : Nat) : Int) = (i : Int) + 1 := by omega
    unfold ItemsAt
    rw [e]
    simpa [rawInt] using e1
  have hT1 : Shared.TypeIs ⟨h1, g, dr, tk, os⟩ (.ref it) "dict_itemiterator" := ⟨_, e1, rfl⟩
  refine wpAny_bind (wpAny_holding ?_)
  refine wpAny_bind (wpAny_isOneOf_itemiter hT1 ?_)
  refine wpAny_bind (wpAny_isOneOf_itemiter hT1 ?_)
  show wpAny _ _ (Builtin.Dict_items.pairFromOwner (.ref it) 6 es[i].key es[i].val) _ _ ⟨h1, g, dr, tk, os⟩
  refine pair_out (s := ⟨h1, g, dr, tk, os⟩) hf e1 fun T g0 g1 k' v' h2 hg e2 hT2 t2 k2 => ?_
  refine wpAny_pure ⟨_, rfl, wpAny_pure (h T g0 g1 k' v' h2 hg e2 (by have := s1.1; show hp.objs.size ≤ T; rw [← this]; exact hT2) t2 fun c o hc e => k2 c o hc (s1.extBut c o hc e))⟩

theorem items_last {it d : Addr} {i ep : Nat} {es : Array DictEntry} {f0 f1 k v : Value} {Q : Value → Shared → Prop} (hh : A.handled = none) (hit : ItemsAt s.heap it d i es.size ep f0 f1 k v) (hm : s.heap.DictRaw d es ep) (hge : es.size ≤ i)
    (h : ∀ e h', (∃ o, h'.get? e = some o ∧ o.cls = .type "StopIteration") → (∀ c o, c ≠ it → s.heap.get? c = some o → h'.get? c = some o) → E (.ref e) { s with heap := h' }) :
    wpAny (model prog w) A (Builtin.SmallTypes.nextOf (.ref it)) Q E s := by
  obtain ⟨hp, g, dr, tk, os⟩ := s
  obtain ⟨od, hod, hcd, hdd⟩ := id hm
  have hT : Shared.TypeIs ⟨hp, g, dr, tk, os⟩ (.ref it) "dict_itemiterator" := ⟨_, hit, rfl⟩
  unfold Builtin.SmallTypes.nextOf
  refine wpAny_bind (wpAny_callSpecial?_slot (name := Str.ofString "__next__") hT F.slot_dict_itemiterator_next
    (wpAny_call_entry F.slot_dict_itemiterator_next hT F.entry_dict_itemiterator_next ?_ (F.args_dict_itemiterator_next_1 _)))
  refine wpAny_bind (wpAny_pure ?_)
  refine wpAny_bind ?_
  refine wpAny_bind ?_
  first | refine wpAny_bind (wpAny_typeNameOfWhole_itemiter hT (wpAny_pure ?_)) | refine wpAny_bind (wpAny_typeNameOf_itemiter hT (wpAny_pure ?_))
  refine wpAny_bind (wpAny_fieldsOf hit rfl ?_)
  have own : Builtin.Dict_items.ownsTuple "dict_itemiterator" = true := by decide
  simp only [own, if_true]
  show wpAny _ _ (if (Value.ref d == Value.none) = true then _ else _) _ _ _
  rw [if_neg (show ¬ ((Value.ref d == Value.none) = true) from Bool.false_ne_true)]
  refine wpAny_bind (wpAny_pure ?_)
  refine wpAny_bind (wpAny_dictEntries hod hdd ?_)
  rw [if_neg (by simp)]
  refine wpAny_bind (wpAny_pure ?_)
  refine wpAny_bind (wpAny_dictEpoch hod hdd ?_)
  rw [if_neg (by simp)]
  refine wpAny_pure ?_
  simp only [show ¬ ((i : Int) < 0) from by omega, if_false, Int.toNat_natCast, Array.getElem?_eq_none hge]
  refine wpAny_bind ?_
  first | refine wpAny_bind (wpAny_typeNameOfWhole_itemiter hT (wpAny_pure ?_)) | refine wpAny_bind (wpAny_typeNameOf_itemiter hT (wpAny_pure ?_))
  show wpAny _ _ (setField (.ref it) 2 .none >>= _) _ _ _
  refine wpAny_bind (wpAny_setField_rec hit (by simp) fun h1 e1 s1 => ?_)
  refine stop_raise (s := ⟨h1, g, dr, tk, os⟩) (by exact hh) fun e h2 k2 he => ?_
  exact h e h2 he fun c o hc q => k2 c o (s1.extBut c o hc q)
end

def KItems (K : PySem.W.Frag) (d : Addr) (kvs : List (V × V)) : Prop :=
  ∃ o es ep, K.lookup d = some o ∧ o.ExactDict ∧ o.data = .dict es ep ∧ Paired (fun (p : V × V) (e : DictEntry) => RelV p.1 e.key ∧ RelV p.2 e.val) kvs es.toList ∧ (d == sysModules) = false
def ItI (kvs : List (V × V)) : It :=
  ⟨fun i _ => i < kvs.length, fun i H x H' => ∃ T k v, kvs[i]? = some (k, v) ∧ x = .ref T ∧ H T = none ∧ H' = upd H T (.tup [k, v]), fun i _ => kvs.length ≤ i⟩
theorem Paired.at {α β : Type} {F : α → β → Prop} : ∀ {l : List α} {m : List β} {i : Nat} {a : α}, Paired F l m → l[i]? = some a → ∃ b, m[i]? = some b ∧ F a b
  | _, _, _, _, .nil, e => by simp at e
  | _, _, 0, _, .cons r _, e => by
    have q := Option.some.inj e
    subst q
    exact ⟨_, rfl, r⟩
  | _, _, i + 1, a, .cons _ t, e => by
    obtain ⟨b, h1, h2⟩ := Paired.at (i := i) (a := a) t (by simpa using e)
    exact ⟨b, by simpa using h1, h2⟩
section
variable {P : Program} {w : World} {K : PySem.W.Frag}
theorem dr_items {d : Addr} {kvs : List (V × V)} {o : Obj} {es : Array DictEntry} {ep : Nat} (it : Addr) (hk : K.lookup d = some o) (hx : o.ExactDict) (hd : o.data = .dict es ep)
    (hp : Paired (fun (p : V × V) (e : DictEntry) => RelV p.1 e.key ∧ RelV p.2 e.val) kvs es.toList) :
    Dr P w K (ItI kvs) it (fun i h => ∃ f0 f1 k v, Handed f0 ∧ ItemsAt h it d i es.size ep f0 f1 k v) where
  obj := fun i h ⟨f0, f1, k, v, _, e⟩ => ⟨_, e, fun v z => nomatch z⟩
  keep := fun i h h' ⟨f0, f1, k, v, hf, e⟩ q => ⟨f0, f1, k, v, hf, q _ e⟩
  item := by
    intro X hP hw hK A' i pins s σ H E Q I f st hg hQ
    subst hP hw hK
    obtain ⟨f0, f1, k, v, hf, hit⟩ := st
    have hl : kvs.length = es.toList.length := Paired.length hp
    have hi : i < es.size := by
      have : i < kvs.length := hg
      rw [hl] at this
      simpa using this
    obtain ⟨⟨kk, vv⟩, hkv⟩ : ∃ p, kvs[i]? = some p := ⟨kvs[i]'hg, List.getElem?_eq_getElem hg⟩
    obtain ⟨e, he, rk, rv⟩ := Paired.at hp hkv
    have he' : es[i] = e := by
      have h2 : es.toList[i]? = some es[i] := by simp [hi]
      rw [h2] at he
      exact Option.some.inj he
    have hil : it < s.heap.objs.size := Heap.lt_size hit
    refine items_next hf hit ⟨o, I.kIn d o hk, hx, hd⟩ hi fun T g0 g1 k' v' h' hg' e' hT t' keep => ?_
    rw [he'] at t'
    have new : ObjOk X.prog X.w (upd H T (.tup [kk, vv])) h' T (.tup [kk, vv]) := ⟨by show 2 ≤ sizeLine; rw [sizeLine_eq]; omega, [e.key, e.val], .cons rk (.cons rv .nil), ⟨_, t', rfl, _, rfl⟩⟩
    have I1 : Inv X pins σ (upd H T (.tup [kk, vv])) { s with heap := h' } := I.turnedNew (t' := s.toks) (ch := [it]) (fun c ob hc q => keep c ob (fun z => hc (by simp [z])) q) (fun c hc => by
      have z : c = it := by simpa using hc
      rw [z]; exact f) hT new
    exact hQ (.ref T) (.ref T) _ h' s.toks I1 rfl ⟨T, kk, vv, hkv, rfl, I.hok.fresh hT, rfl⟩ ⟨g0, g1, k', v', hg', e'⟩ keep fun c ob q n => by
      rw [upd_ne (Nat.ne_of_lt (Nat.lt_of_lt_of_le (Heap.lt_size q) hT))]; exact n
  done := by
    intro X hP hw hK A' i pins s σ H E Q hh I f st hg hE
    subst hP hw hK
    obtain ⟨f0, f1, k, v, hf, hit⟩ := st
    have hl : kvs.length = es.toList.length := Paired.length hp
    have hi : es.size ≤ i := by
      have : kvs.length ≤ i := hg
      rw [hl] at this
      simpa using this
    refine items_last hh hit ⟨o, I.kIn d o hk, hx, hd⟩ hi fun e h' he keep => ?_
    exact hE e h' s.toks (Inv.turn1 I f keep) he keep
end
end L2.RL
end
section
set_option Elab.async false
set_option linter.all false
set_option maxRecDepth 100000
set_option maxHeartbeats 4000000
/-! zip(a, b), zip(a, b, strict=True) walked; d.items() as a value. -/
namespace L2.RL
open PySem PySem.Spec PyProof.Rows
open PySem.Sem (wp)

def IsView (v d : Addr) : Heap → Prop := fun h => h.IsItemsView v d
section
variable {X : Cx} {e : Expr} {te : TE} {apos cpos : Pos}
def tItemsK (K : PySem.W.Frag) (te : TE) : TE := fun σ H Q => te σ H fun x H1 => ∃ d kvs, x = .ref d ∧ KItems K d kvs ∧ ∀ v, H1 v = none → Q (.ref v) (upd H1 v (.ext (IsView v d)))
theorem pe_itemsK (he : PE X e te) (hbase : attributeBase e "items" X.env (eval e X.env) = eval e X.env := by rfl) (hline : (apos.endLine == cpos.line) = true := by rfl) :
    PE X (.Call (.Attribute e "items" apos) [] [] cpos) (tItemsK X.K te) := by
  refine ⟨fun pins s σ H Q I h => ?_⟩
  refine wpAny_Call_method0_late hbase hline (thn (he.run pins s σ H _ I h) fun u s1 ⟨x, H1, I1, r1, d, kvs, ex, hk, q⟩ => ?_)
  subst ex
  obtain rfl : u = Value.ref d := r1
  obtain ⟨o, es, ep, lk, hx, hd, hp, hs⟩ := hk
  have ho := I1.kIn d o lk
  have hT : s1.TypeIs (.ref d) "dict" := ⟨o, ho, hx.1⟩
  refine ⟨"dict", "dict.items", F.plainAttrs_dict, F.slot_dict_items, F.type_dict_items, hT, fun a ea => ?_, ?_⟩
  · cases ea
    exact ⟨o, ho, hx.2.1⟩
  · refine method_meetsIn F.slot_dict_items F.entry_dict_items rfl (PySem.evalArgs_none ⟨rfl, hT, F.args_dict_items_1 _, _, meets_dict_items_raw d hs, ⟨⟨es, ep, o, ho, hx, hd⟩, ?_⟩⟩)
    have hv : (s1.heap.push { cls := .type "dict_items", data := .fields #[.ref d] }).IsItemsView s1.heap.objs.size d := ⟨_, Heap.get?_push_size _ rfl, rfl, rfl⟩
    refine ⟨.ref s1.heap.objs.size, _, I1.laid (t' := s1.toks) (a := s1.heap.objs.size) (o := .ext (IsView s1.heap.objs.size d)) (fun b ob q => Heap.get?_push_of_some _ q) (Nat.le_refl _) ⟨hv, ⟨_, Heap.get?_push_size _ rfl⟩, fun h1 h2 ⟨o1, g1, g2, g3⟩ k => ⟨o1, k _ g1, g2, g3⟩⟩, rfl, q _ (I1.hok.fresh (Nat.le_refl _))⟩
end

def Src (K : PySem.W.Frag) (H : Hp) (x : V) (J : It) : Prop :=
  (∃ a xs, x = .ref a ∧ SqL K H a xs ∧ J = Itl K a) ∨ (∃ a xs, x = .ref a ∧ SqT K H a xs ∧ J = Itt K a) ∨
    ∃ v d kvs, x = .ref v ∧ H v = some (.ext (IsView v d)) ∧ KItems K d kvs ∧ J = ItI kvs
theorem Src.begins {X : Cx} {pins : List (Addr × Obj)} {σ : St} {H : Hp} {s : Shared} {x : V} {u : Value} {J : It} (I : Inv X pins σ H s) (h : Src X.K H x J) (r : RelV x u) :
    ∃ (o : Obj) (G : Heap → Prop), Begins u o G ∧ G s.heap ∧ ∀ it, ∃ tn, Dr X.prog X.w X.K J it tn ∧ ∀ h, h.get? it = some o → tn 0 h := by
  rcases h with ⟨a, xs, rfl, hq, rfl⟩ | ⟨a, xs, rfl, hq, rfl⟩ | ⟨v, d, kvs, rfl, hv, hk, rfl⟩
  · obtain rfl : u = Value.ref a := r
    obtain ⟨its, _, p, _⟩ := I.list hq
    exact ⟨_, _, begins_list a its.toArray, p.isList, fun it => ⟨_, dr_list a it, fun h e => ⟨_, e, rfl, rfl⟩⟩⟩
  · obtain rfl : u = Value.ref a := r
    obtain ⟨its, _, p, _⟩ := I.tuple hq
    exact ⟨_, _, begins_tuple a its.toArray, p, fun it => ⟨_, dr_tup a it, fun h e => ⟨_, e, rfl, rfl⟩⟩⟩
  · obtain rfl : u = Value.ref v := r
    obtain ⟨o, es, ep, lk, hx, hd, hp, hs⟩ := hk
    refine ⟨{ cls := .type "dict_itemiterator", data := .fields #[.none, .bool false, .ref d, .int 0 0, .int es.size 0, .int ep 0, .none, .none] }, fun h => h.IsItemsView v d ∧ h.DictRaw d es ep, ⟨fun prog w A E s Q g h => ?_, fun h h' g k => ?_, rfl⟩, ?_, fun it => ⟨_, dr_items it lk hx hd hp, fun h e => ⟨_, _, _, _, .inl rfl, e⟩⟩⟩
    · exact wpAny_pyIter_items_raw g.1 g.2 h
    · obtain ⟨⟨o1, g1, g2, g3⟩, o2, q1, q2⟩ := g
      exact ⟨⟨o1, k _ _ g1, g2, g3⟩, o2, k _ _ q1, q2⟩
    · exact ⟨(I.hok v _ hv).1, o, I.kIn d o lk, hx, hd⟩

/-! ### the zip's making -/
def strictKw (b : Bool) : List (Str × Value) := if b = true then [(Str.ofString "strict", .bool true)] else []
section
variable {prog : Program} {w : World} {A : Around} {E : Value → Shared → Prop} {s : Shared}
theorem tc_strict (a c : Value) : checkTypeCall "zip" ⟨[a, c], [(Str.ofString "strict", .bool true)]⟩ = pure () := by kernel_rfl
theorem nc_strict (a c : Value) : checkBuiltinCall "zip.__new__" ⟨[.type "zip", a, c], [(Str.ofString "strict", .bool true)]⟩ = pure () := by kernel_rfl
theorem ac_strict (o a c : Value) : argsOk "object.__init__" ⟨[o, a, c], [(Str.ofString "strict", .bool true)]⟩ := by unfold argsOk; kernel_rfl
abbrev hT2 (h : Heap) (o1 o2 : Obj) : Heap := ((h.push o1).push o2).push { cls := .type "tuple", data := .seq #[.ref h.objs.size, .ref (h.push o1).objs.size] }
abbrev hO2 (h : Heap) (o1 o2 : Obj) : Heap := (hT2 h o1 o2).push { cls := .type "tuple", data := .seq #[.none, .none] }
abbrev hZ2 (h : Heap) (o1 o2 : Obj) : Heap := (hO2 h o1 o2).push { cls := .type "zip", data := .fields #[.none, .bool false, .bool true, .ref ((h.push o1).push o2).objs.size, .ref (hT2 h o1 o2).objs.size] }
theorem new_strict {v1 v2 : Value} {o1 o2 : Obj} {G1 G2 : Heap → Prop} (B1 : Begins v1 o1 G1) (B2 : Begins v2 o2 G2) :
    Meets (Builtin.«zip.__new__» ⟨[.type "zip", v1, v2], [(Str.ofString "strict", .bool true)]⟩) (fun _ R s => (G1 s.heap ∧ G2 s.heap) ∧
      R (.ok (.ret (.ref (hO2 s.heap o1 o2).objs.size))) { s with heap := hZ2 s.heap o1 o2 }) :=
  .of_wp fun prog w A R s h => by
    obtain ⟨hp, g, d, tk, os⟩ := s
    obtain ⟨⟨h1, h2⟩, h⟩ := h
    have hsub := sub_zip
    have e1 : (Str.ofString "strict" != ("strict" : Str)) = false := by decide +kernel
    have q1 : ∀ {A' : Around} {E : Value → Shared → Prop} {Q : Value → Shared → Prop}, Q (.ref hp.objs.size) ⟨hp.push o1, g, d, tk, os⟩ → wpAny (model prog w) A' (pyIter v1) Q E ⟨hp, g, d, tk, os⟩ :=
      fun q => B1.iter prog w _ _ ⟨hp, g, d, tk, os⟩ _ h1 q
    have q2 : ∀ {A' : Around} {E : Value → Shared → Prop} {Q : Value → Shared → Prop}, Q (.ref (hp.push o1).objs.size) ⟨(hp.push o1).push o2, g, d, tk, os⟩ → wpAny (model prog w) A' (pyIter v2) Q E ⟨hp.push o1, g, d, tk, os⟩ :=
      fun q => B2.iter prog w _ _ ⟨hp.push o1, g, d, tk, os⟩ _ (B2.keeps _ _ h2 fun b o' e => Heap.get?_push_of_some _ e) q
    wp_walk using q1, q2
    exact ⟨_, rfl, h⟩
end
end L2.RL
end
section
set_option Elab.async false
set_option linter.all false
set_option maxRecDepth 100000
set_option maxHeartbeats 4000000
namespace L2.RL
open PySem PySem.Spec PyProof.Rows
open PySem.Sem (wp)
section
variable {prog : Program} {w : World} {A : Around} {E : Value → Shared → Prop} {s : Shared}
theorem begins_strict {v1 v2 : Value} {o1 o2 : Obj} {G1 G2 : Heap → Prop} {Q : Value → Shared → Prop} (B1 : Begins v1 o1 G1) (B2 : Begins v2 o2 G2) (h1 : G1 s.heap) (h2 : G2 s.heap)
    (h : ∀ h', ZipAt h' true (s.heap.objs.size + 4) (s.heap.objs.size + 2) (s.heap.objs.size + 3) .none → IsPair h' (s.heap.objs.size + 2) (.ref s.heap.objs.size) (.ref (s.heap.objs.size + 1)) →
      IsPair h' (s.heap.objs.size + 3) .none .none → h'.get? s.heap.objs.size = some o1 → h'.get? (s.heap.objs.size + 1) = some o2 →
      (∀ c o, s.heap.get? c = some o → h'.get? c = some o) → Q (.ref (s.heap.objs.size + 4)) { s with heap := h' }) :
    wpAny (model prog w) A (call (.type "zip") [v1, v2] [(Str.ofString "strict", .bool true)]) Q E s := by
  refine callType_newKw F.called_zip (by decide) (tc_strict _ _) (nc_strict _ _) (fun o => ac_strict o _ _) F.entry_zip_new (new_strict B1 B2) ⟨⟨h1, h2⟩, ?_⟩
  have z1 : (s.heap.push o1).objs.size = s.heap.objs.size + 1 := by rw [Heap.size_push]
  have z2 : ((s.heap.push o1).push o2).objs.size = s.heap.objs.size + 2 := by rw [Heap.size_push, z1]
  have zT : (hT2 s.heap o1 o2).objs.size = s.heap.objs.size + 3 := by rw [Heap.size_push, z2]
  have zO : (hO2 s.heap o1 o2).objs.size = s.heap.objs.size + 4 := by rw [Heap.size_push, zT]
  have k1 : ∀ {x y : Obj} {h : Heap} {c : Addr}, h.get? c = some x → (h.push y).get? c = some x := fun e => Heap.get?_push_of_some _ e
  have gZ : (hZ2 s.heap o1 o2).get? (hO2 s.heap o1 o2).objs.size = some { cls := .type "zip", data := .fields #[.none, .bool false, .bool true, .ref ((s.heap.push o1).push o2).objs.size, .ref (hT2 s.heap o1 o2).objs.size] } := Heap.get?_push_size _ rfl
  have gO : (hZ2 s.heap o1 o2).get? (hT2 s.heap o1 o2).objs.size = some { cls := .type "tuple", data := .seq #[.none, .none] } := k1 (Heap.get?_push_size _ rfl)
  have gT : (hZ2 s.heap o1 o2).get? ((s.heap.push o1).push o2).objs.size = some { cls := .type "tuple", data := .seq #[.ref s.heap.objs.size, .ref (s.heap.push o1).objs.size] } := k1 (k1 (Heap.get?_push_size _ rfl))
  have g1 : (hZ2 s.heap o1 o2).get? s.heap.objs.size = some o1 := k1 (k1 (k1 (k1 (Heap.get?_push_size _ B1.free))))
  have g2 : (hZ2 s.heap o1 o2).get? (s.heap.push o1).objs.size = some o2 := k1 (k1 (k1 (Heap.get?_push_size _ B2.free)))
  rw [zO, zT, z2] at gZ
  rw [zT] at gO
  rw [z2, z1] at gT
  rw [z1] at g2
  show _ ∧ _
  rw [zO]
  exact ⟨⟨_, gZ, rfl⟩, h _ gZ gT gO g1 g2 fun c o e => k1 (k1 (k1 (k1 (k1 e))))⟩
theorem begins_plain {v1 v2 : Value} {o1 o2 : Obj} {G1 G2 : Heap → Prop} {Q : Value → Shared → Prop} (B1 : Begins v1 o1 G1) (B2 : Begins v2 o2 G2) (h1 : G1 s.heap) (h2 : G2 s.heap)
    (h : ∀ h', ZipAt h' false (s.heap.objs.size + 4) (s.heap.objs.size + 2) (s.heap.objs.size + 3) .none → IsPair h' (s.heap.objs.size + 2) (.ref s.heap.objs.size) (.ref (s.heap.objs.size + 1)) →
      IsPair h' (s.heap.objs.size + 3) .none .none → h'.get? s.heap.objs.size = some o1 → h'.get? (s.heap.objs.size + 1) = some o2 →
      (∀ c o, s.heap.get? c = some o → h'.get? c = some o) → Q (.ref (s.heap.objs.size + 4)) { s with heap := h' }) :
    wpAny (model prog w) A (call (.type "zip") [v1, v2]) Q E s := zip_begins2 B1 B2 h1 h2 fun h' a b c d e _ f => h h' a b c d e f
end
theorem callWith_typeKw {M : Model} {A : Around} {E : Value → Shared → Prop} {s : Shared} {pos : Pos} {T : String} {first : List Value} {args : List (Bool × Sem Value)} {kws : List (Option Str × Sem Value)} {Q : Value → Shared → Prop}
    (hp : (args.any (·.1) || kws.any (·.1.isNone)) = false) (h : wpAny M A (evalArgs (.type T) true args kws) (fun a s₁ => wpAny M A (call (.type T) (first ++ a.pos) a.kw) Q E s₁) E s) :
    wpAny M A (callWith pos (.type T) first args kws) Q E s := by
  unfold callWith
  refine wpAny_bind (wpAny_holding (wpAny_mono h (fun a s₁ h₁ => wpAny_bind (wpAny_standAt ?_)) fun _ _ x => x))
  rw [hp]
  refine wpAny_bind (wpAny_pure ?_)
  exact wpAny_bind (wpAny_mono h₁ (fun r s₂ hr => wpAny_bind (wpAny_holding (wpAny_point (wpAny_pure hr)))) fun _ _ x => x)

def iZip2 (K : PySem.W.Frag) (b : Bool) (ta : TA) : TI := fun σ H R => ta σ H fun vs H1 => ∃ x y J1 J2, vs = [x, y] ∧ Src K H1 x J1 ∧ Src K H1 y J2 ∧ R (It2 b J1 J2) H1
theorem five_nat (n : Nat) : n + 2 ≠ n + 4 ∧ n + 3 ≠ n + 4 ∧ n ≠ n + 4 ∧ n + 1 ≠ n + 4 ∧ n + 2 ≠ n + 3 ∧ n + 2 ≠ n ∧ n + 2 ≠ n + 1 ∧ n + 3 ≠ n ∧ n + 3 ≠ n + 1 ∧ n ≠ n + 1 := by omega
theorem five_new (n : Addr) : Five (n + 4) (n + 2) (n + 3) n (n + 1) :=
  let ⟨a, b, c, d, e, f, g, h, i, j⟩ := five_nat n
  ⟨a, b, c, d, e, f, g, h, i, j⟩
section
variable {X : Cx}
theorem zip_made {tg : Expr} {elts : List Expr} {kk : Nat} {tpos : Pos} {b : Bool} {pins : List (Addr × Obj)} {σ : St} {H : Hp} {s : Shared} {R : It → Hp → Prop} {x y : V} {u1 u2 : Value} {J1 J2 : It} (I : Inv X pins σ H s) (r1 : RelV x u1) (r2 : RelV y u2)
    (s1 : Src X.K H x J1) (s2 : Src X.K H y J2) (q : R (It2 b J1 J2) H) :
    wpAny (model X.prog X.w) X.A (call (.type "zip") [u1, u2] (strictKw b)) (fun v s1 => wpAny (model X.prog X.w) X.A (pyIter v) (PIE X pins σ (.Tuple elts kk tpos) R) X.xe s1) X.xe s := by
  obtain ⟨o1, G1, B1, g1, D1⟩ := s1.begins I r1
  obtain ⟨o2, G2, B2, g2, D2⟩ := s2.begins I r2
  have fin : ∀ h', ZipAt h' b (s.heap.objs.size + 4) (s.heap.objs.size + 2) (s.heap.objs.size + 3) .none → IsPair h' (s.heap.objs.size + 2) (.ref s.heap.objs.size) (.ref (s.heap.objs.size + 1)) →
      IsPair h' (s.heap.objs.size + 3) .none .none → h'.get? s.heap.objs.size = some o1 → h'.get? (s.heap.objs.size + 1) = some o2 → (∀ c o, s.heap.get? c = some o → h'.get? c = some o) →
      wpAny (model X.prog X.w) X.A (pyIter (.ref (s.heap.objs.size + 4))) (PIE X pins σ (.Tuple elts kk tpos) R) X.xe { s with heap := h' } := fun h' hz hT hO e1 e2 hk => by
    obtain ⟨tn1, d1, t1⟩ := D1 s.heap.objs.size
    obtain ⟨tn2, d2, t2⟩ := D2 (s.heap.objs.size + 1)
    have I2 : Inv X pins σ H { s with heap := h' } := I.kept (t' := s.toks) hk
    refine iterZ hz ⟨s.heap.objs.size + 4, [s.heap.objs.size + 4, s.heap.objs.size + 2, s.heap.objs.size + 3, s.heap.objs.size, s.heap.objs.size + 1], _, _, H, rfl, I2, turn_zip2 (five_new _) d1 d2, ⟨hz, hT, ⟨_, _, hO⟩, t1 _ e1, t2 _ e2⟩, fun c hc => ?_, q⟩
    have e' : c = s.heap.objs.size + 4 ∨ c = s.heap.objs.size + 2 ∨ c = s.heap.objs.size + 3 ∨ c = s.heap.objs.size ∨ c = s.heap.objs.size + 1 := by simpa using hc
    have hle : s.heap.objs.size ≤ c := by
      have h1 : (s.heap.objs.size : Nat) ≤ (c : Nat) := by rcases e' with z | z | z | z | z <;> (rw [z]; omega)
      exact h1
    exact I.fpOk hle (I.hok.fresh hle)
  cases b with
  | true => exact begins_strict B1 B2 g1 g2 fin
  | false => exact begins_plain B1 B2 g1 g2 fin
theorem pi_zip2 {e e2 : Expr} {ta : TA} {p pos tpos : Pos} {elts : List Expr} {kk : Nat} (hg : Gl X "zip") (hm : X.mg "zip" = none) (ha : PA X [e, e2] ta)
    (hs : starEach [e, e2] X.env = (false, eval e X.env) :: starEach [e2] X.env := by rfl) (hpl : (backTo pos (starEach [e2] X.env)).any (·.1) = false := by rfl) :
    PI X (.Tuple elts kk tpos) (.Call (.Name "zip" p) [e, e2] [] pos) (iZip2 X.K false ta) := by
  refine ⟨fun pins s σ H R I h => ?_⟩
  refine Call_ (ld_blt I hg hm PyProof.Rows.boot_zip (PyProof.Rows.callWith_type1 (thn (ha.run pos pins s σ H _ I h) fun us s1 ⟨vs, H1, I1, r1, q1⟩ => ?_) hs hpl))
  obtain ⟨x, y, J1, J2, ex, h1, h2, q⟩ := q1
  subst ex
  obtain ⟨u1, u2, rfl, ra, rb⟩ := vals2 r1
  exact zip_made (tg := e) (b := false) I1 ra rb h1 h2 q
theorem pi_zip2S {e e2 : Expr} {ta : TA} {p pos tpos kp cp : Pos} {elts : List Expr} {kk j : Nat} (hg : Gl X "zip") (hm : X.mg "zip" = none) (ha : PA X [e, e2] ta)
    (hs : starEach [e, e2] X.env = (false, eval e X.env) :: starEach [e2] X.env := by rfl)
    (hall : (backToKw pos (keywordEach [⟨some "strict", .Constant (.bool true) j cp, kp⟩] X.env)).all (·.1.isSome) = true := by rfl)
    (hks : (backToKw pos (keywordEach [⟨some "strict", .Constant (.bool true) j cp, kp⟩] X.env)).filterMap (·.1) = (["strict"] : List Str) := by rfl)
    (hpl : ((backTo pos (starEach [e, e2] X.env)).any (·.1) || (backToKw pos (keywordEach [⟨some "strict", .Constant (.bool true) j cp, kp⟩] X.env)).any (·.1.isNone)) = false := by rfl) :
    PI X (.Tuple elts kk tpos) (.Call (.Name "zip" p) [e, e2] [⟨some "strict", .Constant (.bool true) j cp, kp⟩] pos) (iZip2 X.K true ta) := by
  refine ⟨fun pins s σ H R I h => ?_⟩
  refine wpAny_Call_Name_kw (ld_blt I hg hm PyProof.Rows.boot_zip (callWith_typeKw hpl (evalArgs_kw2 hall (thn (ha.run pos pins s σ H _ I h) fun us s1 ⟨vs, H1, I1, r1, q1⟩ => ?_) hs)))
  obtain ⟨x, y, J1, J2, ex, h1, h2, q⟩ := q1
  subst ex
  obtain ⟨u1, u2, rfl, ra, rb⟩ := vals2 r1
  have pk : PK X [⟨some "strict", .Constant (.bool true) j cp, kp⟩] (tCons (tC (.bl true)) tNil) := pk_cons pe_bl pk_nil
  refine thn (pk.run pos pins s1 σ H1 (fun zs H2 => zs = [.bl true] ∧ H2 = H1) I1 ⟨rfl, rfl⟩) fun ws s2 ⟨zs, H2, I2, rz, ez, eh⟩ => ?_
  subst ez eh
  obtain ⟨w1, rfl, rw1⟩ := vals1 rz
  obtain rfl : w1 = Value.bool true := rw1
  rw [hks]
  exact zip_made (tg := e) (b := true) I2 ra rb h1 h2 q
end
end L2.RL
end
section
set_option Elab.async false
set_option linter.all false
set_option maxRecDepth 100000
set_option maxHeartbeats 4000000
/-! what stands in the module by names; readings, one rule a piece. -/
namespace L2.RL
open PySem PySem.Spec PyProof.Rows

/-! ### facts of the text -/
structure Tx (fa : List He.Fa) (fn : List He.DefD) (ex : List (PySem.W.Frag → Bool)) (K : PySem.W.Frag) (mg : Str → Option Value) : Prop where
  says : He.SaysD fa fn K
  more : (ex.all fun f => f K) = true
  env : ∃ h : Heap, K.In h ∧ h.Ns mainGlobals mg
section
variable {fa : List He.Fa} {fn : List He.DefD} {exs : List (PySem.W.Frag → Bool)} {K : PySem.W.Frag} {mg : Str → Option Value}
theorem Tx.glo (T : Tx fa fn exs K mg) (i : Nat) {x : Str} (h : fa[i]? = some (.glo x) := by rfl) : mg x = some (.ref (He.ga K x)) := let ⟨_, X, G⟩ := T.env; He.glo_ok X G (T.says.fact i h)
theorem Tx.free (T : Tx fa fn exs K mg) (i : Nat) {x : Str} (h : fa[i]? = some (.free x) := by rfl) : mg x = none := let ⟨_, X, G⟩ := T.env; He.free_ok X G (T.says.fact i h)
theorem Tx.int (T : Tx fa fn exs K mg) (i : Nat) {x : Str} {n : Int} (h : fa[i]? = some (.int x n) := by rfl) : ∃ t, mg x = some (.int n t) := let ⟨_, X, G⟩ := T.env; He.int_ok X G (T.says.fact i h)
theorem Tx.str (T : Tx fa fn exs K mg) (i : Nat) {x z : Str} (h : fa[i]? = some (.str x z) := by rfl) : ∃ t, mg x = some (.str z t) := let ⟨_, X, G⟩ := T.env; He.str_ok X G (T.says.fact i h)
theorem Tx.cls (T : Tx fa fn exs K mg) (i : Nat) {x : Str} (h : fa[i]? = some (.cls x) := by rfl) : Cls K (He.ga K x) := He.cls_ok (T.says.fact i h)
theorem Tx.noat (T : Tx fa fn exs K mg) (i : Nat) {x f : Str} (h : fa[i]? = some (.noat x f) := by rfl) : NoAttr K (He.ga K x) f := He.noat_ok (T.says.fact i h)
theorem Tx.meth (T : Tx fa fn exs K mg) (i : Nat) {x m : Str} (h : fa[i]? = some (.meth x m) := by rfl) : Meth K (He.ga K x) m (He.ma K (He.ga K x) m) := He.meth_ok (T.says.fact i h)
theorem Tx.mkr (T : Tx fa fn exs K mg) (i : Nat) {x : Str} (h : fa[i]? = some (.mkr x) := by rfl) : Mk K (He.ga K x) (He.ma K (He.ga K x) "__init__") := He.mkr_ok (T.says.fact i h)
theorem Tx.keep (T : Tx fa fn exs K mg) (i : Nat) {x : Str} (h : fa[i]? = some (.keep x) := by rfl) : PySem.W.keepIn K (.ref (He.ga K x)) = true := He.keep_ok (T.says.fact i h)
theorem Tx.say (T : Tx fa fn exs K mg) (i : Nat) {f : PySem.W.Frag → Bool} (h : exs[i]? = some f := by rfl) : f K = true := List.all_eq_true.mp T.more f (List.mem_of_getElem? h)
end

structure Ld (P : Program) (w : World) (K : PySem.W.Frag) (mg : Str → Option Value) (base : Heap) (CX : CXT) (k : Nat) (x : Str) (ps : List Str) (dvs : List V) (sp : Sp) : Prop where
  ex : ∃ fd ds, FnOk P w K mg base CX k (He.ga K x) fd ps sp ∧ Binds K fd ps ds ∧ Vals dvs ds
  g : mg x = some (.ref (He.ga K x))
  kp : PySem.W.keepIn K (.ref (He.ga K x)) = true
structure Lm (P : Program) (w : World) (K : PySem.W.Frag) (mg : Str → Option Value) (base : Heap) (CX : CXT) (k : Nat) (C : Str) (m : Str) (ps : List Str) (dvs : List V) (sp : Sp) : Prop where
  ex : ∃ fd ds, FnOk P w K mg base CX k (He.ma K (He.ga K C) m) fd ps sp ∧ Binds K fd ps ds ∧ Vals dvs ds

/-! ### readings, one rule a piece -/
section
variable {K : PySem.W.Frag} {σ : St} {H : Hp} {Q : VK} {D : Ends}
theorem w_seq {t u : TS} (h : t { D with nx := u D } σ H) : tSeq t u D σ H := h
theorem w_next (h : D.nx σ H) : tNext D σ H := h
theorem w_drop {te : TE} (h : te σ H fun _ H1 => D.nx σ H1) : tDrop te D σ H := h
theorem w_ret {te : TE} (h : te σ H D.rt) : tRet te D σ H := h
theorem w_retN (h : D.rt .non H) : tRetN D σ H := h
theorem w_ifS {c : TT} {t u : TS} (h : c σ H fun b H1 => if b = true then t D σ H1 else u D σ H1) : tIfS c t u D σ H := h
theorem w_asg {te : TE} {g : TG} (h : te σ H fun x H1 => g x σ H1 D.nx) : tAsg te g D σ H := h
theorem w_par {i j : Nat} {ta : TA} (h : ta σ H fun vs H1 => ∃ v w, vs = [v, w] ∧ D.nx ((σ.set i (some v)).set j (some w)) H1) : tPar i j ta D σ H := h
theorem w_par2 {i j : Nat} {v w : V} (h : D.nx ((σ.set i (some v)).set j (some w)) H) : ∃ v' w', [v, w] = [v', w'] ∧ D.nx ((σ.set i (some v')).set j (some w')) H := ⟨v, w, rfl, h⟩
theorem w_aug {i : Nat} {te : TE} {ti : TIp} {x : V} (e : σ[i]? = some (some x)) (h : te σ H fun y H1 => ti x y H1 fun z H2 => D.nx (σ.set i (some z)) H2) : tAug i te ti D σ H := ⟨x, e, h⟩
theorem w_ipI {f : Int → Int → Int} {i j : Int} (h : Q (.int (f i j)) H) : ipI f (.int i) (.int j) H Q := ⟨i, j, rfl, rfl, h⟩
theorem w_nx {f : St → Hp → Prop} {r : VK} {b c : St → Hp → Prop} (h : f σ H) : Ends.nx ⟨f, r, b, c⟩ σ H := h
theorem w_rt {f : St → Hp → Prop} {r : VK} {b c : St → Hp → Prop} {v : V} (h : r v H) : Ends.rt ⟨f, r, b, c⟩ v H := h
theorem w_nxD {D : Ends} {f : St → Hp → Prop} {r : VK} {b c : St → Hp → Prop} (e : D = ⟨f, r, b, c⟩) (h : f σ H) : Ends.nx D σ H := by rw [e]; exact h
theorem w_rtD {D : Ends} {f : St → Hp → Prop} {r : VK} {b c : St → Hp → Prop} {v : V} (e : D = ⟨f, r, b, c⟩) (h : r v H) : Ends.rt D v H := by rw [e]; exact h
theorem w_bkD {D : Ends} {f : St → Hp → Prop} {r : VK} {b c : St → Hp → Prop} (e : D = ⟨f, r, b, c⟩) (h : b σ H) : Ends.bk D σ H := by rw [e]; exact h
theorem w_ctD {D : Ends} {f : St → Hp → Prop} {r : VK} {b c : St → Hp → Prop} (e : D = ⟨f, r, b, c⟩) (h : c σ H) : Ends.ct D σ H := by rw [e]; exact h
theorem w_bk {f : St → Hp → Prop} {r : VK} {b c : St → Hp → Prop} (h : b σ H) : Ends.bk ⟨f, r, b, c⟩ σ H := h
theorem w_ct {f : St → Hp → Prop} {r : VK} {b c : St → Hp → Prop} (h : c σ H) : Ends.ct ⟨f, r, b, c⟩ σ H := h
theorem w_break (h : D.bk σ H) : tBreak D σ H := h
theorem w_cont (h : D.ct σ H) : tCont D σ H := h
-- targets
theorem w_gName {i : Nat} {v : V} {R : St → Hp → Prop} (h : R (σ.set i (some v)) H) : gName i v σ H R := h
theorem w_gTup {n : Nat} {t : TGs} {a : Addr} {xs : List V} {R : St → Hp → Prop} (hs : SqT K H a xs) (hn : xs.length = n) (h : t xs σ H R) : gTup K n t (.ref a) σ H R := ⟨a, xs, rfl, hs, hn, h⟩
theorem w_gCons {t : TG} {u : TGs} {v : V} {vs : List V} {R : St → Hp → Prop} (h : t v σ H fun σ' H' => u vs σ' H' R) : gCons t u (v :: vs) σ H R := ⟨v, vs, rfl, h⟩
theorem w_gNil {R : St → Hp → Prop} (h : R σ H) : gNil [] σ H R := ⟨rfl, h⟩
theorem w_gSub {to ti : TE} {t : TSet} {v : V} {R : St → Hp → Prop} (h : to σ H fun o H1 => ti σ H1 fun i H2 => t o i v H2 fun H3 => R σ H3) : gSub to ti t v σ H R := h
theorem w_setL {p : Addr} {xs : List V} {i : Int} {j : Nat} {v : V} {R : Hp → Prop} (h : H p = some (.lst xs)) (hj : ixN xs.length i = some j) (k : R (upd H p (.lst (xs.set j v)))) : rSetL (.ref p) (.int i) v H R := ⟨p, xs, i, j, rfl, rfl, h, hj, k⟩
-- expressions
theorem w_var {i : Nat} {v : V} (e : σ[i]? = some (some v)) (h : Q v H) : tVar i σ H Q := ⟨v, e, h⟩
theorem w_c {v : V} (h : Q v H) : tC v σ H Q := h
theorem w_op {r : R2} {ta tb : TE} (h : ta σ H fun x H1 => tb σ H1 fun y H2 => r x y H2 Q) : tOp r ta tb σ H Q := h
theorem w_un {r : V → Hp → VK → Prop} {ta : TE} (h : ta σ H fun x H1 => r x H1 Q) : tUn r ta σ H Q := h
theorem w_I0 {g : Int → Int → V} {i j : Int} (h : Q (g i j) H) : rI0 g (.int i) (.int j) H Q := ⟨i, j, rfl, rfl, h⟩
theorem w_I {C : Int → Int → Prop} {g : Int → Int → V} {i j : Int} (hc : C i j) (h : Q (g i j) H) : rI C g (.int i) (.int j) H Q := ⟨i, j, rfl, rfl, hc, h⟩
theorem w_U {g : Int → V} {i : Int} (h : Q (g i) H) : rU g (.int i) H Q := ⟨i, rfl, h⟩
theorem dd_int {i j : Int} : decide (V.int i = V.int j) = decide (i = j) := by simp
theorem dd_str {i j : Str} : decide (V.str i = V.str j) = decide (i = j) := by simp
theorem dd_bl {i j : Bool} : decide (V.bl i = V.bl j) = decide (i = j) := by simp
theorem w_eqI {i j : Int} (h : Q (.bl (decide (i = j))) H) : rEq (.int i) (.int j) H Q := ⟨rfl, by rw [dd_int]; exact h⟩
theorem w_neI {i j : Int} (h : Q (.bl (!decide (i = j))) H) : rNe (.int i) (.int j) H Q := ⟨rfl, by rw [dd_int]; exact h⟩
theorem w_eqS {i j : Str} (h : Q (.bl (decide (i = j))) H) : rEq (.str i) (.str j) H Q := ⟨rfl, by rw [dd_str]; exact h⟩
theorem w_neS {i j : Str} (h : Q (.bl (!decide (i = j))) H) : rNe (.str i) (.str j) H Q := ⟨rfl, by rw [dd_str]; exact h⟩
theorem w_eqB {i j : Bool} (h : Q (.bl (decide (i = j))) H) : rEq (.bl i) (.bl j) H Q := ⟨rfl, by rw [dd_bl]; exact h⟩
theorem w_neB {i j : Bool} (h : Q (.bl (!decide (i = j))) H) : rNe (.bl i) (.bl j) H Q := ⟨rfl, by rw [dd_bl]; exact h⟩
theorem w_test {t : TE} {R : Bool → Hp → Prop} (h : t σ H fun x H' => ∃ k, x = .bl k ∧ R k H') : tTest t σ H R := h
theorem w_B {t : TE} {R : Bool → Hp → Prop} (h : t σ H fun x H' => ∃ k, x = .bl k ∧ R k H') : tB t σ H R := h
theorem w_bl {b : Bool} {R : Bool → Hp → Prop} (h : R b H) : ∃ k, V.bl b = .bl k ∧ R k H := ⟨b, rfl, h⟩
theorem w_and {t u : TT} {R : Bool → Hp → Prop} (h : t σ H fun c H1 => if c = true then u σ H1 R else R false H1) : tAnd t u σ H R := h
theorem w_or {t u : TT} {R : Bool → Hp → Prop} (h : t σ H fun c H1 => if c = true then R true H1 else u σ H1 R) : tOr t u σ H R := h
theorem w_not {t : TT} {R : Bool → Hp → Prop} (h : t σ H fun c H1 => R (!c) H1) : tNot t σ H R := h
theorem w_andV {ta tb : TE} (h : ta σ H fun x H1 => ∃ c, x = .bl c ∧ if c = true then tb σ H1 Q else Q (.bl false) H1) : tAndV ta tb σ H Q := h
theorem w_orV {ta tb : TE} (h : ta σ H fun x H1 => ∃ c, x = .bl c ∧ if c = true then Q (.bl true) H1 else tb σ H1 Q) : tOrV ta tb σ H Q := h
theorem w_notV {ta : TE} (h : ta σ H fun x H1 => ∃ c, x = .bl c ∧ Q (.bl (!c)) H1) : tNotV ta σ H Q := h
theorem w_bl1 {b : Bool} {A B : Bool → Prop} (h : if b = true then A b else B b) : ∃ c, V.bl b = .bl c ∧ if c = true then A c else B c := ⟨b, rfl, h⟩
theorem w_if {t : TT} {ta tb : TE} (h : t σ H fun c H1 => if c = true then ta σ H1 Q else tb σ H1 Q) : tIf t ta tb σ H Q := h
theorem w_chain {r r' : R2} {ta tb tc : TE} (h : ta σ H fun x H1 => tb σ H1 fun y H2 => r x y H2 fun z H3 => ∃ k, z = .bl k ∧ (if k = true then tc σ H3 fun w' H4 => r' y w' H4 Q else Q (.bl false) H3)) : tChain r r' ta tb tc σ H Q := h
theorem w_cons {ta : TE} {tr : TA} {R : List V → Hp → Prop} (h : ta σ H fun x H1 => tr σ H1 fun xs H2 => R (x :: xs) H2) : tCons ta tr σ H R := h
theorem w_nil {R : List V → Hp → Prop} (h : R [] H) : tNil σ H R := h
theorem same_upd {H : Hp} {p : Addr} {o : HO} (n : H p = none) : Same H (upd H p o) := fun b x e => by
  rw [upd_ne (ne_of_none e n)]
  exact e
def NewO (n : Nat) (o : HO) (H : Hp) (Q : VK) : Prop := n ≤ sizeLine ∧ ∀ p, H p = none → Q (.ref p) (upd H p o)
theorem w_tup {t : TA} (h : t σ H fun xs H1 => NewO xs.length (.tup xs) H1 Q) : tTup t σ H Q := h
theorem w_lst {t : TA} (h : t σ H fun xs H1 => NewO xs.length (.lst xs) H1 Q) : tLst t σ H Q := h
theorem w_newO {n : Nat} {o : HO} (hn : n ≤ 100000) (h : ∀ p H', H p = none → Same H H' → H' p = some o → Q (.ref p) H') : NewO n o H Q := ⟨Nat.le_trans hn (by decide), fun p e => h p _ e (same_upd e) upd_same⟩
theorem w_new {n : Nat} {A : Prop} (hn : n ≤ 100000) (h : A) : n ≤ sizeLine ∧ A := ⟨Nat.le_trans hn (by decide), h⟩
theorem w_mk {o : HO} {R : Addr → Hp → Prop} (h : ∀ p H', H p = none → Same H H' → H' p = some o → R p H') : ∀ p, H p = none → R p (upd H p o) := fun p n => h p _ n (fun b x e => by
  rw [upd_ne (ne_of_none e n)]
  exact e) upd_same
theorem w_ixL {p : Addr} {xs : List V} {i : Int} {v : V} (hs : SqL K H p xs) (e : atI xs i = some v) (h : Q v H) : rIxL K (.ref p) (.int i) H Q := ⟨p, xs, i, v, rfl, rfl, hs, e, h⟩
theorem w_ixT {p : Addr} {xs : List V} {i : Int} {v : V} (hs : SqT K H p xs) (e : atI xs i = some v) (h : Q v H) : rIxT K (.ref p) (.int i) H Q := ⟨p, xs, i, v, rfl, rfl, hs, e, h⟩
theorem w_call {sp : Sp} {dvs : List V} {E : XK} {t : TA} (h : t σ H fun vs H1 => sp (vs ++ dvs) H1 Q E) : tCall sp dvs E t σ H Q := h
theorem w_cb {r : List V → Hp → VK → Prop} {t : TA} (h : t σ H fun vs H1 => r vs H1 Q) : tCB r t σ H Q := h
theorem w_fld {ta : TE} {f : Str} (h : ta σ H fun x H1 => ∃ a C dx fs v, x = .ref a ∧ H1 a = some (.ins C dx fs) ∧ Cls K C ∧ NoAttr K C f ∧ fs.lookup f = some v ∧ Q v H1) : tFld K ta f σ H Q := h
theorem w_fld1 {a C dx : Addr} {fs : List (Str × V)} {f : Str} {v : V} {R : V → Prop} (e : H a = some (.ins C dx fs)) (c : Cls K C) (n : NoAttr K C f) (l : fs.lookup f = some v) (h : R v) :
    ∃ a' C' dx' fs' v', V.ref a = .ref a' ∧ H a' = some (.ins C' dx' fs') ∧ Cls K C' ∧ NoAttr K C' f ∧ fs'.lookup f = some v' ∧ R v' := ⟨a, C, dx, fs, v, rfl, e, c, n, l, h⟩
theorem w_meth {C : Addr} {m : Str} {sp : Sp} {dvs : List V} {E : XK} {ta : TE} {t : TA} (h : ta σ H fun x H1 => ∃ a dx fs, x = .ref a ∧ H1 a = some (.ins C dx fs) ∧ fs.lookup m = none ∧ t σ H1 fun vs H2 => sp (x :: (vs ++ dvs)) H2 Q E) : tMeth C m sp dvs E ta t σ H Q := h
theorem w_meth1 {C a dx : Addr} {m : Str} {fs : List (Str × V)} {A : Prop} (e : H a = some (.ins C dx fs)) (l : fs.lookup m = none) (h : A) : ∃ a' dx' fs', V.ref a = .ref a' ∧ H a' = some (.ins C dx' fs') ∧ fs'.lookup m = none ∧ A := ⟨a, dx, fs, rfl, e, l, h⟩
end
-- loops
theorem w_wh {σ : St} {H : Hp} {D : Ends} {c : TT} {tb : TS} (W : Nat → St → Hp → Prop) (m0 : Nat) (h0 : W m0 σ H)
    (h : ∀ m σ H, W m σ H → c σ H fun b H1 => if b = true then ∃ N : St → Hp → Prop, (∀ σ' H', N σ' H' → ∃ m', m' < m ∧ W m' σ' H') ∧ tb { D with nx := N, ct := N, bk := D.nx } σ H1 else D.nx σ H1) : tWhile c tb D σ H := ⟨W, ⟨m0, h0⟩, h⟩
theorem w_N {W : Nat → St → Hp → Prop} {m : Nat} {σ : St} {H : Hp} {r : VK} {b : St → Hp → Prop} {tb : TS} (h : tb ⟨fun σ' H' => ∃ m', m' < m ∧ W m' σ' H', r, b, fun σ' H' => ∃ m', m' < m ∧ W m' σ' H'⟩ σ H) :
    ∃ N : St → Hp → Prop, (∀ σ' H', N σ' H' → ∃ m', m' < m ∧ W m' σ' H') ∧ tb ⟨N, r, b, N⟩ σ H := ⟨_, fun _ _ z => z, h⟩
theorem w_for {σ : St} {H : Hp} {D : Ends} {wi : TI} {g : TG} {tb : TS} (h : wi σ H fun J H1 => ∃ W : Nat → Nat → St → Hp → Prop, (∃ m, W 0 m σ H1) ∧ ∀ i m σ H, W i m σ H →
  (J.stop i H ∧ D.nx σ H) ∨ (J.go i H ∧ ∃ N : St → Hp → Prop, (∀ σ' H', N σ' H' → ∃ m', m' < m ∧ W (i + 1) m' σ' H') ∧ ∀ x H', J.yld i H x H' → g x σ H' fun σ2 H2 => tb { D with nx := N, ct := N, bk := D.nx } σ2 H2)) : tFor wi g tb D σ H := h
theorem w_iList {K : PySem.W.Frag} {σ : St} {H : Hp} {tl : TE} {R : It → Hp → Prop} (h : tl σ H fun x H1 => ∃ a, x = .ref a ∧ (∃ xs, SqL K H1 a xs) ∧ R (Itl K a) H1) : iList K tl σ H R := h
theorem w_iTup {K : PySem.W.Frag} {σ : St} {H : Hp} {tl : TE} {R : It → Hp → Prop} (h : tl σ H fun x H1 => ∃ a, x = .ref a ∧ (∃ xs, SqT K H1 a xs) ∧ R (Itt K a) H1) : iTup K tl σ H R := h
theorem w_rng1 {σ : St} {H : Hp} {ta : TA} {R : It → Hp → Prop} (h : ta σ H fun vs H1 => ∃ j : Int, vs = [.int j] ∧ -(2 ^ 62) ≤ j ∧ j < 2 ^ 62 ∧ R (Itr 0 j.toNat) H1) : iRng1 ta σ H R := h
theorem w_rng1a {j : Int} {R : Int → Prop} (h1 : -(2 ^ 62) ≤ j) (h2 : j < 2 ^ 62) (h : R j) : ∃ j' : Int, [V.int j] = [V.int j'] ∧ -(2 ^ 62) ≤ j' ∧ j' < 2 ^ 62 ∧ R j' := ⟨j, rfl, h1, h2, h⟩
theorem w_rng2 {σ : St} {H : Hp} {ta : TA} {R : It → Hp → Prop} (h : ta σ H fun vs H1 => ∃ i j : Int, vs = [.int i, .int j] ∧ (-(2 ^ 62) ≤ i ∧ i < 2 ^ 62 ∧ -(2 ^ 62) ≤ j ∧ j < 2 ^ 62) ∧ R (Itr i (j - i).toNat) H1) : iRng2 ta σ H R := h
theorem w_rng2a {i j : Int} {R : Int → Int → Prop} (h1 : -(2 ^ 62) ≤ i ∧ i < 2 ^ 62 ∧ -(2 ^ 62) ≤ j ∧ j < 2 ^ 62) (h : R i j) : ∃ i' j' : Int, [V.int i, V.int j] = [V.int i', V.int j'] ∧ (-(2 ^ 62) ≤ i' ∧ i' < 2 ^ 62 ∧ -(2 ^ 62) ≤ j' ∧ j' < 2 ^ 62) ∧ R i' j' := ⟨i, j, rfl, h1, h⟩
theorem w_zip2 {K : PySem.W.Frag} {b : Bool} {σ : St} {H : Hp} {ta : TA} {R : It → Hp → Prop} (h : ta σ H fun vs H1 => ∃ x y J1 J2, vs = [x, y] ∧ Src K H1 x J1 ∧ Src K H1 y J2 ∧ R (It2 b J1 J2) H1) : iZip2 K b ta σ H R := h
theorem w_lc {wi : TI} {g : TG} {tt : TT} {te : TE} {vs : List Nat} {σ : St} {H : Hp} {Q : VK} (h : wi σ H fun J H1 => ∀ D, H1 D = none → ∃ W : Nat → Nat → Hp → Prop, (∃ m, W 0 m (upd H1 D (.lst []))) ∧ ∀ i m H, W i m H →
  (J.stop i H ∧ Q (.ref D) H) ∨ (J.go i H ∧ ∃ Nx : Hp → Prop, (∀ H', Nx H' → ∃ m', m' < m ∧ W (i + 1) m' H') ∧ ∀ x H', J.yld i H x H' → g x (wipe σ vs) H' fun σ2 H2 => wipe σ2 vs = wipe σ vs ∧ tt σ2 H2 fun b H3 =>
    if b = true then te σ2 H3 fun y H4 => ∃ acc, H4 D = some (.lst acc) ∧ acc.length < sizeLine ∧ Nx (upd H4 D (.lst (acc ++ [y]))) else Nx H3)) : tLc wi g tt te vs σ H Q := h
theorem w_overL {K : PySem.W.Frag} {H : Hp} {a : Addr} {xs : List V} {R : Addr → Prop} (hs : SqL K H a xs) (h : R a) : ∃ a', V.ref a = .ref a' ∧ (∃ xs, SqL K H a' xs) ∧ R a' := ⟨a, rfl, ⟨xs, hs⟩, h⟩
theorem w_overT {K : PySem.W.Frag} {H : Hp} {a : Addr} {xs : List V} {R : Addr → Prop} (hs : SqT K H a xs) (h : R a) : ∃ a', V.ref a = .ref a' ∧ (∃ xs, SqT K H a' xs) ∧ R a' := ⟨a, rfl, ⟨xs, hs⟩, h⟩
-- isinstance
theorem w_isi {K : PySem.W.Frag} {H : Hp} {x : V} {a b : String} {r : Bool} {R : Bool → Prop} (ty : TyX K H x (.type a)) (hk : kitB a b = some r) (h : R r) :
    ∃ (x' c : V) (t u : Value) (b' : Bool), [x, .ty b] = [x', c] ∧ ClsV c u ∧ TyX K H x' t ∧ PySem.W.kitOne K t u = some b' ∧ R b' := ⟨x, .ty b, .type a, .type b, r, rfl, .ty b, ty, kit_ty hk, h⟩
def kitB2 (a b c : String) : Option Bool := match kitB a b with
  | some true => some true
  | some false => kitB a c
  | none => none
theorem kitB2_ok {K : PySem.W.Frag} {a b c : String} {r : Bool} (h : kitB2 a b c = some r) : PySem.W.kitAny K (.type a) [.type b, .type c] = some r := by
  unfold kitB2 at h
  cases e : kitB a b with
  | none => rw [e] at h; cases h
  | some z =>
    rw [e] at h
    cases z with
    | true =>
      cases h
      exact kitAny_cons (kit_ty e) (fun z => nomatch z) fun _ => rfl
    | false => exact kitAny_cons (kit_ty e) (fun _ => kitAny_cons (kit_ty (r := r) h) (fun e => by rw [e]; exact kitAny_nil) id) (fun z => nomatch z)
theorem w_isi2 {K : PySem.W.Frag} {H : Hp} {x : V} {tp : Addr} {a b c : String} {r : Bool} {R : Bool → Prop} (hT : H tp = some (.tup [.ty b, .ty c])) (ty : TyX K H x (.type a)) (hk : kitB2 a b c = some r) (h : R r) :
    ∃ (x' : V) (tp' : Addr) (cs : List V) (t : Value) (us : List Value) (b' : Bool), [x, .ref tp] = [x', .ref tp'] ∧ H tp' = some (.tup cs) ∧ Paired ClsV cs us ∧ TyX K H x' t ∧ PySem.W.kitAny K t us = some b' ∧ R b' :=
  ⟨x, tp, _, .type a, [.type b, .type c], r, rfl, hT, .cons (.ty b) (.cons (.ty c) .nil), ty, kitB2_ok hk, h⟩
theorem w_isiT {K : PySem.W.Frag} {H : Hp} {Q : VK} {xs : List V} (h : ∃ (x : V) (tp : Addr) (cs : List V) (t : Value) (us : List Value) (b : Bool), xs = [x, .ref tp] ∧ H tp = some (.tup cs) ∧ Paired ClsV cs us ∧ TyX K H x t ∧ PySem.W.kitAny K t us = some b ∧ Q (.bl b) H) : rIsiT K xs H Q := h
theorem w_isiO {K : PySem.W.Frag} {H : Hp} {Q : VK} {xs : List V} (h : ∃ (x c : V) (t u : Value) (b : Bool), xs = [x, c] ∧ ClsV c u ∧ TyX K H x t ∧ PySem.W.kitOne K t u = some b ∧ Q (.bl b) H) : rIsi K xs H Q := h
theorem iteT' {b : Bool} {A B : Prop} (e : b = true) (h : A) : if b = true then A else B := by rw [if_pos e]; exact h
theorem iteF' {b : Bool} {A B : Prop} (e : b = false) (h : B) : if b = true then A else B := by rw [e, if_neg Bool.false_ne_true]; exact h
theorem w_rflA {x : V} {A : Prop} (h : A) : x = x ∧ A := ⟨rfl, h⟩
-- stores
theorem w_sFld {K : PySem.W.Frag} {σ : St} {H : Hp} {D : Ends} {ta tv : TE} {f : Str} (h : tv σ H fun y H1 => ta σ H1 fun x H2 => ∃ a C dx fs, x = .ref a ∧ H2 a = some (.ins C dx fs) ∧ Cls K C ∧ NoAttr K C f ∧ fs.length < 1000 ∧ D.nx σ (upd H2 a (.ins C dx (putF f y fs)))) : sFld K ta tv f D σ H := h
theorem w_sFld1 {K : PySem.W.Frag} {H0 : Hp} {a C dx : Addr} {f : Str} {y : V} {fs fs' : List (Str × V)} {R : Hp → Prop} (c : Cls K C) (n : NoAttr K C f) (hl : fs.length < 1000) (e : putF f y fs = fs') (h : R (upd H0 a (.ins C dx fs'))) :
    ∃ a' C' dx' fs1, V.ref a = .ref a' ∧ (upd H0 a (.ins C dx fs)) a' = some (.ins C' dx' fs1) ∧ Cls K C' ∧ NoAttr K C' f ∧ fs1.length < 1000 ∧ R (upd (upd H0 a (.ins C dx fs)) a' (.ins C' dx' (putF f y fs1))) :=
  ⟨a, C, dx, fs, rfl, upd_same, c, n, hl, by rw [upd_upd, e]; exact h⟩
-- texts
def rAddS2 : R2 := fun x y H Q => ∃ i j, x = .str i ∧ y = .str j ∧ i.length + j.length ≤ sizeLine ∧ Q (.str (i ++ j)) H
theorem op_addS {X : Cx} : OpR X (binaryOp .Add) rAddS2 := op_add_str
theorem w_addS {H : Hp} {Q : VK} {i j : Str} (hl : i.length + j.length ≤ sizeLine) (h : Q (.str (i ++ j)) H) : rAddS2 (.str i) (.str j) H Q := ⟨i, j, rfl, rfl, hl, h⟩
def rIntS : List V → Hp → VK → Prop := fun xs H Q => ∃ a n, xs = [.str a] ∧ PySem.intText? a = some n ∧ a.length ≤ 640 ∧ Q (.int n) H
theorem call_intS {X : Cx} : CallR X (.type "int") rIntS := call_int_str
theorem w_intS {H : Hp} {Q : VK} {a : Str} {n : Int} (hn : PySem.intText? a = some n) (hl : a.length ≤ 640) (h : Q (.int n) H) : rIntS [.str a] H Q := ⟨a, n, rfl, hn, hl, h⟩
-- calls of built-ins
theorem w_int1 {i : Int} {R : Int → Prop} {S : Bool → Prop} (h : R i) : (∃ i', [V.int i] = [V.int i'] ∧ R i') ∨ ∃ k, [V.int i] = [V.bl k] ∧ S k := .inl ⟨i, rfl, h⟩
theorem w_intb {k : Bool} {R : Int → Prop} {S : Bool → Prop} (h : S k) : (∃ i', [V.bl k] = [V.int i'] ∧ R i') ∨ ∃ k', [V.bl k] = [V.bl k'] ∧ S k' := .inr ⟨k, rfl, h⟩
theorem w_one {i : Int} {R : Int → Prop} (h : R i) : ∃ i', [V.int i] = [V.int i'] ∧ R i' := ⟨i, rfl, h⟩
theorem w_two {i j : Int} {R : Int → Int → Prop} (h : R i j) : ∃ i' j', [V.int i, V.int j] = [V.int i', V.int j'] ∧ R i' j' := ⟨i, j, rfl, h⟩
theorem w_lenL {K : PySem.W.Frag} {H : Hp} {p : Addr} {ys : List V} {R : List V → Prop} (hs : SqL K H p ys) (h : R ys) : ∃ p' ys', [V.ref p] = [V.ref p'] ∧ (SqL K H p' ys' ∨ SqT K H p' ys') ∧ R ys' := ⟨p, ys, rfl, .inl hs, h⟩
theorem w_lenT {K : PySem.W.Frag} {H : Hp} {p : Addr} {ys : List V} {R : List V → Prop} (hs : SqT K H p ys) (h : R ys) : ∃ p' ys', [V.ref p] = [V.ref p'] ∧ (SqL K H p' ys' ∨ SqT K H p' ys') ∧ R ys' := ⟨p, ys, rfl, .inr hs, h⟩
theorem w_I2 {C : Int → Int → Prop} {g : Int → Int → V} {i j : Int} {H : Hp} {Q : VK} (hc : C i j) (h : Q (g i j) H) : rI C g (.int i) (.int j) H Q := w_I hc h
theorem cm_of {i j : Int} (n : Nat) (hi : i.natAbs < 2 ^ n) (hj : j.natAbs < 2 ^ n) (h0 : 0 < n) (h1 : n ≤ 400000) : CMulW i j := wide_mul hi hj h0 h0 (by omega)
theorem cd_of {i j : Int} (n : Nat) (h : 0 < j) (hj : j.natAbs < 2 ^ n) (h0 : 0 < n) (h1 : n ≤ 9000) : CDivW i j := wide_div h hj h0 h1
theorem fmod_lo {a b : Int} (h : 0 < b) : 0 ≤ a.fmod b := Int.fmod_nonneg_of_pos a h
theorem fmod_hi {a b : Int} (h : 0 < b) : a.fmod b < b := Int.fmod_lt_of_pos a h
theorem ite_dec {p A B : Prop} [Decidable p] (h1 : p → A) (h2 : ¬ p → B) : if decide p = true then A else B := by
  by_cases h : p
  · rw [if_pos (decide_eq_true h)]; exact h1 h
  · rw [if_neg (by simpa using h)]; exact h2 h
theorem ite_ndec {p A B : Prop} [Decidable p] (h1 : ¬ p → A) (h2 : p → B) : if (!decide p) = true then A else B := by
  by_cases h : p
  · rw [if_neg (by simpa using h)]; exact h2 h
  · rw [if_pos (by simpa using h)]; exact h1 h
theorem ite_bool {b : Bool} {A B : Prop} (h1 : b = true → A) (h2 : b = false → B) : if b = true then A else B := by
  cases b with
  | true => rw [if_pos rfl]; exact h1 rfl
  | false => rw [if_neg Bool.false_ne_true]; exact h2 rfl
theorem Same.sqT {K : PySem.W.Frag} {H H' : Hp} {a : Addr} {xs : List V} (e : Same H H') (h : SqT K H a xs) : SqT K H' a xs := by
  rcases h with (h | ⟨o, h⟩) | h
  · exact .inl (.inl (e _ _ h))
  · exact .inl (.inr ⟨o, e _ _ h⟩)
  · exact .inr h
def But (a : Addr) (H H' : Hp) : Prop := ∀ b o, b ≠ a → H b = some o → H' b = some o
theorem But.of_same {a : Addr} {H H' : Hp} (s : Same H H') : But a H H' := fun b o _ e => s b o e
theorem But.trans {a : Addr} {H H1 H2 : Hp} (x : But a H H1) (y : But a H1 H2) : But a H H2 := fun b o n e => y b o n (x b o n e)
theorem But.refl (a : Addr) (H : Hp) : But a H H := fun _ _ _ e => e
theorem But.upd {a : Addr} {H : Hp} {o : HO} : But a H (upd H a o) := fun b x n e => by rw [upd_ne n]; exact e
end L2.RL
end
section
set_option Elab.async false
set_option linter.all false
set_option maxRecDepth 100000
set_option maxHeartbeats 4000000
/-! a few more operators: great powers, a text many times. -/
namespace L2.RL
open PySem PySem.Spec PyProof.Rows
def CPowW (i j : Int) : Prop := i.natAbs.log2 < 4000 ∧ 0 ≤ j ∧ j ≤ 1000
section
variable {X : Cx}
theorem op_powG : OpR X (binaryOp .Pow) (rI CPowW fun i j => .int (i ^ j.toNat)) := opI fun i j _ _ _ _ _ hc q => by
  obtain ⟨h1, h2, h3⟩ := hc
  refine pow_int h2 ?_ q
  have b : Builtin.Int.intBits i ≤ i.natAbs.log2 + 1 := by
    unfold Builtin.Int.intBits
    split <;> omega
  have b2 : (Builtin.Int.intBits i : Int) ≤ 4000 := by omega
  have b3 : (Builtin.Int.intBits i : Int) * j ≤ 4000 * 1000 := Int.mul_le_mul b2 h3 h2 (by omega)
  omega
def repS (z : Str) (n : Nat) : Str := ⟨(List.replicate n z.cps).foldl (· ++ ·) #[]⟩
def rRepS : R2 := fun x y H Q => ∃ z n, x = .str z ∧ y = .int n ∧ 0 ≤ n ∧ n ≤ 1000 ∧ 1 ≤ z.length ∧ z.length ≤ 1000 ∧ Q (.str (repS z n.toNat)) H
theorem op_repS : OpR X (binaryOp .Mult) rRepS := by
  intro pins s σ H x y u v Q I r1 r2 h
  obtain ⟨z, n, rfl, rfl, h0, h1, h3, h2, q⟩ := h
  obtain ⟨t, rfl⟩ := r1
  obtain ⟨t', rfl⟩ := r2
  refine PySem.P.mul_str (by rw [decide_eq_false (by omega), decide_eq_false (by omega)]; rfl) (fun c _ => ?_) (fun c _ => ?_) ?_
  · have a1 : (n : Int) * 1000 ≤ 2 ^ 63 - 1 := by omega
    have a2 : (1000 : Int) ≤ (2 ^ 63 - 1) / n := by
      rw [Int.le_ediv_iff_mul_le (by omega)]
      omega
    omega
  · have a1 : z.length * n.toNat ≤ 1000 * 1000 := Nat.mul_le_mul h2 (by omega)
    unfold Builtin.Str.tooLong
    rw [sizeLine_eq] <;> simp <;> omega
  · by_cases c : n < 1
    · rw [if_pos c]
      have e : n = 0 := by omega
      subst e
      exact ⟨by decide, ⟨.str (repS z 0), H, I.tok _, ⟨_, rfl⟩, q⟩⟩
    · rw [if_neg c]
      have e0 : (z.length == 0) = false := by
        rw [beq_eq_false_iff_ne]
        omega
      rw [e0, Bool.or_false]
      by_cases c1 : n = 1
      · subst c1
        have e : repS z 1 = z := by
          unfold repS
          simp [List.replicate]
        have q' : Q (.str z) H := by
          have q2 : Q (.str (repS z 1)) H := q
          rw [e] at q2
          exact q2
        exact ⟨.str z, H, I, ⟨_, rfl⟩, q'⟩
      · rw [if_neg (by simpa using c1)]
        have hl : (repS z n.toNat).cps.size = z.length * n.toNat := by
          unfold repS
          generalize n.toNat = k
          have key : ∀ (k : Nat) (acc : Array Nat), ((List.replicate k z.cps).foldl (· ++ ·) acc).size = acc.size + z.length * k := by
            intro k
            induction k with
            | zero => intro acc; simp
            | succ k ih =>
              intro acc
              rw [List.replicate_succ, List.foldl_cons, ih, Array.size_append, Nat.mul_succ]
              show acc.size + z.cps.size + _ = _
              have : z.length = z.cps.size := rfl
              omega
          rw [key]
          simp
        refine ⟨?_, ⟨.str (repS z n.toNat), H, I.tok _, ⟨_, rfl⟩, q⟩⟩
        have a1 : z.length * n.toNat ≤ 1000 * 1000 := Nat.mul_le_mul h2 (by omega)
        show (repS z n.toNat).cps.size ≤ sizeLine
        rw [hl, sizeLine_eq]
        omega
theorem w_repS {z : Str} {n : Int} {H : Hp} {Q : VK} (h0 : 0 ≤ n) (h1 : n ≤ 1000) (h2 : 1 ≤ z.length) (h3 : z.length ≤ 1000) (h : Q (.str (repS z n.toNat)) H) : rRepS (.str z) (.int n) H Q := ⟨z, n, rfl, rfl, h0, h1, h2, h3, h⟩
theorem ten_text {n : Nat} (h : n ≤ 8) : PySem.intText? (("1" : Str) ++ repS "0" n) = some ((10 : Int) ^ n) ∧ (("1" : Str) ++ repS "0" n).length ≤ 640 ∧ ("1" : Str).length + (repS "0" n).length ≤ sizeLine := by
  have c : n = 0 ∨ n = 1 ∨ n = 2 ∨ n = 3 ∨ n = 4 ∨ n = 5 ∨ n = 6 ∨ n = 7 ∨ n = 8 := by omega
  rcases c with rfl | rfl | rfl | rfl | rfl | rfl | rfl | rfl | rfl <;> exact ⟨by decide +kernel, by decide +kernel, by decide +kernel⟩
end
end L2.RL
end
section
set_option Elab.async false
set_option linter.all false
set_option maxRecDepth 100000
/-! a module's dict of tuples, told by a check of the heap -/
namespace L2.RL
open PySem PySem.Spec PyProof.Rows He
def tupAtB (K : PySem.W.Frag) (a : Addr) (vs : List V) : Bool := match K.lookup a with
  | some ⟨.type c, _, .seq its _, _⟩ => decide (c = "tuple") && (decide (its.size ≤ sizeLine) && relAll vs its.toList)
  | _ => false
theorem tupAtB_ok {K : PySem.W.Frag} {a : Addr} {vs : List V} (h : tupAtB K a vs = true) (H : Hp) : SqT K H a vs := by
  unfold tupAtB at h
  cases q : K.lookup a with
  | none =>
    rw [q] at h
    cases h
  | some o =>
    obtain ⟨oc, od, dt, osl⟩ := o
    rw [q] at h
    cases oc with
    | type c =>
      cases dt with
      | seq its n =>
        obtain ⟨h1, h2⟩ := ba (show (decide (c = "tuple") && (decide (its.size ≤ sizeLine) && relAll vs its.toList)) = true from h)
        obtain ⟨h3, h4⟩ := ba h2
        exact .inr ⟨_, its, n, q, congrArg Value.type (of_decide_eq_true h1), rfl, of_decide_eq_true h3, relAll_ok h4⟩
      | _ => cases h
    | _ => cases dt <;> cases h
def entsB (K : PySem.W.Frag) : List (V × List V) → List DictEntry → Bool
  | [], [] => true
  | p :: l, e :: m => relB p.1 e.key && ((match e.val with | .ref b => tupAtB K b p.2 | _ => false) && entsB K l m)
  | _, _ => false
def dicTB (K : PySem.W.Frag) (a : Addr) (l : List (V × List V)) : Bool := match K.lookup a with
  | some ⟨.type c, none, .dict es _, sl⟩ => decide (c = "dict") && (decide (sl.size = 0) && (!(a == sysModules) && entsB K l es.toList))
  | _ => false
def TupItems (K : PySem.W.Frag) (l : List (V × List V)) (kvs : List (V × V)) : Prop := Paired (fun (p : V × List V) (q : V × V) => q.1 = p.1 ∧ ∃ b, q.2 = .ref b ∧ ∀ H : Hp, SqT K H b p.2) l kvs
theorem entsB_ok {K : PySem.W.Frag} : ∀ {l : List (V × List V)} {m : List DictEntry}, entsB K l m = true →
    ∃ kvs, TupItems K l kvs ∧ Paired (fun (p : V × V) (e : DictEntry) => RelV p.1 e.key ∧ RelV p.2 e.val) kvs m
  | [], [], _ => ⟨[], .nil, .nil⟩
  | [], _ :: _, h => by cases h
  | _ :: _, [], h => by cases h
  | p :: l, e :: m, h => by
    obtain ⟨h1, h2⟩ := ba (show (relB p.1 e.key && ((match e.val with | .ref b => tupAtB K b p.2 | _ => false) && entsB K l m)) = true from h)
    obtain ⟨h3, h4⟩ := ba h2
    obtain ⟨kvs, q1, q2⟩ := entsB_ok h4
    obtain ⟨eh, ek, ev⟩ := e
    cases ev with
    | ref b => exact ⟨(p.1, .ref b) :: kvs, .cons ⟨rfl, b, rfl, fun H => tupAtB_ok h3 H⟩ q1, .cons ⟨relB_ok h1, rfl⟩ q2⟩
    | _ => cases h3
theorem dicTB_ok {K : PySem.W.Frag} {a : Addr} {l : List (V × List V)} (h : dicTB K a l = true) : ∃ kvs, TupItems K l kvs ∧ KItems K a kvs := by
  unfold dicTB at h
  cases q : K.lookup a with
  | none =>
    rw [q] at h
    cases h
  | some o =>
    obtain ⟨oc, od, dt, osl⟩ := o
    rw [q] at h
    cases oc with
    | type c =>
      cases od with
      | none =>
        cases dt with
        | dict es ep =>
          obtain ⟨h1, h2⟩ := ba (show (decide (c = "dict") && (decide (osl.size = 0) && (!(a == sysModules) && entsB K l es.toList))) = true from h)
          obtain ⟨h3, h4⟩ := ba h2
          obtain ⟨h5, h6⟩ := ba h4
          obtain ⟨kvs, q1, q2⟩ := entsB_ok h6
          refine ⟨kvs, q1, _, es, ep, q, ⟨congrArg Value.type (of_decide_eq_true h1), rfl, ?_⟩, rfl, q2, by simpa using h5⟩
          exact Array.eq_empty_of_size_eq_zero (of_decide_eq_true h3)
        | _ => cases h
      | some d => cases dt <;> cases h
    | _ => cases od <;> cases dt <;> cases h
def kdfAt (f : Str × Option Str) (x : Str) (K : PySem.W.Frag) : Addr := match K.lookup (fAd K f) with
  | some ⟨_, _, .func fd, _⟩ => (match fd.kwdefaults with
    | .ref D => (match PySem.W.nsIn K D x with
      | some (some (.ref b)) => b
      | _ => 0)
    | _ => 0)
  | _ => 0
end L2.RL
end
section
set_option Elab.async false
set_option linter.all false
set_option maxRecDepth 100000
/-! more readings: truth, membership, loops of a known length -/
namespace L2.RL
open PySem PySem.Spec PyProof.Rows
theorem ty_sqT {K : PySem.W.Frag} {H : Hp} {a : Addr} {xs : List V} (h : SqT K H a xs) : TyX K H (.ref a) (.type "tuple") := by
  rcases h with (h | ⟨o, h⟩) | ⟨o, its, n, h, c, _⟩
  · exact .base (.tup h)
  · exact .fTuple h
  · exact .kTuple h c
theorem ty_sqL {K : PySem.W.Frag} {H : Hp} {a : Addr} {xs : List V} (h : SqL K H a xs) : TyX K H (.ref a) (.type "list") := by
  rcases h with (h | ⟨o, h⟩) | ⟨o, its, n, h, c, _⟩
  · exact .base (.lst h)
  · exact .base (.frz h)
  · exact .kList h c
theorem Same.updN {H H' : Hp} {p : Addr} {o : HO} (n : H p = none) (s : Same H H') : Same H (upd H' p o) := fun b x e => by
  rw [upd_ne (ne_of_none e n)]
  exact s _ _ e
section
variable {K : PySem.W.Frag} {σ : St} {H : Hp} {Q : VK} {D : Ends}
theorem w_inT {x : V} {p : Addr} {xs : List V} {b : Bool} (hs : SqT K H p xs) (fx : flatV x = true) (fs : xs.all flatV = true) (h : Q (.bl (if b then !inV x xs else inV x xs)) H) : rIn K b x (.ref p) H Q := ⟨p, xs, rfl, .inr hs, fx, fs, h⟩
theorem w_inL {x : V} {p : Addr} {xs : List V} {b : Bool} (hs : SqL K H p xs) (fx : flatV x = true) (fs : xs.all flatV = true) (h : Q (.bl (if b then !inV x xs else inV x xs)) H) : rIn K b x (.ref p) H Q := ⟨p, xs, rfl, .inl hs, fx, fs, h⟩
theorem w_yes {R : Bool → Hp → Prop} (h : R true H) : tYes σ H R := h
theorem w_trI {i : Int} {R : Bool → Prop} (h : R (i != 0)) : ∃ k, TruV K (.int i) H k ∧ R k := ⟨_, rfl, h⟩
theorem w_trB {b : Bool} {R : Bool → Prop} (h : R b) : ∃ k, TruV K (.bl b) H k ∧ R k := ⟨_, rfl, h⟩
theorem w_trN {R : Bool → Prop} (h : R false) : ∃ k, TruV K .non H k ∧ R k := ⟨_, rfl, h⟩
theorem w_trT {p : Addr} {xs : List V} {R : Bool → Prop} (hs : SqT K H p xs) (h : R (!xs.isEmpty)) : ∃ k, TruV K (.ref p) H k ∧ R k := ⟨_, .inr (.inl ⟨xs, hs, rfl⟩), h⟩
theorem w_trL {p : Addr} {xs : List V} {R : Bool → Prop} (hs : SqL K H p xs) (h : R (!xs.isEmpty)) : ∃ k, TruV K (.ref p) H k ∧ R k := ⟨_, .inl ⟨xs, hs, rfl⟩, h⟩
theorem w_catT {a b : Addr} {xs ys : List V} (ha : SqT K H a xs) (hb : SqT K H b ys) (n1 : xs ≠ []) (n2 : ys ≠ []) (hl : xs.length + ys.length ≤ sizeLine) (h : NewO (xs.length + ys.length) (.tup (xs ++ ys)) H Q) : rCatT K (.ref a) (.ref b) H Q :=
  ⟨a, b, xs, ys, rfl, rfl, ha, hb, n1, hl, fun e => absurd e n2, fun _ => h.2⟩
theorem w_all {a : Addr} {bs : List Bool} (hs : SqL K H a (bs.map V.bl)) (h : Q (.bl (bs.all id)) H) : rAll K [V.ref a] H Q := ⟨a, bs, rfl, hs, h⟩
def NewE (o : Addr → HO) (H : Hp) (Q : VK) : Prop := ∀ p, H p = none → Q (.ref p) (upd H p (o p))
theorem w_newE {o : Addr → HO} (h : ∀ p H', H p = none → Same H H' → H' p = some (o p) → Q (.ref p) H') : NewE o H Q := fun p e => h p _ e (same_upd e) upd_same
theorem w_itemsK {te : TE} (h : te σ H fun x H1 => ∃ d kvs, x = .ref d ∧ KItems K d kvs ∧ NewE (fun v => .ext (IsView v d)) H1 Q) : tItemsK K te σ H Q := h
theorem w_item1 {d : Addr} {kvs : List (V × V)} {R : Addr → Prop} (hk : KItems K d kvs) (h : R d) : ∃ d' kvs', V.ref d = .ref d' ∧ KItems K d' kvs' ∧ R d' := ⟨d, kvs, rfl, hk, h⟩
theorem w_forI {J : It} {g : TG} {tb : TS} (n : Nat) (I : Nat → St → Hp → Prop) (h0 : I 0 σ H)
    (h : ∀ i σ H, i < n → I i σ H → J.go i H ∧ ∀ x H', J.yld i H x H' → g x σ H' fun σ2 H2 => tb { D with nx := fun σ' H' => I (i + 1) σ' H', ct := fun σ' H' => I (i + 1) σ' H', bk := D.nx } σ2 H2)
    (hz : ∀ σ H, I n σ H → J.stop n H ∧ D.nx σ H) :
    ∃ W : Nat → Nat → St → Hp → Prop, (∃ m, W 0 m σ H) ∧ ∀ i m σ H, W i m σ H →
      (J.stop i H ∧ D.nx σ H) ∨ (J.go i H ∧ ∃ N : St → Hp → Prop, (∀ σ' H', N σ' H' → ∃ m', m' < m ∧ W (i + 1) m' σ' H') ∧ ∀ x H', J.yld i H x H' → g x σ H' fun σ2 H2 => tb { D with nx := N, ct := N, bk := D.nx } σ2 H2) := by
  refine ⟨fun i m σ H => i ≤ n ∧ m = n - i ∧ I i σ H, ⟨n, Nat.zero_le _, rfl, h0⟩, fun i m σ H ⟨h1, h2, h3⟩ => ?_⟩
  rcases Nat.lt_or_ge i n with c | c
  · obtain ⟨q1, q2⟩ := h i σ H c h3
    exact .inr ⟨q1, _, fun σ' H' q => ⟨n - (i + 1), by omega, by omega, rfl, q⟩, q2⟩
  · obtain rfl : i = n := by omega
    exact .inl (hz σ H h3)
def LcN (L : Addr) (i : Nat) (I : Nat → List V → Hp → Prop) (H' : Hp) : Prop := ∃ acc, H' L = some (.lst acc) ∧ acc.length ≤ i ∧ I i acc H'
theorem lc_put {L : Addr} {i n : Nat} {I : Nat → List V → Hp → Prop} {acc : List V} {y : V} (e : H L = some (.lst acc)) (hl : acc.length ≤ i) (h1 : i < n) (hn : n ≤ 100000) (h : I (i + 1) (acc ++ [y]) (upd H L (.lst (acc ++ [y])))) :
    ∃ acc, H L = some (.lst acc) ∧ acc.length < sizeLine ∧ LcN L (i + 1) I (upd H L (.lst (acc ++ [y]))) :=
  ⟨acc, e, by rw [sizeLine_eq]; omega, _, upd_same, by rw [List.length_append]; exact Nat.succ_le_succ hl, h⟩
theorem lc_skip {L : Addr} {i : Nat} {I : Nat → List V → Hp → Prop} {acc : List V} (e : H L = some (.lst acc)) (hl : acc.length ≤ i) (h : I (i + 1) acc H) : LcN L (i + 1) I H := ⟨acc, e, by omega, h⟩
theorem w_lcI {J : It} {g : TG} {tt : TT} {te : TE} {vs : List Nat} {R : Addr → Hp → Prop} (n : Nat) (I : Nat → List V → Hp → Prop) (h0 : ∀ L, H L = none → I 0 [] (upd H L (.lst [])))
    (h : ∀ L i acc H2, H L = none → i < n → H2 L = some (.lst acc) → acc.length ≤ i → I i acc H2 → J.go i H2 ∧ ∀ x H', J.yld i H2 x H' → g x (wipe σ vs) H' fun σ2 H2 => wipe σ2 vs = wipe σ vs ∧ tt σ2 H2 fun b H3 =>
      if b = true then te σ2 H3 fun y H4 => ∃ acc, H4 L = some (.lst acc) ∧ acc.length < sizeLine ∧ LcN L (i + 1) I (upd H4 L (.lst (acc ++ [y]))) else LcN L (i + 1) I H3)
    (hz : ∀ L acc H2, H L = none → H2 L = some (.lst acc) → I n acc H2 → J.stop n H2 ∧ R L H2) :
    ∀ L, H L = none → ∃ W : Nat → Nat → Hp → Prop, (∃ m, W 0 m (upd H L (.lst []))) ∧ ∀ i m H, W i m H →
      (J.stop i H ∧ R L H) ∨ (J.go i H ∧ ∃ Nx : Hp → Prop, (∀ H', Nx H' → ∃ m', m' < m ∧ W (i + 1) m' H') ∧ ∀ x H', J.yld i H x H' → g x (wipe σ vs) H' fun σ2 H2 => wipe σ2 vs = wipe σ vs ∧ tt σ2 H2 fun b H3 =>
        if b = true then te σ2 H3 fun y H4 => ∃ acc, H4 L = some (.lst acc) ∧ acc.length < sizeLine ∧ Nx (upd H4 L (.lst (acc ++ [y]))) else Nx H3) := by
  intro L hL
  refine ⟨fun i m H2 => i ≤ n ∧ m = n - i ∧ LcN L i I H2, ⟨n, Nat.zero_le _, rfl, [], upd_same, Nat.le_refl _, h0 L hL⟩, fun i m H2 ⟨h1, h2, acc, h3, h4, h5⟩ => ?_⟩
  rcases Nat.lt_or_ge i n with c | c
  · obtain ⟨q1, q2⟩ := h L i acc H2 hL c h3 h4 h5
    exact .inr ⟨q1, LcN L (i + 1) I, fun H' q => ⟨n - (i + 1), by omega, by omega, rfl, q⟩, q2⟩
  · obtain rfl : i = n := by omega
    exact .inl (hz L acc H2 hL h3 h5)
end
end L2.RL
namespace L2.RL
open PySem PySem.Spec PyProof.Rows
def pick3 {α : Type} : List (Nat × Nat) → List α → List α → List α → List α
  | [], _, _, _ => []
  | q :: l, us, mv, ws => (match (if q.1 = 0 then us else if q.1 = 1 then mv else ws)[q.2]? with
    | some x => x :: pick3 l us mv ws
    | none => pick3 l us mv ws)
theorem pick3_vals : ∀ (l : List (Nat × Nat)) {vs mz zs : List V} {us mv ws : List Value}, Vals vs us → Vals mz mv → Vals zs ws → Vals (pick3 l vs mz zs) (pick3 l us mv ws)
  | [], _, _, _, _, _, _, _, _, _ => .nil
  | q :: l, vs, mz, zs, us, mv, ws, r1, r2, r3 => by
    have r : Vals (if q.1 = 0 then vs else if q.1 = 1 then mz else zs) (if q.1 = 0 then us else if q.1 = 1 then mv else ws) := by
      split
      · exact r1
      · split
        · exact r2
        · exact r3
    have hl := r.length
    have t := pick3_vals l r1 r2 r3
    unfold pick3
    cases e : (if q.1 = 0 then vs else if q.1 = 1 then mz else zs)[q.2]? with
    | none =>
      have e2 : (if q.1 = 0 then us else if q.1 = 1 then mv else ws)[q.2]? = none := by
        rw [List.getElem?_eq_none_iff] at e ⊢
        omega
      rw [e2]
      exact t
    | some x =>
      obtain ⟨u, e2, ru⟩ := r.get e
      rw [e2]
      exact .cons ru t
structure Lk (P : Program) (w : World) (K : PySem.W.Frag) (mg : Str → Option Value) (base : Heap) (CX : CXT) (k : Nat) (C : Str) (ps : List Str) (n : Nat) (ks : List Str) (gV : List V → List V → List V) (sp : Sp) : Prop where
  ex : ∃ fd g, FnOk P w K mg base CX k (He.ma K (He.ga K C) "__init__") fd ps sp ∧ KBn K fd ps n ks g gV
end L2.RL
namespace L2.RL
open PySem PySem.Spec PyProof.Rows
section
variable {K : PySem.W.Frag} {σ : St} {H H' : Hp} {Q : VK} {D : Ends}
theorem w_sFld0 {a C dx : Addr} {f : Str} {y : V} {fs fs' : List (Str × V)} {R : Hp → Prop} (e : H a = some (.ins C dx fs)) (c : Cls K C) (n : NoAttr K C f) (hl : fs.length < 1000) (ep : putF f y fs = fs') (h : R (upd H a (.ins C dx fs'))) :
    ∃ a' C' dx' fs1, V.ref a = .ref a' ∧ H a' = some (.ins C' dx' fs1) ∧ Cls K C' ∧ NoAttr K C' f ∧ fs1.length < 1000 ∧ R (upd H a' (.ins C' dx' (putF f y fs1))) := ⟨a, C, dx, fs, rfl, e, c, n, hl, by rw [ep]; exact h⟩
theorem SqT.but {x C dx a : Addr} {fs : List (Str × V)} {xs : List V} (b : But x H H') (e : H x = some (.ins C dx fs)) (h : SqT K H a xs) : SqT K H' a xs := by
  rcases h with (h | ⟨o, h⟩) | h
  · exact .inl (.inl (b _ _ (ne_of h e (by intro z; cases z)) h))
  · exact .inl (.inr ⟨o, b _ _ (ne_of h e (by intro z; cases z)) h⟩)
  · exact .inr h
theorem make_same {x dx : Addr} {o1 o2 : HO} (n1 : H x = none) (n2 : H dx = none) (b : But x (upd (upd H dx o1) x o2) H') : Same H H' := fun c o e => by
  have c1 := ne_of_none e n1
  have c2 := ne_of_none e n2
  refine b c o c1 ?_
  rw [upd_ne c1, upd_ne c2]
  exact e
theorem w_blR {b : Bool} {R : Bool → Prop} (h : R b) : ∃ k, V.bl b = .bl k ∧ R k := ⟨b, rfl, h⟩
theorem Same.at {b : Addr} {o : HO} (s : Same H H') (e : H b = some o) : H' b = some o := s b o e
theorem But.at {a b : Addr} {o : HO} (s : But a H H') (n : b ≠ a) (e : H b = some o) : H' b = some o := s b o n e
theorem upd_at {a b : Addr} {o o' : HO} (n : b ≠ a) (e : H b = some o) : upd H a o' b = some o := (upd_ne n).trans e
theorem zip_go {b : Bool} {kvs : List (V × V)} {p : Addr} {i : Nat} {ys : List V} {y : V} (hk : i < kvs.length) (hp : SqT K H p ys) (hy : ys[i]? = some y) : (It2 b (ItI kvs) (Itt K p)).go i H := by
  refine ⟨hk, fun x H1 ⟨T, k, v, _, _, n, e⟩ => ?_⟩
  exact ⟨ys, y, Same.sqT (by rw [e]; exact same_upd n) hp, hy⟩
theorem zip_yld {b : Bool} {kvs : List (V × V)} {p : Addr} {i : Nat} {ys : List V} {y k w v : V} (h : (It2 b (ItI kvs) (Itt K p)).yld i H v H') (hk : kvs[i]? = some (k, w)) (hp : SqT K H p ys) (hy : ys[i]? = some y) :
    ∃ T T2, v = .ref T ∧ H' T = some (.tup [.ref T2, y]) ∧ H' T2 = some (.tup [k, w]) ∧ Same H H' := by
  obtain ⟨T, x, y', H1, H2, ⟨T2, k', w', e1, e2, n2, e3⟩, ⟨e4, e5⟩, e6, n6, e7⟩ := h
  rw [hk] at e1
  cases e1
  have s1 : Same H H1 := by rw [e3]; exact same_upd n2
  have q := e5 ys (Same.sqT s1 hp)
  rw [hy] at q
  cases q
  subst e2 e4
  have s2 : Same H2 H' := by rw [e7]; exact same_upd n6
  refine ⟨T, T2, e6, by rw [e7]; exact upd_same, s2 _ _ (by rw [e3]; exact upd_same), s1.trans s2⟩
theorem zip_stop {b : Bool} {kvs : List (V × V)} {p : Addr} {i : Nat} {ys : List V} (hk : kvs.length ≤ i) (hp : SqT K H p ys) (hy : ys.length ≤ i) : (It2 b (ItI kvs) (Itt K p)).stop i H := .inl ⟨hk, fun _ => ⟨ys, hp, hy⟩⟩
theorem w_makeK {C : Addr} {n m : Nat} {sp : Sp} {gV : List V → List V → List V} {E : XK} {t tk : TA} (h : t σ H fun vs H1 => tk σ H1 fun zs H2 => vs.length = n ∧ zs.length = m ∧ ∀ x dx, H2 x = none → H2 dx = none → dx ≠ x →
  sp (gV (.ref x :: vs) zs) (upd (upd H2 dx (.own x)) x (.ins C dx [])) (fun v H3 => v = .non ∧ Q (.ref x) H3) E) : tMakeK C n m sp gV E t tk σ H Q := h
end
end L2.RL
namespace L2.RL
open PySem PySem.Spec PyProof.Rows
def SqJ (J : It) (H : Hp) (xs : List V) : Prop := (∀ i x, xs[i]? = some x → J.go i H ∧ ∀ v H', J.yld i H v H' → H' = H ∧ v = x) ∧ ∀ i, xs.length ≤ i → J.stop i H
section
variable {K : PySem.W.Frag} {H H' : Hp} {a : Addr} {xs ys : List V} {J1 J2 : It} {b : Bool} {i : Nat} {x y v : V}
theorem seqL (h : SqL K H a xs) : SqJ (Itl K a) H xs := ⟨fun i x e => ⟨⟨xs, x, h, e⟩, fun v H' ⟨e1, e2⟩ => ⟨e1, Option.some.inj ((e2 xs h).symm.trans e)⟩⟩, fun i l => ⟨xs, h, l⟩⟩
theorem seqT (h : SqT K H a xs) : SqJ (Itt K a) H xs := ⟨fun i x e => ⟨⟨xs, x, h, e⟩, fun v H' ⟨e1, e2⟩ => ⟨e1, Option.some.inj ((e2 xs h).symm.trans e)⟩⟩, fun i l => ⟨xs, h, l⟩⟩
theorem seq_zip_go (h1 : SqJ J1 H xs) (h2 : SqJ J2 H ys) (e1 : xs[i]? = some x) (e2 : ys[i]? = some y) : (It2 b J1 J2).go i H :=
  ⟨(h1.1 i x e1).1, fun v H1 q => by rw [((h1.1 i x e1).2 v H1 q).1]; exact (h2.1 i y e2).1⟩
theorem seq_zip_yld (h : (It2 b J1 J2).yld i H v H') (h1 : SqJ J1 H xs) (h2 : SqJ J2 H ys) (e1 : xs[i]? = some x) (e2 : ys[i]? = some y) : ∃ T, v = .ref T ∧ H' T = some (.tup [x, y]) ∧ Same H H' := by
  obtain ⟨T, x', y', H1, H2, q1, q2, e3, n, e4⟩ := h
  obtain ⟨a1, a2⟩ := (h1.1 i x e1).2 x' H1 q1
  rw [a1] at q2
  obtain ⟨a3, a4⟩ := (h2.1 i y e2).2 y' H2 q2
  rw [a3] at n e4
  exact ⟨T, e3, by rw [e4, a2, a4]; exact upd_same, by rw [e4]; exact same_upd n⟩
theorem seq_zip_stop (h1 : SqJ J1 H xs) (h2 : SqJ J2 H ys) (l1 : xs.length ≤ i) (l2 : ys.length ≤ i) : (It2 b J1 J2).stop i H := .inl ⟨h1.2 i l1, fun _ => h2.2 i l2⟩
theorem Same.none {L : Addr} (s : Same H H') (n : H' L = none) : H L = none := by
  cases e : H L with
  | none => rfl
  | some o =>
    rw [s _ _ e] at n
    cases n
end
end L2.RL
namespace L2.RL
open PySem PySem.Spec PyProof.Rows
theorem pg_tupN {X : Cx} {pos : Pos} {es : List Expr} {k : Nat} {t : TGs} {n : Nat} {K : PySem.W.Frag} (hc : X.calm = true) (hK : X.K = K) (h : PGs X es t)
    (hn : (assignEach es X.env).length = n := by rfl) (hst : (assignEach es X.env).findIdx? (·.1) = none := by rfl) : PG X (.Tuple es k pos) (gTup K n t) := by
  rw [← hK]
  exact pg_tup hc h hn hst
end L2.RL
end
section
set_option Elab.async false
set_option linter.all false
set_option maxRecDepth 100000
/-! loops over range and over sequences, by the number of turns -/
namespace L2.RL
open PySem PySem.Spec PyProof.Rows
section
variable {K : PySem.W.Frag} {σ : St} {H : Hp} {Q : VK} {D : Ends}
theorem w_gc1 {x : V} {xs : List V} {A : V → List V → Prop} (h : A x xs) : ∃ v r, x :: xs = v :: r ∧ A v r := ⟨x, xs, rfl, h⟩
theorem w_forR {lo : Int} {n : Nat} {g : TG} {tb : TS} (I : Nat → St → Hp → Prop) (h0 : I 0 σ H)
    (h : ∀ i σ H, i < n → I i σ H → g (.int (lo + i)) σ H fun σ2 H2 => tb { D with nx := fun σ' H' => I (i + 1) σ' H', ct := fun σ' H' => I (i + 1) σ' H', bk := D.nx } σ2 H2)
    (hz : ∀ σ H, I n σ H → D.nx σ H) :
    ∃ W : Nat → Nat → St → Hp → Prop, (∃ m, W 0 m σ H) ∧ ∀ i m σ H, W i m σ H →
      ((Itr lo n).stop i H ∧ D.nx σ H) ∨ ((Itr lo n).go i H ∧ ∃ N : St → Hp → Prop, (∀ σ' H', N σ' H' → ∃ m', m' < m ∧ W (i + 1) m' σ' H') ∧ ∀ x H', (Itr lo n).yld i H x H' → g x σ H' fun σ2 H2 => tb { D with nx := N, ct := N, bk := D.nx } σ2 H2) :=
  w_forI n I h0 (fun i σ H hi hI => ⟨hi, fun x H' ⟨e1, e2⟩ => by subst e1 e2; exact h i σ _ hi hI⟩) (fun σ H hI => ⟨Nat.le_refl n, hz σ H hI⟩)
theorem w_forS {J : It} {xs : List V} {g : TG} {tb : TS} (I : Nat → St → Hp → Prop) (hs : ∀ i σ H, I i σ H → SqJ J H xs) (h0 : I 0 σ H)
    (h : ∀ i x σ H, xs[i]? = some x → I i σ H → g x σ H fun σ2 H2 => tb { D with nx := fun σ' H' => I (i + 1) σ' H', ct := fun σ' H' => I (i + 1) σ' H', bk := D.nx } σ2 H2)
    (hz : ∀ σ H, I xs.length σ H → D.nx σ H) :
    ∃ W : Nat → Nat → St → Hp → Prop, (∃ m, W 0 m σ H) ∧ ∀ i m σ H, W i m σ H →
      (J.stop i H ∧ D.nx σ H) ∨ (J.go i H ∧ ∃ N : St → Hp → Prop, (∀ σ' H', N σ' H' → ∃ m', m' < m ∧ W (i + 1) m' σ' H') ∧ ∀ x H', J.yld i H x H' → g x σ H' fun σ2 H2 => tb { D with nx := N, ct := N, bk := D.nx } σ2 H2) :=
  w_forI xs.length I h0 (fun i σ H hi hI => by
    obtain ⟨s1, s2⟩ := (hs i σ H hI).1 i xs[i] (List.getElem?_eq_getElem hi)
    refine ⟨s1, fun x H' y => ?_⟩
    obtain ⟨e1, e2⟩ := s2 x H' y
    subst e1 e2
    exact h i _ σ _ (List.getElem?_eq_getElem hi) hI) (fun σ H hI => ⟨(hs _ σ H hI).2 _ (Nat.le_refl _), hz σ H hI⟩)
theorem w_rep {l : Addr} {k : Int} {xs : List V} {n : Nat} (hH : H l = some (.lst xs)) (hk : k.toNat = n) (h1 : -(2 ^ 63) ≤ k) (h2 : k < 2 ^ 63) (hz : xs.length * n ≤ 100000) (h : ∀ p H', H p = none → Same H H' → H' p = some (.lst (List.replicate n xs).flatten) → Q (.ref p) H') : rRep (.ref l) (.int k) H Q :=
  ⟨l, k, xs, rfl, rfl, hH, h1, h2, by rw [hk]; exact Nat.le_trans hz (by decide), fun p e => by rw [hk]; exact h p _ e (same_upd e) upd_same⟩
theorem But.same {a : Addr} {H H' : Hp} (n : H a = none) (b : But a H H') : Same H H' := fun c o e => b c o (ne_of_none e n) e
theorem SqL.but {x a : Addr} {xs : List V} {H' : Hp} (b : But x H H') (n : a ≠ x) (h : SqL K H a xs) : SqL K H' a xs := by
  rcases h with (h | ⟨o, h⟩) | h
  · exact .inl (.inl (b _ _ n h))
  · exact .inl (.inr ⟨o, b _ _ n h⟩)
  · exact .inr h
end
end L2.RL
end
section
set_option Elab.async false
set_option linter.all false
set_option maxRecDepth 100000
set_option maxHeartbeats 4000000
/-! enumerate(list, start=..) in a for -/
namespace L2.RL
open PySem PySem.Spec PyProof.Rows
open PySem.Sem (wp)
def ItEn (K : PySem.W.Frag) (a : Addr) (k : Int) : It where
  go := fun i H => ∃ ys y, SqL K H a ys ∧ ys[i]? = some y
  yld := fun i H v H' => ∃ T y, v = .ref T ∧ H T = none ∧ H' = upd H T (.tup [.int (k + (i : Nat)), y]) ∧ ∀ ys, SqL K H a ys → ys[i]? = some y
  stop := fun i H => ∃ ys : List V, SqL K H a ys ∧ ys.length ≤ i
theorem en_end {prog : Program} {w : World} {A : Around} {E : Value → Shared → Prop} {s : Shared} {e j l : Addr} {i : Nat} {c : Int} {its : Array Value} {old : Value} {Q : Option Value → Shared → Prop} (hh : A.handled = none)
    (g1 : IsEnum s.heap e j c old) (g2 : s.heap.IsListIter j l i) (g3 : s.heap.IsList l its) (hi : its[i]? = none) (hQ : ∀ h', Heap.ExtBut j s.heap h' → Q none { s with heap := h' }) :
    wpAny (model prog w) A (pyNext (.ref e)) Q E s := by
  have hT : s.TypeIs (.ref e) "enumerate" := ⟨_, g1, rfl⟩
  unfold pyNext
  refine wpAny_bind (wpAny_attempt (wpAny_callSpecial?_slot (name := Str.ofString "__next__") hT F.slot_enumerate_next (wpAny_call_entry F.slot_enumerate_next hT F.entry_enumerate_next ?_ (F.args_enumerate_next_1 _))))
  change wpAny _ _ (field (Value.ref e) 2 >>= _) _ _ _; refine wpAny_bind (wpAny_field g1 rfl (x := .ref j) rfl (wpAny_bind (wpAny_nextOf_list_end hh g2 g3 hi fun h' x he' hx' => ?_)))
  obtain ⟨o, ho, hc⟩ := hx'
  exact wpAny_bind (wpAny_isInstance (T := "StopIteration") (b := true) ⟨o, ho, hc⟩ isSubtype_stop (wpAny_pure (hQ _ he')))
theorem turn_en {P : Program} {w : World} {K : PySem.W.Frag} {els : List Expr} {kk : Nat} {tp : Pos} (a e j : Addr) (k : Int) :
    Turn P w K (.Tuple els kk tp) (ItEn K a k) [e, j] e (fun i h => (∃ old, IsEnum h e j (k + ((i : Nat) : Int)) old) ∧ h.IsListIter j a i ∧ e ≠ j ∧ a ≠ j) where
  mem := List.mem_cons_self ..
  obj := fun i h st b hb => by
    obtain ⟨⟨old, g1⟩, ⟨o, g2, _, g4⟩, _⟩ := st
    rcases (show b = e ∨ b = j by simpa using hb) with rfl | rfl
    · exact ⟨_, g1, fun v z => nomatch z⟩
    · exact ⟨o, g2, fun v z => by rw [g4] at z; cases z⟩
  keep := fun i h h' st m => by
    obtain ⟨⟨old, g1⟩, g2, g3⟩ := st
    exact ⟨⟨old, m e (by simp) _ g1⟩, g2.at fun o z => m j (by simp) o z, g3⟩
  item := by
    intro X e1 e2 e3 hc i pins s σ H E I hf st hg
    subst e1 e2 e3
    obtain ⟨⟨old, g1⟩, g2, g3, g4⟩ := st
    obtain ⟨ys, y, q1, q2⟩ := hg
    obtain ⟨its, rv, p, _⟩ := I.list q1
    obtain ⟨u, hu, ru⟩ := rv.get q2
    have l1 : e < s.heap.objs.size := Heap.lt_size g1
    have l2 : j < s.heap.objs.size := by
      obtain ⟨_, z, _⟩ := g2
      exact Heap.lt_size z
    have hi : i < its.toArray.size := by
      rw [List.size_toArray]
      exact (List.getElem?_eq_some_iff.mp hu).1
    have hd : X.A.in1.handled = none := I.ok.hd hc
    refine wpAny_pyNext_enum_itemC (Draws.list (prog := X.prog) (w := X.w) hd j a g4 its.toArray) g1 ⟨g2, p.isList⟩ hi g3 (fun z => ?_) fun x h' tk px ho hst hT _ up => ?_
    · rcases (show e = j ∨ e = a by simpa using z) with z | z
      · exact g3 z
      · obtain ⟨o, z1, z2, _⟩ := p.isList
        rw [← z, g1] at z1
        cases z1
        exact absurd z2 (by simp)
    · have ex : u = x := by
        have z : its.toArray[i]? = some x := px
        rw [List.getElem?_toArray, hu] at z
        exact Option.some.inj z
      subst ex
      refine ⟨_, rfl, wpAny_letOwnedTupleGo_enum (s := { s with heap := h', toks := tk + 1 }) ho fun h2 he2 sb => ?_⟩
      have hT2 := (sb.2 _ (Nat.ne_of_gt l1)).trans hT
      have new : ObjOk X.prog X.w (upd H s.heap.objs.size (.tup [.int (k + (i : Nat)), y])) h2 s.heap.objs.size (.tup [.int (k + (i : Nat)), y]) :=
        ⟨(show 2 ≤ sizeLine by decide), [.int (k + (i : Nat)) tk, u], .cons ⟨_, rfl⟩ (.cons ru .nil), ⟨_, hT2, rfl, _, rfl⟩⟩
      have I1 : Inv X pins σ (upd H s.heap.objs.size (.tup [.int (k + (i : Nat)), y])) { s with heap := h2, toks := tk + 1 } :=
        I.turnedNew (ch := [e, j]) (fun b ob hb z => by
          have n1 : b ≠ e := fun z => hb (by simp [z])
          have n2 : b ≠ j := fun z => hb (by simp [z])
          exact (sb.2 b n1).trans (up b ob n1 n2 z)) hf (Nat.le_refl _) new
      refine ⟨.ref s.heap.objs.size, _, I1, rfl, ⟨_, y, rfl, I.hok.fresh (Nat.le_refl _), rfl, fun zs hz => by rw [I.list_inj hz q1]; exact q2⟩, ⟨⟨u, ?_⟩, ?_, g3, g4⟩, fun b hb => ?_⟩
      · have z : k + ((i + 1 : Nat) : Int) = k + (i : Int) + 1 := by omega
        rw [z]
        exact he2
      · exact hst.1.at fun o z => (sb.2 j (Ne.symm g3)).trans z
      · have l3 : b < s.heap.objs.size := by
          rcases (show b = e ∨ b = j by simpa using hb) with rfl | rfl
          · exact l1
          · exact l2
        rw [upd_ne (Nat.ne_of_lt l3)]
        exact (hf b hb).1
  done := by
    intro X e1 e2 e3 hc i pins s σ H E I hf st hg
    subst e1 e2 e3
    obtain ⟨⟨old, g1⟩, g2, g3, g4⟩ := st
    obtain ⟨ys, q1, q2⟩ := hg
    obtain ⟨its, rv, p, _⟩ := I.list q1
    have hl := rv.length
    obtain ⟨f0, f1, f2, f3, f4, f5⟩ := hf j (by simp)
    exact en_end (I.ok.hd hc) g1 g2 p.isList (by simp; omega) fun h' up => ⟨rfl, I.turned (t' := s.toks) (fun b o hb z => up b o hb z) f0 f1 f3 f4 f5⟩
  self := fun A i s Q E st h => by
    obtain ⟨⟨_, g⟩, _⟩ := st
    exact wpAny_pyIter_enum g h
def iEnS (K : PySem.W.Frag) (ta tk : TA) : TI := fun σ H R => ta σ H fun vs H1 => tk σ H1 fun zs H2 => ∃ (a : Addr) (ys : List V) (k : Int), vs = [.ref a] ∧ zs = [.int k] ∧ SqL K H2 a ys ∧ (-(2 ^ 63) ≤ k ∧ k < 2 ^ 63) ∧ R (ItEn K a k) H2
theorem pi_enS {X : Cx} {e e2 : Expr} {ta : TA} {te : TE} {p pos tp kp : Pos} {els : List Expr} {kk : Nat} (hg : Gl X "enumerate") (hm : X.mg "enumerate" = none) (ha : PA X [e] ta) (h2 : PE X e2 te)
    (hs : starEach [e] X.env = [(false, eval e X.env)] := by rfl)
    (hall : (backToKw pos (keywordEach [⟨some "start", e2, kp⟩] X.env)).all (·.1.isSome) = true := by rfl)
    (hks : (backToKw pos (keywordEach [⟨some "start", e2, kp⟩] X.env)).filterMap (·.1) = (["start"] : List Str) := by rfl)
    (hpl : ((backTo pos (starEach [e] X.env)).any (·.1) || (backToKw pos (keywordEach [⟨some "start", e2, kp⟩] X.env)).any (·.1.isNone)) = false := by rfl) :
    PI X (.Tuple els kk tp) (.Call (.Name "enumerate" p) [e] [⟨some "start", e2, kp⟩] pos) (iEnS X.K ta (tCons te tNil)) := by
  refine ⟨fun pins s σ H R I h => ?_⟩
  refine wpAny_Call_Name_kw (ld_blt I hg hm boot_enumerate (callWith_typeKw hpl (evalArgs_kw2 hall (thn (ha.run pos pins s σ H _ I h) fun us s1 ⟨vs, H1, I1, r1, q1⟩ => ?_) hs)))
  have pk : PK X [⟨some "start", e2, kp⟩] (tCons te tNil) := pk_cons h2 pk_nil
  refine thn (pk.run pos pins s1 σ H1 _ I1 q1) fun ws s2 ⟨zs, H2, I2, rz, a, ys, k, ez, ek, hq, ⟨k0, k1⟩, q⟩ => ?_
  subst ez ek
  obtain ⟨u1, rfl, ra⟩ := vals1 r1
  obtain rfl : u1 = Value.ref a := ra
  obtain ⟨w1, rfl, rw1⟩ := vals1 rz
  obtain ⟨t, rfl⟩ := rw1
  rw [hks]
  obtain ⟨its, rv, p', _⟩ := I2.list hq
  have hal : a < s2.heap.objs.size := by
    obtain ⟨o, z, _⟩ := p'.isList
    exact Heap.lt_size z
  refine enum_begins_start (begins_list a its.toArray) p'.isList k0 k1 fun h' he hit _ up => wpAny_pyIter_enum he ?_
  have I3 : Inv X pins σ H2 { s2 with heap := h' } := I2.kept (t' := s2.toks) up
  refine ⟨s2.heap.objs.size + 1, [s2.heap.objs.size + 1, s2.heap.objs.size], _, _, H2, rfl, I3, turn_en a (s2.heap.objs.size + 1) s2.heap.objs.size k, ⟨⟨.none, ?_⟩, ⟨_, hit, rfl, rfl⟩, Nat.succ_ne_self _, Nat.ne_of_lt hal⟩, fun b hb => ?_, q⟩
  · have z : k + ((0 : Nat) : Int) = k := by omega
    rw [z]
    exact he
  · have hle : s2.heap.objs.size ≤ b := by
      rcases (show b = s2.heap.objs.size + 1 ∨ b = s2.heap.objs.size by simpa using hb) with z | z
      · rw [z]; exact Nat.le_succ _
      · rw [z]; exact Nat.le_refl _
    exact I2.fpOk hle (I2.hok.fresh hle)
end L2.RL
end
section
set_option Elab.async false
set_option linter.all false
set_option maxRecDepth 100000
set_option maxHeartbeats 2000000
/-! floor quotients by any divisor; the nearest point of a line of fractions -/
namespace L2.RL
open PySem PySem.Spec PyProof.Rows
def CDivG (i j : Int) : Prop := j ≠ 0 ∧ j.natAbs.log2 < 9000
theorem op_fdivG {X : Cx} : OpR X (binaryOp .FloorDiv) (rI CDivG fun i j => .int (i.fdiv j)) := opI fun i j _ _ _ _ _ hc q => floordiv_int hc.1 q (.inl (PyProof.noPylong_of_log2 hc.2))
theorem cg_of {i j : Int} (n : Nat) (h : j ≠ 0) (hj : j.natAbs < 2 ^ n) (h0 : 0 < n) (h1 : n ≤ 9000) : CDivG i j := ⟨h, Nat.lt_of_lt_of_le (PySem.Flt.log2_lt_of h0 hj) h1⟩
theorem abs_if (x : Int) : (if x < 0 then -x else x) = (x.natAbs : Int) := by split <;> omega
structure Line (lo A S D : Int) (T B : Int → Int) : Prop where
  D0 : 0 < D
  B0 : ∀ z, 0 < B z
  on : ∀ z, T z * D = (A + S * (z - lo)) * B z
def gap (lo A S D n d z : Int) : Int := (A + S * (z - lo)) * d - n * D
theorem mul_lt {k a b : Int} (h : 0 < k) : k * a < k * b ↔ a < b := by
  constructor
  · intro x
    exact Int.lt_of_mul_lt_mul_left x (by omega)
  · intro x
    exact Int.mul_lt_mul_of_pos_left x h
theorem natAbs_mulP {k a : Int} (h : 0 ≤ k) : ((k * a).natAbs : Int) = k * (a.natAbs : Int) := by
  rw [Int.natAbs_mul]
  have : (k.natAbs : Int) = k := by omega
  rw [Int.natCast_mul, this]
theorem Line.far {lo A S D n d : Int} {T B : Int → Int} (L : Line lo A S D T B) (z : Int) : D * ((T z * d - n * B z).natAbs : Int) = B z * ((gap lo A S D n d z).natAbs : Int) := by
  have h1 := L.on z
  have h0 := L.D0
  have h2 := L.B0 z
  rw [← natAbs_mulP (by omega), ← natAbs_mulP (by omega)]
  have e : D * (T z * d - n * B z) = B z * gap lo A S D n d z := by
    unfold gap
    grind
  rw [e]
theorem Line.cmp {lo A S D n d : Int} {T B : Int → Int} (L : Line lo A S D T B) (hd : 0 < d) (z w : Int) :
    ((T z * d - n * B z).natAbs : Int) * (B w * d) < ((T w * d - n * B w).natAbs : Int) * (B z * d) ↔ (gap lo A S D n d z).natAbs < (gap lo A S D n d w).natAbs := by
  have f1 := L.far (n := n) (d := d) z
  have f2 := L.far (n := n) (d := d) w
  have p1 := L.B0 z
  have p2 := L.B0 w
  have p0 := L.D0
  generalize ((T z * d - n * B z).natAbs : Int) = a at *
  generalize ((T w * d - n * B w).natAbs : Int) = b at *
  generalize gap lo A S D n d z = g at *
  generalize gap lo A S D n d w = h at *
  rw [← mul_lt (k := D) p0]
  have e1 : D * (a * (B w * d)) = (B z * B w * d) * (g.natAbs : Int) := by grind
  have e2 : D * (b * (B z * d)) = (B z * B w * d) * (h.natAbs : Int) := by grind
  rw [e1, e2, mul_lt (Int.mul_pos (Int.mul_pos p1 p2) hd)]
  omega
structure IsNear (lo hi A S D n d z : Int) : Prop where
  ge : lo ≤ z
  le : z ≤ hi
  least : ∀ w, lo ≤ w → w ≤ hi → (gap lo A S D n d z).natAbs ≤ (gap lo A S D n d w).natAbs
  first : ∀ w, lo ≤ w → w < z → (gap lo A S D n d z).natAbs < (gap lo A S D n d w).natAbs
theorem IsNear.uniq {lo hi A S D n d z w : Int} (a : IsNear lo hi A S D n d z) (b : IsNear lo hi A S D n d w) : z = w := by
  rcases Int.lt_trichotomy z w with c | c | c
  · have := b.first z a.ge c
    have := a.least w b.ge b.le
    omega
  · exact c
  · have := a.first w b.ge c
    have := b.least z a.ge a.le
    omega
def clampI (lo hi x : Int) : Int := if hi < (if lo > x then lo else x) then hi else (if lo > x then lo else x)
def better (g : Int → Nat) (best v : Int) : Int := if g v < g best then v else best
theorem near_core {s r q K : Int} (f : Int → Int) (hs : 0 < s) (r0 : 0 ≤ r) (r1 : r < s) (hK : 0 ≤ K) (hq : f q = -r) (hq1 : f (q + 1) = s - r) (mono : ∀ a b, a < b → f a + s ≤ f b) :
    let b1 := better (fun k => (f k).natAbs) 0 (clampI 0 K q)
    let b2 := better (fun k => (f k).natAbs) b1 (clampI 0 K (q + 1))
    0 ≤ b2 ∧ b2 ≤ K ∧ (∀ w, 0 ≤ w → w ≤ K → (f b2).natAbs ≤ (f w).natAbs) ∧ ∀ w, 0 ≤ w → w < b2 → (f b2).natAbs < (f w).natAbs := by
  have m2 : ∀ a b, a ≤ b → f a ≤ f b := fun a b h => by
    rcases Int.lt_or_eq_of_le h with h | h
    · have := mono a b h
      omega
    · rw [h]
      exact Int.le_refl _
  rcases (show q < 0 ∨ K ≤ q ∨ (0 ≤ q ∧ q < K) by omega) with c | c | ⟨c, c'⟩
  · have e1 : clampI 0 K q = 0 := by
      unfold clampI
      repeat' split
      all_goals omega
    have e2 : clampI 0 K (q + 1) = 0 := by
      unfold clampI
      repeat' split
      all_goals omega
    have e3 : better (fun k => (f k).natAbs) 0 0 = 0 := by unfold better; split <;> rfl
    simp only [e1, e2, e3]
    refine ⟨Int.le_refl _, hK, fun w h0 _ => ?_, fun w h0 h1 => by omega⟩
    have := m2 (q + 1) 0 (by omega)
    have := m2 0 w h0
    omega
  · have e1 : clampI 0 K q = K := by
      unfold clampI
      repeat' split
      all_goals omega
    have e2 : clampI 0 K (q + 1) = K := by
      unfold clampI
      repeat' split
      all_goals omega
    have hKq := m2 K q c
    have key : ∀ w, w < K → (f K).natAbs < (f w).natAbs := fun w h => by
      have := mono w K h
      omega
    have e3 : better (fun k => (f k).natAbs) 0 K = K := by
      unfold better
      rcases Int.lt_or_eq_of_le hK with h | h
      · rw [if_pos (key 0 h)]
      · rw [← h]
        split <;> rfl
    have e4 : better (fun k => (f k).natAbs) K K = K := by unfold better; split <;> rfl
    simp only [e1, e2, e3, e4]
    refine ⟨hK, Int.le_refl _, fun w _ h1 => ?_, fun w _ h1 => key w h1⟩
    rcases Int.lt_or_eq_of_le h1 with h | h
    · exact Nat.le_of_lt (key w h)
    · rw [h]
      exact Nat.le_refl _
  · have e1 : clampI 0 K q = q := by
      unfold clampI
      repeat' split
      all_goals omega
    have e2 : clampI 0 K (q + 1) = q + 1 := by
      unfold clampI
      repeat' split
      all_goals omega
    have lo1 : ∀ w, w < q → (f q).natAbs + s ≤ (f w).natAbs := fun w h => by
      have := mono w q h
      omega
    have hi1 : ∀ w, q + 1 < w → (f (q + 1)).natAbs + s ≤ (f w).natAbs := fun w h => by
      have := mono (q + 1) w h
      omega
    have e3 : better (fun k => (f k).natAbs) 0 q = q := by
      unfold better
      rcases Int.lt_or_eq_of_le c with h | h
      · have hlt : (f q).natAbs < (f 0).natAbs := by have := lo1 0 h; omega
        rw [if_pos hlt]
      · rw [← h]
        split <;> rfl
    simp only [e1, e2, e3]
    unfold better
    split
    · rename_i h
      have h' : (f (q + 1)).natAbs < (f q).natAbs := h
      refine ⟨by omega, by omega, fun w h0 h1 => ?_, fun w h0 h1 => ?_⟩
      · rcases (show w < q ∨ w = q ∨ w = q + 1 ∨ q + 1 < w by omega) with z | z | z | z
        · have := lo1 w z
          omega
        · rw [z]; omega
        · rw [z]; omega
        · have := hi1 w z
          omega
      · rcases (show w < q ∨ w = q by omega) with z | z
        · have := lo1 w z
          omega
        · rw [z]; omega
    · rename_i h
      have h' : ¬ (f (q + 1)).natAbs < (f q).natAbs := h
      refine ⟨by omega, by omega, fun w h0 h1 => ?_, fun w h0 h1 => ?_⟩
      · rcases (show w < q ∨ w = q ∨ w = q + 1 ∨ q + 1 < w by omega) with z | z | z | z
        · have := lo1 w z
          omega
        · rw [z]; omega
        · rw [z]; omega
        · have := hi1 w z
          omega
      · have := lo1 w h1
        omega
theorem clamp_move (lo hi x : Int) : clampI lo hi (lo + x) = lo + clampI 0 (hi - lo) x := by
  unfold clampI
  repeat' split
  all_goals omega
theorem better_move (g : Int → Nat) (lo a b : Int) : better g (lo + a) (lo + b) = lo + better (fun k => g (lo + k)) a b := by
  unfold better
  split <;> rfl
theorem better_congr {g h : Int → Nat} (e : ∀ k, g k = h k) (a b : Int) : better g a b = better h a b := by
  rw [show g = h from funext e]
theorem near_found {lo hi A S D n d far : Int} (hl : lo ≤ hi) (hS : S * d ≠ 0) (hf : far = (n * D - A * d).fdiv (S * d)) :
    let g := fun z => (gap lo A S D n d z).natAbs
    IsNear lo hi A S D n d (better g (better g lo (clampI lo hi (lo + far))) (clampI lo hi (lo + (far + 1)))) := by
  intro g
  obtain ⟨s, hs⟩ : ∃ s, s = S * d := ⟨_, rfl⟩
  obtain ⟨c, hc⟩ : ∃ c, c = n * D - A * d := ⟨_, rfl⟩
  have hg : ∀ k, gap lo A S D n d (lo + k) = s * k - c := fun k => by
    unfold gap
    rw [hs, hc]
    grind
  rw [← hs, ← hc] at hf
  rw [← hs] at hS
  have hm := Int.fmod_def c s
  rw [← hf] at hm
  obtain ⟨s', r', f, p1, p2, p3, p4, p5, p6, p7⟩ : ∃ (s' r' : Int) (f : Int → Int), 0 < s' ∧ 0 ≤ r' ∧ r' < s' ∧ f far = -r' ∧ f (far + 1) = s' - r' ∧ (∀ a b, a < b → f a + s' ≤ f b) ∧ ∀ k, (gap lo A S D n d (lo + k)).natAbs = (f k).natAbs := by
    rcases Int.lt_or_gt_of_ne hS with h | h
    · have a1 := Int.fmod_nonneg_of_pos (-c) (b := -s) (by omega)
      have a2 := Int.fmod_lt_of_pos (-c) (b := -s) (by omega)
      rw [Int.neg_fmod_neg] at a1 a2
      refine ⟨-s, -(c.fmod s), fun k => -(s * k - c), by omega, by omega, by omega, ?_, ?_, fun a b ab => ?_, fun k => ?_⟩
      · show -(s * far - c) = _
        omega
      · show -(s * (far + 1) - c) = _
        rw [Int.mul_add, Int.mul_one]
        omega
      · show -(s * a - c) + -s ≤ -(s * b - c)
        have : (-s) * 1 ≤ (-s) * (b - a) := Int.mul_le_mul_of_nonneg_left (by omega) (by omega)
        grind
      · rw [hg, Int.natAbs_neg]
    · have a1 := Int.fmod_nonneg_of_pos c h
      have a2 := Int.fmod_lt_of_pos c h
      refine ⟨s, c.fmod s, fun k => s * k - c, h, a1, a2, ?_, ?_, fun a b ab => ?_, fun k => by rw [hg]⟩
      · show s * far - c = _
        omega
      · show s * (far + 1) - c = _
        rw [Int.mul_add, Int.mul_one]
        omega
      · show s * a - c + s ≤ s * b - c
        have : s * 1 ≤ s * (b - a) := Int.mul_le_mul_of_nonneg_left (by omega) (by omega)
        grind
  have core := near_core (K := hi - lo) f p1 p2 p3 (by omega) p4 p5 p6
  have e : better g (better g lo (clampI lo hi (lo + far))) (clampI lo hi (lo + (far + 1))) = lo + better (fun k => (f k).natAbs) (better (fun k => (f k).natAbs) 0 (clampI 0 (hi - lo) far)) (clampI 0 (hi - lo) (far + 1)) := by
    have e0 : better g lo (clampI lo hi (lo + far)) = lo + better (fun k => (f k).natAbs) 0 (clampI 0 (hi - lo) far) := by
      rw [clamp_move, show better g lo (lo + clampI 0 (hi - lo) far) = better g (lo + 0) (lo + clampI 0 (hi - lo) far) from by rw [Int.add_zero], better_move, better_congr p7]
    rw [e0, clamp_move, better_move, better_congr p7]
  rw [e]
  simp only at core
  obtain ⟨c1, c2, c3, c4⟩ := core
  generalize better (fun k => (f k).natAbs) (better (fun k => (f k).natAbs) 0 (clampI 0 (hi - lo) far)) (clampI 0 (hi - lo) (far + 1)) = b at *
  refine ⟨by omega, by omega, fun w w0 w1 => ?_, fun w w0 w1 => ?_⟩
  · have := c3 (w - lo) (by omega) (by omega)
    rw [p7, show w = lo + (w - lo) by omega, p7]
    exact this
  · have := c4 (w - lo) (by omega) (by omega)
    rw [p7, show w = lo + (w - lo) by omega, p7]
    exact this
theorem near_flat {lo hi A D n d : Int} (hl : lo ≤ hi) : IsNear lo hi A 0 D n d lo := by
  have e : ∀ z, gap lo A 0 D n d z = A * d - n * D := fun z => by
    unfold gap
    rw [Int.zero_mul, Int.add_zero]
  exact ⟨Int.le_refl _, hl, fun w _ _ => by rw [e, e]; exact Nat.le_refl _, fun w _ _ => by omega⟩
theorem fdiv_mulP {k c e : Int} (hk : 0 < k) (he : e ≠ 0) : (k * c).fdiv (k * e) = c.fdiv e := by
  have pos : ∀ {c e : Int}, 0 < e → (k * c).fdiv (k * e) = c.fdiv e := fun {c e} he => by
    rw [Int.fdiv_eq_ediv_of_nonneg _ (Int.le_of_lt (Int.mul_pos hk he)), Int.fdiv_eq_ediv_of_nonneg _ (Int.le_of_lt he)]
    exact Int.mul_ediv_mul_of_pos c e hk
  rcases Int.lt_or_gt_of_ne he with h | h
  · rw [← Int.neg_fdiv_neg (k * c), ← Int.mul_neg, ← Int.mul_neg, pos (by omega), Int.neg_fdiv_neg]
  · exact pos h
theorem fdiv_terms {x y a b : Int} (hy : y ≠ 0) (hb : b ≠ 0) (h : x * b = y * a) : x.fdiv y = a.fdiv b := by
  have key : ∀ (k c e : Int), k ≠ 0 → e ≠ 0 → (k * c).fdiv (k * e) = c.fdiv e := fun k c e hk he => by
    rcases Int.lt_or_gt_of_ne hk with h | h
    · rw [← Int.neg_fdiv_neg, ← Int.neg_mul, ← Int.neg_mul]
      exact fdiv_mulP (by omega) he
    · exact fdiv_mulP h he
  have h1 := key b x y hb hy
  have h2 := key y a b hy hb
  rw [← h1, Int.mul_comm b x, Int.mul_comm b y, h, h2]
end L2.RL
end
section
set_option Elab.async false
set_option linter.all false
set_option maxRecDepth 100000
/-! lists that grow; enumerate from a number; a comprehension over range -/
namespace L2.RL
open PySem PySem.Spec PyProof.Rows
section
variable {K : PySem.W.Frag} {σ : St} {H : Hp} {Q : VK} {D : Ends}
theorem w_cat {a b : Addr} {xs ys : List V} (ha : H a = some (.lst xs)) (hb : H b = some (.lst ys)) (hl : xs.length + ys.length ≤ 100000) (h : ∀ p H', H p = none → Same H H' → H' p = some (.lst (xs ++ ys)) → Q (.ref p) H') : rCat (.ref a) (.ref b) H Q :=
  ⟨a, b, xs, ys, rfl, rfl, ha, hb, Nat.le_trans hl (by decide), fun p e => h p _ e (same_upd e) upd_same⟩
theorem w_append {a : Addr} {xs : List V} {y : V} (ha : H a = some (.lst xs)) (hl : xs.length < 100000) (h : Q .non (upd H a (.lst (xs ++ [y])))) : rAppend (.ref a) [y] H Q := ⟨a, xs, y, rfl, rfl, ha, Nat.lt_of_lt_of_le hl (by decide), h⟩
theorem w_enS {ta tk : TA} {R : It → Hp → Prop} (h : ta σ H fun vs H1 => tk σ H1 fun zs H2 => ∃ (a : Addr) (ys : List V) (k : Int), vs = [.ref a] ∧ zs = [.int k] ∧ SqL K H2 a ys ∧ (-(2 ^ 63) ≤ k ∧ k < 2 ^ 63) ∧ R (ItEn K a k) H2) : iEnS K ta tk σ H R := h
theorem w_bm {T : String} {r : V → List V → Hp → VK → Prop} {to : TE} {t : TA} (h : to σ H fun x H1 => tyV K T x H1 ∧ t σ H1 fun xs H2 => r x xs H2 Q) : tBM K T r to t σ H Q := h
theorem w_tyL {a : Addr} {xs : List V} {A : Prop} (hs : SqL K H a xs) (h : A) : tyV K "list" (.ref a) H ∧ A := ⟨.inl ⟨rfl, xs, hs⟩, h⟩
theorem w_forE {a : Addr} {k : Int} {xs : List V} {g : TG} {tb : TS} (I : Nat → St → Hp → Prop) (hs : ∀ i σ H, I i σ H → SqL K H a xs) (h0 : I 0 σ H)
    (h : ∀ i x σ H T H', xs[i]? = some x → I i σ H → H T = none → Same H H' → H' T = some (.tup [.int (k + (i : Nat)), x]) → g (.ref T) σ H' fun σ2 H2 => tb { D with nx := fun σ' H' => I (i + 1) σ' H', ct := fun σ' H' => I (i + 1) σ' H', bk := D.nx } σ2 H2)
    (hz : ∀ σ H, I xs.length σ H → D.nx σ H) :
    ∃ W : Nat → Nat → St → Hp → Prop, (∃ m, W 0 m σ H) ∧ ∀ i m σ H, W i m σ H →
      ((ItEn K a k).stop i H ∧ D.nx σ H) ∨ ((ItEn K a k).go i H ∧ ∃ N : St → Hp → Prop, (∀ σ' H', N σ' H' → ∃ m', m' < m ∧ W (i + 1) m' σ' H') ∧ ∀ x H', (ItEn K a k).yld i H x H' → g x σ H' fun σ2 H2 => tb { D with nx := N, ct := N, bk := D.nx } σ2 H2) :=
  w_forI xs.length I h0 (fun i σ H hi hI => by
    have q := hs i σ H hI
    refine ⟨⟨xs, xs[i], q, List.getElem?_eq_getElem hi⟩, fun v H' ⟨T, x, e1, n, e2, e3⟩ => ?_⟩
    subst e1 e2
    exact h i x σ H T _ (e3 xs q) hI n (same_upd n) upd_same) (fun σ H hI => ⟨⟨xs, hs _ σ H hI, Nat.le_refl _⟩, hz σ H hI⟩)
theorem w_lcR {lo : Int} {g : TG} {tt : TT} {te : TE} {vs : List Nat} {R : Addr → Hp → Prop} (n : Nat) (I : Nat → List V → Hp → Prop) (h0 : ∀ L, H L = none → I 0 [] (upd H L (.lst [])))
    (h : ∀ L i acc H2, H L = none → i < n → H2 L = some (.lst acc) → acc.length ≤ i → I i acc H2 → g (.int (lo + (i : Nat))) (wipe σ vs) H2 fun σ2 H2 => wipe σ2 vs = wipe σ vs ∧ tt σ2 H2 fun b H3 =>
      if b = true then te σ2 H3 fun y H4 => ∃ acc, H4 L = some (.lst acc) ∧ acc.length < sizeLine ∧ LcN L (i + 1) I (upd H4 L (.lst (acc ++ [y]))) else LcN L (i + 1) I H3)
    (hz : ∀ L acc H2, H L = none → H2 L = some (.lst acc) → I n acc H2 → R L H2) :
    ∀ L, H L = none → ∃ W : Nat → Nat → Hp → Prop, (∃ m, W 0 m (upd H L (.lst []))) ∧ ∀ i m H, W i m H →
      ((Itr lo n).stop i H ∧ R L H) ∨ ((Itr lo n).go i H ∧ ∃ Nx : Hp → Prop, (∀ H', Nx H' → ∃ m', m' < m ∧ W (i + 1) m' H') ∧ ∀ x H', (Itr lo n).yld i H x H' → g x (wipe σ vs) H' fun σ2 H2 => wipe σ2 vs = wipe σ vs ∧ tt σ2 H2 fun b H3 =>
        if b = true then te σ2 H3 fun y H4 => ∃ acc, H4 L = some (.lst acc) ∧ acc.length < sizeLine ∧ Nx (upd H4 L (.lst (acc ++ [y]))) else Nx H3) :=
  w_lcI n I h0 (fun L i acc H2 a1 a2 a3 a4 a5 => ⟨a2, fun x H' ⟨e1, e2⟩ => by subst e1 e2; exact h L i acc _ a1 a2 a3 a4 a5⟩) (fun L acc H2 a1 a2 a3 => ⟨Nat.le_refl n, hz L acc H2 a1 a2 a3⟩)
end
end L2.RL
end
section
set_option Elab.async false
set_option linter.all false
set_option maxRecDepth 100000
/-! == and != of numbers and pairs; lowest terms are one's own; nearest by hand -/
namespace L2.RL
open PySem PySem.Spec PyProof.Rows
section
variable {K : PySem.W.Frag} {H : Hp} {Q : VK}
theorem eqv_pair (a b c d : Int) : PyData.eqv (.tuple [.int a, .int b]) (.tuple [.int c, .int d]) = decide (a = c ∧ b = d) := by
  show (a == c && (b == d && true)) = _
  by_cases h : a = c <;> by_cases g : b = d <;> simp [h, g]
theorem dp_pair {p : Addr} {a b : Int} (h : SqT K H p [.int a, .int b]) : Dp K H (.ref p) (.tuple [.int a, .int b]) := .tup h (.cons (.int a) (.cons (.int b) .nil))
theorem w_eqP {p q : Addr} {a b c d : Int} (hp : SqT K H p [.int a, .int b]) (hq : SqT K H q [.int c, .int d]) (h : Q (.bl (decide (a = c ∧ b = d))) H) : rEqD K (.ref p) (.ref q) H Q :=
  ⟨_, _, dp_pair hp, dp_pair hq, rfl, rfl, by rw [eqv_pair]; exact h⟩
theorem w_neP {p q : Addr} {a b c d : Int} (hp : SqT K H p [.int a, .int b]) (hq : SqT K H q [.int c, .int d]) (h : Q (.bl (!decide (a = c ∧ b = d))) H) : rNeD K (.ref p) (.ref q) H Q :=
  ⟨_, _, dp_pair hp, dp_pair hq, rfl, rfl, by rw [eqv_pair]; exact h⟩
theorem eqv_int (a b : Int) : PyData.eqv (.int a) (.int b) = decide (a = b) := by
  show (a == b) = _
  by_cases h : a = b <;> simp [h]
theorem w_eqDI {a b : Int} (h : Q (.bl (decide (a = b))) H) : rEqD K (.int a) (.int b) H Q := ⟨_, _, .int a, .int b, rfl, rfl, by rw [eqv_int]; exact h⟩
theorem w_neDI {a b : Int} (h : Q (.bl (!decide (a = b))) H) : rNeD K (.int a) (.int b) H Q := ⟨_, _, .int a, .int b, rfl, rfl, by rw [eqv_int]; exact h⟩
end
theorem near_by {lo hi A S D n d z v c k m : Int} (h : IsNear lo hi A S D n d z) (hc : c ≠ 0) (e : ∀ x, gap lo A S D n d x = c * (k * (x - v) - m)) :
    (∀ w, lo ≤ w → w ≤ hi → (k * (z - v) - m).natAbs ≤ (k * (w - v) - m).natAbs) ∧ ∀ w, lo ≤ w → w < z → (k * (z - v) - m).natAbs < (k * (w - v) - m).natAbs := by
  have p : 0 < c.natAbs := by omega
  refine ⟨fun w w0 w1 => ?_, fun w w0 w1 => ?_⟩
  · have := h.least w w0 w1
    rw [e, e, Int.natAbs_mul, Int.natAbs_mul] at this
    exact Nat.le_of_mul_le_mul_left this p
  · have := h.first w w0 w1
    rw [e, e, Int.natAbs_mul, Int.natAbs_mul] at this
    exact Nat.lt_of_mul_lt_mul_left this
end L2.RL
end
section
set_option Elab.async false
set_option linter.all false
set_option maxRecDepth 100000
set_option maxHeartbeats 4000000
/-! own exceptions right under any built-in error class, their __init__ walked as a def -/
namespace PySem
namespace RLX
open PySem.W PySem.Calls PyProof.Rows PySem.HandSPX
section
open Builtin Builtin.ObjectAttr
variable {prog : Program} {w : World} {A : Around} {R : Result → Shared → Prop} {hp : Heap} {gn : Array GenState} {dr : Drawn} {tt : Nat} {os : OsState}
variable {K : W.Frag} {B : String} {bm : List Value} {f : Str} {tk : Tok} {y : Value} {e C : Addr} {fv : Array Value} {cd : ClassData}
theorem ahead (S : StoreFacts B bm "object.__setattr__" "object") (X : K.In hp) {od : Option Addr} {oo : Option Obj} (I : W.InstAt hp e { cls := .ref C, dict := od, data := .fields fv } C oo) (hcd : W.clsIn K C = some cd) (hm : cd.mro = .ref C :: bm) (ha : W.findIn K (.ref C) f = some none)
    (h : wpAny (model prog w) A.in1 (storeInOwnDict (.ref e) (.ref C) (.str f tk) f y false)
      (fun fin s' => match fin with | .done z => R (.ok z) s' | .again c' => c'.quiet = true ∧ codeAny (model prog w) A c' R s') (fun x s' => R (.error x) s') ⟨hp, gn, dr, tt, os⟩) :
    codeAny (model prog w) A (.call (.builtin "object.__setattr__") ⟨[.ref e, .str f tk, y], []⟩) R ⟨hp, gn, dr, tt, os⟩ := by
  have SF := F.store_object
  have n0 : cd.mro.isEmpty = false := by rw [hm]; rfl
  have n1 : cd.mro.contains (.type "object") = true := by
    rw [hm, List.contains_cons, S.hasOwner, Bool.or_true]
  have q1 : W.Looks (model prog w) hp (isInstance (.ref e) (.type "object")) true :=
    I.type.andThen (W.looks_mroIn X (by unfold W.mroIn; rw [hcd, Option.bind_some, if_neg (by rw [n0]; exact Bool.false_ne_true), n1]))
  have q2 : W.Looks (model prog w) hp (mroOf (.ref C)) cd.mro := (W.looks_clsIn X hcd).andThen .now
  have q3 : W.Looks (model prog w) hp (storeTaker? none) none := .now
  refine codeAny_call_builtin SF.slot.plain SF.entry (@W.check_slot (model prog w) _ _ ⟨hp, gn, dr, tt, os⟩ "object.__setattr__" "object" "__setattr__" (.ref e) [.str f tk, y] [] _ SF.kind SF.split q1 (SF.args (.ref e) (.str f tk) y) ?_)
  rw [W.osa_eq, refuse_eq]
  refine wpAny_bind (wpAny_bind (I.type.at (wpAny_bind (q2.at ?_))))
  rw [hm, refuseLoop_ref, S.passes]
  exact wpAny_pure (wpAny_bind (I.type.at (wpAny_bind ((W.looks_findIn X ha).at (wpAny_bind (q3.at h))))))
theorem store1 (S : StoreFacts B bm "object.__setattr__" "object") (X : K.In hp) (hx : hp.get? e = some { cls := .ref C, data := .fields fv }) (hcd : W.clsIn K C = some cd) (hm : cd.mro = .ref C :: bm) (hh : cd.hasDict = true) (ha : W.findIn K (.ref C) f = some none)
    (hq : ∀ h' tk' dx, (∀ b o, b ≠ e → hp.get? b = some o → h'.get? b = some o) → hp.objs.size ≤ dx → dx ≠ e → h'.get? e = some { cls := .ref C, dict := some dx, data := .fields fv } →
      h'.Ns1 dx (fun z => if z = f then some y else none) → R (.ok (.ret .none)) ⟨h', gn, dr, tk', os⟩) :
    codeAny (model prog w) A (.call (.builtin "object.__setattr__") ⟨[.ref e, .str f tk, y], []⟩) R ⟨hp, gn, dr, tt, os⟩ := by
  have ne : e ≠ hp.objs.size := Nat.ne_of_lt (Heap.lt_size hx)
  have q0 : W.Looks (model prog w) hp (classData C) cd := W.looks_clsIn X hcd
  refine ahead S X (od := none) (oo := none) ⟨hx, rfl, rfl, trivial⟩ hcd hm ha ?_
  obtain ⟨nm, bs, mro, ns, qn, hd, sn, sb, ab, col, del⟩ := cd
  obtain rfl : hd = true := hh
  unfold storeInOwnDict ownDictForStores
  repeat (first | with_reducible refine store_in_new ?_ ?_ | with_reducible refine wpAny_loadPart_at hx ?_ | with_reducible refine q0.at ?_ | wp_step)
  · exact ⟨_, #[], _, (Heap.get?_update_ne _ _ _ _ (Ne.symm ne)).trans (Heap.get?_push_at rfl rfl), rfl, fun z hz => absurd hz (by simp), fun _ => rfl⟩
  intro h' tk' hn hs
  have h1 : (hp.push { cls := .type "dict", data := .dict #[] }).get? e = some { cls := .ref C, data := .fields fv } := Heap.get?_push_of_some _ hx
  refine hq h' tk' hp.objs.size (fun b o hb ho => ?_) (Nat.le_refl _) (Ne.symm ne) ((hs.2 e ne).trans (Heap.get?_update_self _ h1 rfl)) hn
  have nb : b ≠ hp.objs.size := Nat.ne_of_lt (Heap.lt_size ho)
  exact (hs.2 b nb).trans ((Heap.get?_update_ne _ _ _ _ hb).trans (Heap.get?_push_of_some _ ho))
theorem store2 {dx : Addr} {m0 : Str → Option Value} {nl : List Str} (S : StoreFacts B bm "object.__setattr__" "object") (X : K.In hp) (hx : hp.get? e = some { cls := .ref C, dict := some dx, data := .fields fv }) (hns : hp.Ns1 dx m0) (hw : Within m0 nl) (hz : nl.length ≤ 1000)
    (hcd : W.clsIn K C = some cd) (hm : cd.mro = .ref C :: bm) (hh : cd.hasDict = true) (ha : W.findIn K (.ref C) f = some none)
    (hq : ∀ h' tk', (∀ b o, b ≠ dx → hp.get? b = some o → h'.get? b = some o) → h'.Ns1 dx (fun z => if z = f then some y else m0 z) → R (.ok (.ret .none)) ⟨h', gn, dr, tk', os⟩) :
    codeAny (model prog w) A (.call (.builtin "object.__setattr__") ⟨[.ref e, .str f tk, y], []⟩) R ⟨hp, gn, dr, tt, os⟩ := by
  obtain ⟨od, _, _, g1, _, _⟩ := hns.count hw
  have q0 : W.Looks (model prog w) hp (classData C) cd := W.looks_clsIn X hcd
  refine ahead S X (od := some dx) (oo := some od) ⟨hx, rfl, rfl, g1⟩ hcd hm ha ?_
  obtain ⟨nm, bs, mro, ns, qn, hd, sn, sb, ab, col, del⟩ := cd
  obtain rfl : hd = true := hh
  unfold storeInOwnDict ownDictForStores
  repeat (first | with_reducible refine PySem.OEX.store_in_old hns hw hz ?_ | with_reducible refine wpAny_loadPart_at hx ?_ | with_reducible refine q0.at ?_ | wp_step)
  intro h' tk' hn hs
  exact hq h' tk' (fun b o nb ho => (hs.2 b nb).trans ho) hn
end
end RLX
end PySem
end
section
set_option Elab.async false
set_option linter.all false
set_option maxRecDepth 100000
set_option maxHeartbeats 4000000
/-! .. as rules of the hand layer -/
namespace L2.RL
open PySem PySem.Spec PyProof.Rows
structure ErrB (B newId initId : String) (bm : List Value) : Prop where
  st : StoreFacts B bm "object.__setattr__" "object"
  ex : ExcBaseFacts B newId initId bm
  boot : bootBuiltins (Str.ofString B) = some (.type B)
  ty : typeOf (.type B) = pure (.type "type")
  stub : Manifest.isStub B = false
  nn : Str.ofString B ≠ "__name__"
  nd : (Str.ofString B == ("__debug__" : Str)) = false
  hand : PySem.W.handedIn (.builtin initId) = true
abbrev bmV : List Value := [.type "ValueError", .type "Exception", .type "BaseException", .type "object"]
abbrev bmT : List Value := [.type "TypeError", .type "Exception", .type "BaseException", .type "object"]
abbrev bmL : List Value := [.type "LookupError", .type "Exception", .type "BaseException", .type "object"]
abbrev bmA : List Value := [.type "ArithmeticError", .type "Exception", .type "BaseException", .type "object"]
abbrev bmO : List Value := [.type "OverflowError", .type "ArithmeticError", .type "Exception", .type "BaseException", .type "object"]
theorem errV : ErrB "ValueError" "ValueError.__new__" "ValueError.__init__" bmV := ⟨F.store_ValueError, F.excBase_ValueError, Boot.«ValueError», by kernel_rfl, by decide +kernel, by decide, by decide, by decide +kernel⟩
theorem errT : ErrB "TypeError" "TypeError.__new__" "TypeError.__init__" bmT := ⟨F.store_TypeError, F.excBase_TypeError, Boot.«TypeError», by kernel_rfl, by decide +kernel, by decide, by decide, by decide +kernel⟩
theorem errL : ErrB "LookupError" "LookupError.__new__" "LookupError.__init__" bmL := ⟨F.store_LookupError, F.excBase_LookupError, Boot.«LookupError», by kernel_rfl, by decide +kernel, by decide, by decide, by decide +kernel⟩
theorem errA : ErrB "ArithmeticError" "ArithmeticError.__new__" "ArithmeticError.__init__" bmA := ⟨F.store_ArithmeticError, F.excBase_ArithmeticError, Boot.«ArithmeticError», by kernel_rfl, by decide +kernel, by decide, by decide, by decide +kernel⟩
theorem errO : ErrB "OverflowError" "OverflowError.__new__" "OverflowError.__init__" bmO := ⟨F.store_OverflowError, F.excBase_OverflowError, Boot.«OverflowError», by kernel_rfl, by decide +kernel, by decide, by decide, by decide +kernel⟩
structure OexB (K : PySem.W.Frag) (newId : String) (bm : List Value) (C : Addr) : Prop where
  cls : ∃ nm q N bs sn sub ab col dd k0 k1 k2 k3 k5, K.lookup C = some (excClassObj nm q C N bs bm true sn sub ab col dd k0 k1 k2 k3 k5 newId)
  sa : PySem.W.findIn K (.ref C) "__setattr__" = some (some (.builtin "object.__setattr__"))
  exC : PySem.W.subIn K (.ref C) (.type "BaseException") = some true
  tyC : PySem.W.typeIn K (.ref C) = some (.type "type")
  kC : PySem.W.keepIn K (.ref C) = true
def clsB (K : PySem.W.Frag) (newId : String) (bm : List Value) (C : Addr) : Bool := match K.lookup C with
  | some ⟨.type c, _, .cls cd, sl⟩ => (match cd.mro, sl.toList with
    | .ref D :: m, [_, _, _, _, some (.builtin n), _] => decide (c = "type") && (D == C && (m == bm && (n == newId && (cd.hasDict && !cd.hasDel))))
    | _, _ => false)
  | _ => false
theorem clsB_ok {K : PySem.W.Frag} {newId : String} {bm : List Value} {C : Addr} (h : clsB K newId bm C = true) : ∃ nm q N bs sn sub ab col dd k0 k1 k2 k3 k5, K.lookup C = some (excClassObj nm q C N bs bm true sn sub ab col dd k0 k1 k2 k3 k5 newId) := by
  unfold clsB at h
  split at h
  · rename_i c dd cd sl ho
    split at h
    · rename_i D m k0 k1 k2 k3 n k5 hm hs
      obtain ⟨h1, h⟩ := He.ba h
      obtain ⟨h2, h⟩ := He.ba h
      obtain ⟨h3, h⟩ := He.ba h
      obtain ⟨h4, h⟩ := He.ba h
      obtain ⟨h5, h6⟩ := He.ba h
      obtain rfl := of_decide_eq_true h1
      obtain rfl : D = C := by simpa using h2
      obtain rfl : m = bm := by simpa using h3
      obtain rfl : n = newId := by simpa using h4
      obtain ⟨nm, bs, mro, ns, qn, hd, sn, sub, ab, col, del⟩ := cd
      dsimp only at hm h5 h6
      subst hm h5
      obtain rfl : del = false := by simpa using h6
      obtain ⟨l⟩ := sl
      dsimp only at hs
      subst hs
      exact ⟨nm, qn, ns, bs, sn, sub, ab, col, dd, k0, k1, k2, k3, k5, ho⟩
    · cases h
  · cases h
def oexB (K : PySem.W.Frag) (newId : String) (bm : List Value) (C : Addr) : Bool := clsB K newId bm C && (decide (PySem.W.findIn K (.ref C) "__setattr__" = some (some (.builtin "object.__setattr__"))) && (decide (PySem.W.subIn K (.ref C) (.type "BaseException") = some true) && (decide (PySem.W.typeIn K (.ref C) = some (.type "type")) && PySem.W.keepIn K (.ref C))))
theorem oexB_ok {K : PySem.W.Frag} {newId : String} {bm : List Value} {C : Addr} (h : oexB K newId bm C = true) : OexB K newId bm C := by
  obtain ⟨h1, h⟩ := He.ba h
  obtain ⟨h2, h⟩ := He.ba h
  obtain ⟨h3, h⟩ := He.ba h
  obtain ⟨h4, h5⟩ := He.ba h
  exact ⟨clsB_ok h1, of_decide_eq_true h2, of_decide_eq_true h3, of_decide_eq_true h4, h5⟩
section
variable {X : Cx} {pins : List (Addr × Obj)} {σ : St} {H : Hp} {s : Shared} {a C dx : Addr} {f : Str} {y : V} {u : Value} {fs : List (Str × V)} {B newId initId : String} {bm : List Value}
theorem OexB.clsIn {K : PySem.W.Frag} (T : OexB K newId bm C) : ∃ cd, PySem.W.clsIn K C = some cd ∧ cd.mro = .ref C :: bm ∧ cd.hasDict = true := by
  obtain ⟨nm, q, N, bs, sn, sub, ab, col, dd, k0, k1, k2, k3, k5, h⟩ := T.cls
  exact ⟨_, by unfold PySem.W.clsIn; rw [h] <;> rfl, rfl, rfl⟩
theorem set_first {Q : Unit → Shared → Prop} {E : Value → Shared → Prop} {A : Around} (G : ErrB B newId initId bm) (T : OexB X.K newId bm C) (I : Inv X pins σ H s) (e : H a = some (exo a C none)) (hno : PySem.W.findIn X.K (.ref C) f = some none) (ry : RelV y u)
    (h : ∀ dx s', H dx = none → dx ≠ a → Inv X pins σ (upd (upd H dx (exd dx [(f, y)])) a (exo a C (some dx))) s' → Q () s') : wpAny (model X.prog X.w) A (setAttr (.ref a) f u) Q E s := by
  obtain ⟨cd, c1, c2, c3⟩ := T.clsIn
  obtain ⟨t1, ho⟩ := exo_at I.hok e
  obtain ⟨hp, g, d, t, os⟩ := s
  refine PySem.W.set_plain I.kIn (ox := { cls := .ref C, dict := none, data := .fields #[.ref t1, .none, .none, .none, .bool false, .none] }) (od := none) ⟨ho, rfl, rfl, trivial⟩ T.sa (PySem.RLX.store1 G.st I.kIn ho c1 c2 c3 hno fun h' tk' dx k dn dne hx hn => ?_)
  have n0 : H dx = none := I.hok.fresh dn
  have ndx : ∀ {b : Addr} {o : Obj}, hp.get? b = some o → b ≠ dx := fun {b o} q => Nat.ne_of_lt (Nat.lt_of_lt_of_le (Heap.lt_size q) dn)
  have na : ∀ {b : Addr}, H b = none → b ≠ a := fun {b} q => (ne_of_none e q).symm
  refine h dx _ n0 dne (I.un (t' := tk') ⟨fun b o q n _ _ => k b o (na n) q, fun b o q n _ _ => ⟨o.slots, k b o (na n) q⟩, fun b o q n _ => ?_, fun b o q _ => ?_, fun b xs q => ?_, fun b o v q => ?_, fun b ps q => ?_⟩ fun b o q => ?_)
  · rw [upd_ne (na n), upd_ne (ndx q), n]
  · by_cases hb : b = a
    · rw [hb]
      exact ⟨_, hx⟩
    · exact ⟨o, k b o hb q⟩
  · rw [upd_ne (at_ne e q exo_tup), upd_ne (ne_of_none q n0), q]
  · rw [upd_ne (at_ne e q exo_frz), upd_ne (ne_of_none q n0), q]
  · refine ⟨#[], ?_⟩
    rw [upd_ne (at_ne e q exo_tbl), upd_ne (ne_of_none q n0), q, Array.append_empty]
  · by_cases hb : b = a
    · subst hb
      rw [upd_same] at q
      cases q
      exact exo_ok hx
    rw [upd_ne hb] at q
    by_cases hd : b = dx
    · subst hd
      rw [upd_same] at q
      cases q
      exact exd_ok hn (relO_put (fs := []) ry fun _ => trivial)
    rw [upd_ne hd] at q
    refine (I.hok b o q).stay (fun c v hc z => k c v ?_ z) (fun c hc => ?_) fun c xs hc => ?_
    · rcases hc with hc | hc
      · rw [hc]; exact hb
      · exact at_ne e hc exo_own
    · rw [upd_ne (at_ne e hc exo_own), upd_ne (ne_of_none hc n0), hc]
    · rw [upd_ne (at_ne e hc exo_tup), upd_ne (ne_of_none hc n0), hc]
theorem set_more {Q : Unit → Shared → Prop} {E : Value → Shared → Prop} {A : Around} (G : ErrB B newId initId bm) (T : OexB X.K newId bm C) (I : Inv X pins σ H s) (e : H a = some (exo a C (some dx))) (ed : H dx = some (exd dx fs)) (hl : fs.length ≤ 900) (hno : PySem.W.findIn X.K (.ref C) f = some none) (ry : RelV y u)
    (h : ∀ s', Inv X pins σ (upd H dx (exd dx ((f, y) :: fs))) s' → Q () s') : wpAny (model X.prog X.w) A (setAttr (.ref a) f u) Q E s := by
  obtain ⟨cd, c1, c2, c3⟩ := T.clsIn
  obtain ⟨t1, ho⟩ := exo_at I.hok e
  obtain ⟨mA, hns, rel⟩ := exd_at I.hok ed
  have hw := within_of rel
  obtain ⟨hp, g, d, t, os⟩ := s
  obtain ⟨oD, _, _, hoD, _, _⟩ := hns.count hw
  refine PySem.W.set_plain I.kIn (ox := { cls := .ref C, dict := some dx, data := .fields #[.ref t1, .none, .none, .none, .bool false, .none] }) (od := some oD) ⟨ho, rfl, rfl, hoD⟩ T.sa
    (PySem.RLX.store2 G.st I.kIn ho hns hw (by rw [List.length_map]; omega) c1 c2 c3 hno fun h' tk' k hn => ?_)
  obtain ⟨o1, es1, ep1, g1, g2⟩ := hn
  exact h _ (I.write (t' := tk') (x := dx) (e := dx) (o := exd dx ((f, y) :: fs)) (by rw [ed]; trivial) (.inl rfl) k ⟨o1, g1⟩ (exd_ok ⟨o1, es1, ep1, g1, g2⟩ (relO_put ry rel)))
theorem base_init {us : List Value} {Q : Value → Shared → Prop} {E : Value → Shared → Prop} {A : Around} (G : ErrB B newId initId bm) (T : OexB X.K newId bm C) (I : Inv X pins σ H s) (e : H a = some (exo a C none)) (hl : us.length ≤ sizeLine) (h : ∀ s', Inv X pins σ H s' → Q .none s') :
    wpAny (model X.prog X.w) A (call (.builtin initId) (.ref a :: us)) Q E s := by
  obtain ⟨nm, q, N, bs, sn, sub, ab, col, dd, k0, k1, k2, k3, k5, hC⟩ := T.cls
  obtain ⟨t1, ho⟩ := exo_at I.hok e
  obtain ⟨hp, g, d, t, os⟩ := s
  refine wpAny_call (PySem.HandSPX.init_base G.ex (fun _ => rfl) (I.kIn _ _ hC) ho hl fun h' t2 k hx => ?_)
  have J := I.write (t' := t) (x := a) (e := a) (o := exo a C none) (by rw [e]; trivial) (.inl rfl) k ⟨_, hx⟩ (exo_ok hx)
  have eu : upd H a (exo a C none) = H := funext fun b => by
    by_cases hb : b = a
    · rw [hb, upd_same, e]
    · exact upd_ne hb
  rw [eu] at J
  exact h _ J
end
end L2.RL
end
section
set_option Elab.async false
set_option linter.all false
set_option maxRecDepth 100000
set_option maxHeartbeats 4000000
/-! the rules: B.__init__(self, ..), self.f = e, C(e, ..), isinstance of the caught error -/
namespace L2.RL
open PySem PySem.Spec PyProof.Rows
def tBI (K : PySem.W.Frag) (newId : String) (bm : List Value) (ta : TA) : TE := fun σ H Q => ta σ H fun vs H1 => ∃ (a C : Addr) (ws : List V), vs = .ref a :: ws ∧ ws.length ≤ 1000 ∧ OexB K newId bm C ∧ H1 a = some (exo a C none) ∧ Q .non H1
def tSetB (K : PySem.W.Frag) (newId : String) (bm : List Value) (f : Str) (to te : TE) : TS := fun D σ H => te σ H fun y H1 => to σ H1 fun x H2 => ∃ a C : Addr, x = .ref a ∧ OexB K newId bm C ∧ PySem.W.findIn K (.ref C) f = some none ∧
  ((H2 a = some (exo a C none) ∧ ∀ dx, H2 dx = none → dx ≠ a → D.nx σ (upd (upd H2 dx (exd dx [(f, y)])) a (exo a C (some dx)))) ∨
    ∃ (dx : Addr) (fs : List (Str × V)), H2 a = some (exo a C (some dx)) ∧ H2 dx = some (exd dx fs) ∧ fs.length ≤ 900 ∧ D.nx σ (upd H2 dx (exd dx ((f, y) :: fs))))
section
variable {X : Cx} {o e : Expr} {es : List Expr} {to te : TE} {ta : TA} {f : Str} {p p' p1 p2 pos : Pos} {B newId initId : String} {bm : List Value}
theorem pe_binit {nm : Str} {pl : Sem Bool} (G : ErrB B newId initId bm) (en : Str.ofString B = nm) (hg : Gl X nm) (hm : X.mg nm = none) (vV : PySem.W.findCls X.K (.type B) (.type "type") "__init__" = some (.val (.builtin initId))) (ha : PA X (e :: es) ta)
    (hc : eval (.Call (.Attribute (.Name nm p1) "__init__" p2) (e :: es) [] pos) X.env = (do
      let ov ← eval (.Name nm p1) X.env
      standAt p2.atName
      let (f, first) ← holding [ov] (getMethod ov "__init__" pl)
      callWith pos f first (backTo pos (starEach (e :: es) X.env)) (backToKw pos (keywordEach [] X.env))) := by rfl)
    (he : starEach (e :: es) X.env = (false, eval e X.env) :: starEach es X.env := by rfl) (hpl : (backTo pos (starEach es X.env)).any (·.1) = false := by rfl) :
    PE X (.Call (.Attribute (.Name nm p1) "__init__" p2) (e :: es) [] pos) (tBI X.K newId bm ta) := by
  subst en
  refine ⟨fun pins s σ H Q I h => PySem.W.methodCall_KW (ld_blt I hg hm G.boot ?_ G.nn G.nd) hc⟩
  obtain ⟨m, fr⟩ := I.fr
  refine PySem.W.method_type fr I.ok.mod.kin G.ty G.stub vV G.hand ?_
  refine PyProof.Rows.callWith_method1 (thn (ha.run pos pins _ σ H _ (I.tok _) h) fun us s1 ⟨vs, H1, I1, r1, a, C, ws, ev, hl, T, ea, q⟩ => ?_) he hpl
  subst ev
  cases r1 with
  | @cons _ u0 _ ur ra rw' =>
    obtain rfl : u0 = Value.ref a := ra
    have hlen : ur.length ≤ sizeLine := by rw [← Paired.length rw', sizeLine_eq]; omega
    exact base_init G T I1 ea hlen fun s' J => ⟨.non, H1, J, rfl, q⟩
theorem ps_setB (G : ErrB B newId initId bm) (ho : PE X o to) (he : PE X e te) (hs : swapsWith e (some (.Attribute o f p')) pos.line X.env = pure false := by rfl) : PS X (.Assign [.Attribute o f p'] e pos) (tSetB X.K newId bm f to te) := by
  refine ⟨fun pins s σ H D I h => plainObj_wpAny_Assign_Attribute (thn (he.run pins s σ H _ I h) fun v s1 ⟨y, H1, I1, r1, q1⟩ => thn (ho.run pins s1 σ H1 _ I1 q1) fun u s2 ⟨x, H2, I2, r2, a, C, ex, T, hno, q⟩ => ?_) hs⟩
  subst ex
  obtain rfl : u = Value.ref a := r2
  rcases q with ⟨ea, q⟩ | ⟨dx, fs, ea, ed, hl, q⟩
  · exact set_first G T I2 ea hno r1 fun dx s' n ne J => ⟨σ, _, J, q dx n ne⟩
  · exact set_more G T I2 ea ed hl hno r1 fun s' J => ⟨σ, _, J, q⟩
theorem pmk_oexB {CX : CXT} {x : Str} {C fI : Addr} {k : Nat} {fd : FuncData} {ps : List Str} {sp : Sp} {ds : List Value} {dvs : List V} (G : ErrB B newId initId bm) (T : OexB X.K newId bm C) (iC : PySem.W.findIn X.K (.ref C) "__init__" = some (some (.ref fI))) (tI : PySem.W.typeIn X.K (.ref fI) = some (.type "function"))
    (F1 : FnOk X.prog X.w X.K X.mg X.base CX k fI fd ps sp) (hr : Room (k + 1) X.A) (hb : Binds X.K fd ps ds) (hd : Vals dvs ds) (hx : Passes CX X (fun _ _ _ => False)) (hg : Gl X x) (hm : X.mg x = some (.ref C)) (ha : PA X (e :: es) ta)
    (hdb : (x == ("__debug__" : Str)) = false := by decide) (he : starEach (e :: es) X.env = (false, eval e X.env) :: starEach es X.env := by rfl) (hpl : (backTo pos (starEach es X.env)).any (·.1) = false := by rfl) :
    PMk X (.Call (.Name x p) (e :: es) [] pos) (tMkO C sp dvs ta) := by
  intro pins s σ H Q I h
  obtain ⟨nm, q, N, bs, sn, sub, ab, col, dd, k0, k1, k2, k3, k5, hC⟩ := T.cls
  refine wpAny_Call_Name_kw (ld_glob I hg hm (PySem.W.callWith_K (h₀ := X.base) I.ok.mod.kin T.kC (thn (ha.run pos pins s σ H _ I h) fun us s1 ⟨vs, H1, I1, r1, hz, q1⟩ => ⟨I1.kIn, ?_⟩) he hpl) hdb)
  change wpAny _ _ (call (.ref C) us) _ _ _
  obtain ⟨hp, g, dr, tk, os⟩ := s1
  have sz1 : hp.objs.size ≤ hp.objs.size + 1 := Nat.le_succ _
  have n1 : H1 (hp.objs.size + 1) = none := I1.hok.fresh sz1
  have hq := q1 (hp.objs.size + 1) n1
  have kk : ∀ b o, hp.get? b = some o → ((hp.push (PySem.W.kdv_tup us)).push (PySem.HandSPX.excO C hp.objs.size)).get? b = some o := fun b o z => Heap.get?_push_of_some _ (Heap.get?_push_of_some _ z)
  have at1 : ((hp.push (PySem.W.kdv_tup us)).push (PySem.HandSPX.excO C hp.objs.size)).get? (hp.objs.size + 1) = some (PySem.HandSPX.excO C hp.objs.size) := by heap_get
  have I2 : Inv X pins σ (upd H1 (hp.objs.size + 1) (exo (hp.objs.size + 1) C none)) ⟨(hp.push (PySem.W.kdv_tup us)).push (PySem.HandSPX.excO C hp.objs.size), g, dr, tk, os⟩ := I1.laid (t' := tk) (h' := (hp.push (PySem.W.kdv_tup us)).push (PySem.HandSPX.excO C hp.objs.size)) kk sz1 (exo_ok at1)
  have r2 : Vals (V.ref (hp.objs.size + 1) :: (vs ++ dvs)) (Value.ref (hp.objs.size + 1) :: (us ++ ds)) := .cons rfl (r1.append hd)
  have hl : (Value.ref (hp.objs.size + 1) :: us ++ ds).length = ps.length := (r2.length.symm.trans (F1.len _ _ _ _ hq))
  have hus : us.length ≤ sizeLine := by rw [← Paired.length r1, sizeLine_eq]; omega
  refine wpAny_call (PySem.HandSPX.call_own G.ex (fun _ => rfl) (I1.kIn _ _ hC) (PySem.W.looks_findIn I1.kIn iC) (fun self => PySem.W.bind_fn I1.kIn self tI) hus
    (codeAny_mono (F1.run _ X.stack _ _ ⟨Value.ref (hp.objs.size + 1) :: us, []⟩ (Value.ref (hp.objs.size + 1) :: (us ++ ds)) _ _ (fun _ _ _ => False) (hr.make C us []) (I2.env0.make C us []) (hb _ (Value.ref (hp.objs.size + 1) :: us) I2.kIn hl) r2 hq) fun r s' z => ?_))
  cases r with
  | error er => exact hx pins σ _ _ er s' I2 z
  | ok fl =>
    cases fl with
    | ret u =>
      obtain ⟨v, H2, os2, bare2, un2, hok2, rv, ev, d, fs, ea, ed, hd1, q2⟩ := z
      subst ev
      obtain ⟨h2, g2, d2, t2, os'⟩ := s'
      exact ⟨rv, mk_end (raises_own T.exC T.tyC) I1 sz1 kk un2 hok2 os2 bare2 ea ed hd1 q2⟩
    | next => exact False.elim z
    | brk => exact False.elim z
    | cont => exact False.elim z
end
def rIsX (K : PySem.W.Frag) (a : Addr) (cls : Value) (d : Option Addr) (D : Addr) : List V → Hp → VK → Prop := fun xs H Q => ∃ (c : V) (cv : Value) (b : Bool) (dd : Addr) (fs : List (Str × V)), xs = [.ref a, c] ∧ cls = .ref D ∧ d = some dd ∧ H dd = some (.xd fs) ∧ (∀ u, RelV c u → u = cv) ∧ PySem.W.kitOne K (.ref D) cv = some b ∧ Q (.bl b) H
theorem call_isX {X : Cx} {a D : Addr} {oe : Obj} {cls : Value} {d : Option Addr} {pn : List (Addr × Obj)} (C : ExcC X.K D) (hz : Zc cls d oe) (hf : ∃ vs, oe.data = .fields vs) : CallR (X.suite a ((a, oe) :: pn)) (.builtin "isinstance") (rIsX X.K a cls d D) := by
  intro pins s σ H xs us Q I r h
  obtain ⟨c, cv, b, dd, fs, rfl, rfl, rfl, ea, hcv, ek, q⟩ := h
  obtain ⟨u1, u2, rfl, ra, rc⟩ := vals2 r
  obtain rfl : u1 = Value.ref a := ra
  have e2 := hcv _ rc
  subst e2
  obtain ⟨g1, _⟩ := I.pin (a, oe) (List.mem_append_left _ List.mem_cons_self)
  obtain ⟨vs, hv⟩ := hf
  have ox : ObjOk X.prog X.w H s.heap dd (.xd fs) := I.hok dd _ ea
  obtain ⟨mA, ⟨od, es, ep, g2, g3⟩, _⟩ := ox
  have J : PySem.W.InstAt s.heap a oe D (some od) := ⟨g1, hz.1, by unfold PySem.W.notCls; rw [hv] <;> rfl, by rw [hz.2]; exact g2⟩
  obtain ⟨cd, k1, _⟩ := PySem.W.any_some C.hd
  exact PySem.W.kia_one (PySem.W.kitx_exc (by rw [k1]; rfl) C.hg C.hk C.hs C.ha C.hn C.ht C.hm) I.kIn J ek (fun z => nomatch z) fun tk => ⟨.bl b, H, I.kept (t' := tk) fun _ _ z => z, rfl, q⟩
end L2.RL
end
section
set_option Elab.async false
set_option linter.all false
set_option maxRecDepth 100000
set_option maxHeartbeats 2000000
/-! data with lists, tuples and two small dicts, all of it at addresses of B; repr of it -/
namespace L2.RL
open PySem PySem.Spec PyProof.Rows
mutual
inductive Dq (H : Hp) (B : Addr → Prop) : V → PyData → Prop
  | non : Dq H B .non .none
  | bl (b : Bool) : Dq H B (.bl b) (.bool b)
  | int (i : Int) : Dq H B (.int i) (.int i)
  | str (x : Str) : Dq H B (.str x) (.str x)
  | lst {a : Addr} {xs : List V} {ds : List PyData} : H a = some (.lst xs) → B a → DqAll H B xs ds → Dq H B (.ref a) (.list ds)
  | tup {a : Addr} {xs : List V} {ds : List PyData} : H a = some (.tup xs) → B a → DqAll H B xs ds → Dq H B (.ref a) (.tuple ds)
  | dk0 {a : Addr} : H a = some (.dK []) → B a → Dq H B (.ref a) (.dict [])
  | dk1 {a : Addr} {x : Str} {i : Int} : H a = some (.dK [(.inr x, .int i)]) → B a → Dq H B (.ref a) (.dict [(.str x, .int i)])
inductive DqAll (H : Hp) (B : Addr → Prop) : List V → List PyData → Prop
  | nil : DqAll H B [] []
  | cons {v : V} {vs : List V} {d : PyData} {ds : List PyData} : Dq H B v d → DqAll H B vs ds → DqAll H B (v :: vs) (d :: ds)
end
mutual
theorem Dq.keep {H H' : Hp} {B C : Addr → Prop} (k : ∀ a o, B a → H a = some o → H' a = some o ∧ C a) : ∀ (d : PyData) (v : V), Dq H B v d → Dq H' C v d
  | .none, _, h => by cases h; exact .non
  | .bool _, _, h => by cases h; exact .bl _
  | .int _, _, h => by cases h; exact .int _
  | .str _, _, h => by cases h; exact .str _
  | .list ds, _, h => by
    cases h with
    | lst e n ha => exact .lst (k _ _ n e).1 (k _ _ n e).2 (Dq.keepAll k ds _ ha)
  | .tuple ds, _, h => by
    cases h with
    | tup e n ha => exact .tup (k _ _ n e).1 (k _ _ n e).2 (Dq.keepAll k ds _ ha)
  | .dict _, _, h => by
    cases h with
    | dk0 e n => exact .dk0 (k _ _ n e).1 (k _ _ n e).2
    | dk1 e n => exact .dk1 (k _ _ n e).1 (k _ _ n e).2
theorem Dq.keepAll {H H' : Hp} {B C : Addr → Prop} (k : ∀ a o, B a → H a = some o → H' a = some o ∧ C a) : ∀ (ds : List PyData) (vs : List V), DqAll H B vs ds → DqAll H' C vs ds
  | [], _, h => by cases h; exact .nil
  | d :: ds, _, h => by
    cases h with
    | cons h1 h2 => exact .cons (Dq.keep k d _ h1) (Dq.keepAll k ds _ h2)
end
theorem Dq.same {H H' : Hp} {B : Addr → Prop} {v : V} {d : PyData} (s : Same H H') (h : Dq H B v d) : Dq H' B v d := Dq.keep (fun a o n e => ⟨s a o e, n⟩) d v h
def Sh (P : Program) (w : World) (h : Heap) (d : PyData) (u : Value) : Prop := (∃ as, Reads h u d as) ∧ ∃ bs, ReadAtMost h d.depth bs ∧ ReprK P w bs h d.depth u d.shown
def ShAll (P : Program) (w : World) (h : Heap) (ds : List PyData) (us : List Value) : Prop := (∃ as, ReadsAll h us ds as) ∧ ∃ bs, ReadAtMost h (PyData.depthAll ds) bs ∧ ReprAllK P w bs h (PyData.depthAll ds) us (PyData.shownAll ds)
section
variable {X : Cx} {pins : List (Addr × Obj)} {σ : St} {H : Hp} {s : Shared} {B : Addr → Prop}
theorem dk0_at (I : Inv X pins σ H s) {a : Addr} (e : H a = some (.dK [])) : ∃ o es ep, s.heap.get? a = some o ∧ o.cls = .type "dict" ∧ o.data = .dict es ep ∧ (a == sysModules) = false ∧ es.toList = [] := by
  obtain ⟨_, hs, vs, rel, o, es, ep, ho, hx, hd, _, hp, _⟩ := dk_of I.hok e
  cases rel
  have : es.toList = [] := by
    generalize es.toList = l at hp
    cases hp
    rfl
  exact ⟨o, es, ep, ho, hx.1, hd, hs, this⟩
theorem dk1_at (I : Inv X pins σ H s) {a : Addr} {x : Str} {i : Int} (e : H a = some (.dK [(.inr x, .int i)])) :
    ∃ o es ep, s.heap.get? a = some o ∧ o.cls = .type "dict" ∧ o.data = .dict es ep ∧ (a == sysModules) = false ∧ ∃ en t1 t2, es.toList = [en] ∧ en.key = .str x t1 ∧ en.val = .int i t2 := by
  obtain ⟨_, hs, vs, rel, o, es, ep, ho, hx, hd, _, hp, _⟩ := dk_of I.hok e
  refine ⟨o, es, ep, ho, hx.1, hd, hs, ?_⟩
  cases rel with
  | @cons _ q _ qs r rr =>
    cases rr
    obtain ⟨k, u⟩ := q
    obtain ⟨e1, t, e2⟩ := r
    dsimp only at e1 e2
    subst e1 e2
    generalize es.toList = l at hp ⊢
    cases hp with
    | @cons en _ _ _ h1 h2 h3 =>
      cases h3
      have h1' : keyIs (Sum.inr x) en.key = true := h1
      rcases keyIs_shape h1' with ⟨_, _, z, _⟩ | ⟨y, t1, z, z2⟩
      · cases z
      · cases z
        exact ⟨en, t1, t, rfl, z2, h2⟩
theorem dk1_ents {P : Program} {w : World} {h : Heap} {en : DictEntry} {x : Str} {i : Int} {t1 t2 : Tok} (e1 : en.key = .str x t1) (e2 : en.val = .int i t2) (hi : i.natAbs.log2 < 1920) (hx : (reprText x).length ≤ sizeLine) :
    ReprEntriesK P w [] h 0 [en] (PyData.shownKv [(.str x, .int i)]) := by
  refine .cons (k := reprText x) (v := toString i) ?_ ?_ .nil
  · rw [e1]
    exact .of_is (ReprIs.str x t1 hx) _ _ _
  · rw [e2]
    exact .of_is (ReprIs.int t2 hi) _ _ _
theorem noneIn {h : Heap} {n : Nat} : ReadAtMost h n [] := fun _ z => nomatch z
mutual
theorem dq_shows (I : Inv X pins σ H s) : ∀ (d : PyData) (v : V) (u : Value), Dq H B v d → RelV v u → d.showable = true → d.shown.length ≤ sizeLine → Sh X.prog X.w s.heap d u
  | .none, _, _, h, r, _, _ => by
    cases h
    cases r
    exact ⟨⟨_, Reads.none⟩, [], noneIn, .of_is ReprIs.none _ _ _⟩
  | .bool b, _, _, h, r, _, _ => by
    cases h
    cases r
    exact ⟨⟨_, Reads.bool b⟩, [], noneIn, .of_is (ReprIs.bool b) _ _ _⟩
  | .int i, _, _, h, r, hs, _ => by
    cases h
    obtain ⟨t, rfl⟩ := r
    exact ⟨⟨_, Reads.int i t⟩, [], noneIn, .of_is (ReprIs.int t (of_decide_eq_true hs)) _ _ _⟩
  | .str x, _, _, h, r, _, hz => by
    cases h
    obtain ⟨t, rfl⟩ := r
    exact ⟨⟨_, Reads.str x t⟩, [], noneIn, .of_is (ReprIs.str x t hz) _ _ _⟩
  | .list ds, _, _, h, r, hs, hz => by
    cases h with
    | @lst a _ _ e n ha =>
      cases r
      obtain ⟨its, rv, ⟨o, m, ho, hc, _, hd⟩, _⟩ := I.list (SqL.of e)
      obtain ⟨⟨as, hr⟩, bs, hb, hk⟩ := dq_showsAll I ds _ its ha rv hs fun t ht => Nat.le_trans (listText_mem_le ht) hz
      have rd := Reads.list ho hc hd hr
      have hna : a ∉ bs := not_mem_of_deeper rd (Nat.lt_succ_self _) hb
      refine ⟨⟨_, rd⟩, a :: bs, ReadAtMost.cons rd (Nat.le_succ _) hb, ?_⟩
      cases its with
      | nil =>
        cases hr
        exact (ReprK.listEmpty (as := a :: bs) ho hc hd)
      | cons y l => exact ReprK.list ho hc hd hna (by simpa using hk.length_eq) fun i z e => hk.item i z (by simpa using e)
  | .tuple ds, _, _, h, r, hs, hz => by
    cases h with
    | @tup a _ _ e n ha =>
      cases r
      obtain ⟨its, rv, ⟨o, ho, hc, m, hd⟩, _⟩ := I.tuple (SqT.of e)
      obtain ⟨⟨as, hr⟩, bs, hb, hk⟩ := dq_showsAll I ds _ its ha rv hs fun t ht => Nat.le_trans (tupleText_mem_le ht) hz
      have rd := Reads.tuple ho hc hd hr
      exact ⟨⟨_, rd⟩, a :: bs, ReadAtMost.cons rd (Nat.le_succ _) hb, ReprK.tuple ho hc hd (not_mem_of_deeper rd (Nat.lt_succ_self _) hb) hk⟩
  | .dict _, _, _, h, r, hs, hz => by
    cases h with
    | @dk0 a e n =>
      cases r
      obtain ⟨o, es, ep, ho, hc, hd, hq, he⟩ := dk0_at I e
      have rd : Reads s.heap (.ref a) (.dict []) _ := Reads.dict ho hc hd (by rw [he]; exact ReadsAll.nil) (by rw [he]; exact ReadsAll.nil)
      exact ⟨⟨_, rd⟩, [a], ReadAtMost.cons rd (Nat.zero_le _) noneIn, ReprK.dict ho hc hd hq (fun z => nomatch z) (by rw [he]; exact .nil)⟩
    | @dk1 a x i e n =>
      cases r
      obtain ⟨o, es, ep, ho, hc, hd, hq, en, t1, t2, he, e1, e2⟩ := dk1_at I e
      have rd : Reads s.heap (.ref a) (.dict [(.str x, .int i)]) _ := Reads.dict ho hc hd (by rw [he]; exact .cons (show Reads s.heap en.key (.str x) [] from by rw [e1]; exact Reads.str x t1) .nil) (by rw [he]; exact .cons (show Reads s.heap en.val (.int i) [] from by rw [e2]; exact Reads.int i t2) .nil)
      have hi : i.natAbs.log2 < 1920 := by
        have z : ((PyData.str x).showable && (PyData.int i).showable && true) = true := hs
        rw [Bool.and_true] at z
        exact of_decide_eq_true (Bool.and_eq_true_iff.mp z).2
      have hx : (reprText x).length ≤ sizeLine := by
        obtain ⟨p, hp, hl⟩ := PyData.shownKv_key_le [(.str x, .int i)] (reprText x) (List.mem_cons_self ..)
        exact Nat.le_trans hl (Nat.le_trans (dictText_mem_le hp) hz)
      exact ⟨⟨_, rd⟩, [a], ReadAtMost.cons rd (Nat.zero_le _) noneIn, ReprK.dict ho hc hd hq (fun z => nomatch z) (by rw [he]; exact dk1_ents e1 e2 hi hx)⟩
theorem dq_showsAll (I : Inv X pins σ H s) : ∀ (ds : List PyData) (vs : List V) (us : List Value), DqAll H B vs ds → Vals vs us → PyData.showableAll ds = true → (∀ t ∈ PyData.shownAll ds, t.length ≤ sizeLine) → ShAll X.prog X.w s.heap ds us
  | [], _, _, h, r, _, _ => by
    cases h
    cases r
    exact ⟨⟨_, ReadsAll.nil⟩, [], noneIn, .nil⟩
  | d :: ds, _, _, h, r, hs, hz => by
    cases h with
    | cons h1 h2 =>
      cases r with
      | cons r1 r2 =>
        have z : (d.showable && PyData.showableAll ds) = true := hs
        obtain ⟨z1, z2⟩ := Bool.and_eq_true_iff.mp z
        obtain ⟨⟨a1, q1⟩, b1, g1, k1⟩ := dq_shows I d _ _ h1 r1 z1 (hz _ (List.mem_cons_self ..))
        obtain ⟨⟨a2, q2⟩, b2, g2, k2⟩ := dq_showsAll I ds _ _ h2 r2 z2 fun t ht => hz t (List.mem_cons_of_mem _ ht)
        have m1 : d.depth ≤ PyData.depthAll (d :: ds) := Nat.le_max_left ..
        have m2 : PyData.depthAll ds ≤ PyData.depthAll (d :: ds) := Nat.le_max_right ..
        exact ⟨⟨_, ReadsAll.cons q1 q2⟩, b1 ++ b2, (g1.mono m1).append (g2.mono m2), .cons ((k1.more fun b hb => List.mem_append_left _ hb).level_le m1) (k2.more_le (fun b hb => List.mem_append_right _ hb) m2)⟩
end
end
end L2.RL
end
section
set_option Elab.async false
set_option linter.all false
set_option maxRecDepth 100000
set_option maxHeartbeats 2000000
/-! repr(x), where nothing else is being shown; promises of defs that are called so -/
namespace L2.RL
open PySem PySem.Spec PyProof.Rows
def rReprD (B : Addr → Prop) : List V → Hp → VK → Prop := fun xs H Q => ∃ x d, xs = [x] ∧ Dq H B x d ∧ d.showable = true ∧ d.shown.length ≤ sizeLine ∧ d.depth ≤ 10 ∧ Q (.str d.shown) H
theorem call_reprD {X : Cx} {B : Addr → Prop} (hg : X.A.guards = some []) (hu : X.A.units + 20 < cLine) : CallR X (.builtin "repr") (rReprD B) := by
  intro pins s σ H xs us Q I r h
  obtain ⟨x, d, rfl, hd, hs, hz, hdep, q⟩ := h
  obtain ⟨u, rfl, ru⟩ := vals1 r
  have out : ∀ (h' : Heap) (t : Tok) (tk : Nat), (∀ b o, s.heap.get? b = some o → h'.get? b = some o) → EP X pins σ Q (.str d.shown t) { s with heap := h', toks := tk } := fun h' t tk k => ⟨.str d.shown, H, I.kept (t' := tk) k, ⟨t, rfl⟩, q⟩
  cases hd with
  | non =>
    cases ru
    exact PySem.P.repr_of_none (out s.heap _ _ fun _ _ z => z)
  | bl b =>
    cases ru
    exact PySem.P.repr_of_bool (out s.heap _ _ fun _ _ z => z)
  | int i =>
    obtain ⟨t, rfl⟩ := ru
    exact PySem.P.repr_of_int (of_decide_eq_true hs) (out s.heap _ _ fun _ _ z => z)
  | str y =>
    obtain ⟨t, rfl⟩ := ru
    exact PySem.P.repr_of_str (out s.heap _ _ fun _ _ z => z) hz
  | @lst a ys ds e n ha =>
    cases ru
    obtain ⟨its, rv, ⟨o, m, ho, hc, _, hd⟩, _⟩ := I.list (SqL.of e)
    obtain ⟨⟨as, hr⟩, bs, hb, hk⟩ := dq_showsAll I ds _ its ha rv hs fun t ht => Nat.le_trans (listText_mem_le ht) hz
    have hna : a ∉ bs := not_mem_of_deeper (Reads.list ho hc hd hr) (Nat.lt_succ_self _) hb
    have hdp : PyData.depthAll ds + 1 ≤ 10 := hdep
    refine call_repr_slot (by omega) ⟨o, ho, hc⟩ F.slot_list_repr.toG ?_
    cases its with
    | nil =>
      cases hr
      exact call_list_repr_empty ⟨o, ho, hc⟩ ho hd ⟨_, _, rfl, out s.heap _ _ fun _ _ z => z⟩
    | cons y l => exact call_list_reprK (g := []) ho hc hd hna (by simpa using hk.length_eq) (fun i z e => hk.item i z (by simpa using e)) hg (fun b _ => Clear.nil b) (by show X.A.units + 1 + _ < _; omega) (fun _ _ z => z) (fun h' t tk k => ⟨_, _, rfl, out h' t tk k⟩) hz
  | @tup a ys ds e n ha =>
    cases ru
    obtain ⟨its, rv, ⟨o, ho, hc, m, hd⟩, _⟩ := I.tuple (SqT.of e)
    obtain ⟨⟨as, hr⟩, bs, hb, hk⟩ := dq_showsAll I ds _ its ha rv hs fun t ht => Nat.le_trans (tupleText_mem_le ht) hz
    have hna : a ∉ bs := not_mem_of_deeper (Reads.tuple ho hc hd hr) (Nat.lt_succ_self _) hb
    have hdp : PyData.depthAll ds + 1 ≤ 10 := hdep
    exact call_repr_slot (by omega) ⟨o, ho, hc⟩ F.slot_tuple_repr (call_tuple_reprK (g := []) ho hc hd hna hk hg (fun b _ => Clear.nil b) (by show X.A.units + 1 + _ < _; omega) (fun _ _ z => z) (fun h' t tk k => ⟨_, _, rfl, out h' t tk k⟩) hz)
  | @dk0 a e n =>
    cases ru
    obtain ⟨o, es, ep, ho, hc, hd, hq, he⟩ := dk0_at I e
    exact call_repr_slot (by omega) ⟨o, ho, hc⟩ F.slot_dict_repr (call_dict_reprK (as := []) (d := 0) (g := []) ho hc hd hq (fun z => nomatch z) (by rw [he]; exact .nil) hg (fun b _ => Clear.nil b) (by show X.A.units + 1 + _ < _; omega) (fun _ _ z => z) (fun h' t tk k => ⟨_, _, rfl, out h' t tk k⟩) hz)
  | @dk1 a y i e n =>
    cases ru
    obtain ⟨o, es, ep, ho, hc, hd, hq, en, t1, t2, he, e1, e2⟩ := dk1_at I e
    have hi : i.natAbs.log2 < 1920 := by
      have z : ((PyData.str y).showable && (PyData.int i).showable && true) = true := hs
      rw [Bool.and_true] at z
      exact of_decide_eq_true (Bool.and_eq_true_iff.mp z).2
    have hy : (reprText y).length ≤ sizeLine := by
      obtain ⟨p, hp, hl⟩ := PyData.shownKv_key_le [(.str y, .int i)] (reprText y) (List.mem_cons_self ..)
      exact Nat.le_trans hl (Nat.le_trans (dictText_mem_le hp) hz)
    exact call_repr_slot (by omega) ⟨o, ho, hc⟩ F.slot_dict_repr (call_dict_reprK (as := []) (d := 0) (g := []) ho hc hd hq (fun z => nomatch z) (by rw [he]; exact dk1_ents e1 e2 hi hy) hg (fun b _ => Clear.nil b) (by show X.A.units + 1 + _ < _; omega) (fun _ _ z => z) (fun h' t tk k => ⟨_, _, rfl, out h' t tk k⟩) hz)

/-! ### defs that are called where nothing is being shown -/
structure FnG (P : Program) (w : World) (K : PySem.W.Frag) (mg : Str → Option Value) (base : Heap) (CX : CXT) (k : Nat) (f : Addr) (fd : FuncData) (ps : List Str) (sp : Sp) : Prop where
  len : ∀ ws H Q E, sp ws H Q E → ws.length = ps.length
  run : ∀ (A : Around) (outer : List Env) (s : Shared) (H : Hp) (args : Args) (us : List Value) (vs : List V) (Q : VK) (E : XK), A.guards = some [] → Room k A → Env0 P w K mg base A outer s H → BindsTo s fd args (ps.zip us) → Vals vs us → sp vs H Q E → codeAny (model P w) A (.call (.ref f) args) (CR CX outer P w H s Q E) s
section
variable {P : Program} {w : World} {K : PySem.W.Frag} {mg : Str → Option Value} {base : Heap} {CX : CXT} {k : Nat} {f : Addr} {qual : Str} {cdv : Value} {N ps : List Str} {sp : Sp}
theorem fnG_of {name : Str} {params : Arguments} {body : List Stmt} {scope : Scope} {dV kV doc pm ct oc : Value} {an od : Option Addr} {osl : Array (Option Value)}
    (lk : K.lookup f = some ⟨oc, od, .func (PySem.W.fnOf name qual params body scope dV kV doc pm an cdv ct), osl⟩) (hcd : PySem.W.codeIn K cdv qual = true) (S : FnScope N ps scope) (len : ∀ vs H Q E, sp vs H Q E → vs.length = ps.length)
    (hbody : ∀ (A : Around) (outer : List Env) (s : Shared) (H : Hp) (vs : List V) (Q : VK) (E : XK), A.guards = some [] → Room k (A.deeper (envOfC qual scope s.heap.objs.size f cdv)) → sp vs H Q E →
      ∃ t, PSs (cxOf CX P w K mg base N qual scope f cdv A outer s H E) body t ∧ t { nx := fun _ H' => Q .non H', rt := Q } (start N vs) H) :
    FnG P w K mg base CX (k + 1) f (PySem.W.fnOf name qual params body scope dV kV doc pm an cdv ct) ps sp := ⟨len, fun A outer s H args us vs Q E hg hr e0 hb r hsp => by
  have kin : K.In s.heap := e0.mod.kin.keeps fun b o z => (e0.bs b o z).1
  have cells : ∀ y ∈ ps.zip us, scope.names.lookup y.1 = some .local ∨ (scope.names.lookup y.1 = some .cell ∧ ((cellsFrom (s.heap.objs.size + 1) scope.names []).lookup y.1).isSome = true) := fun ⟨n, v⟩ hy =>
    (S.par n (List.of_mem_zip hy).1).elim .inl fun q => .inr ⟨q, PySem.W.cellsFrom_some _ _ _ (.inl q)⟩
  refine codeAny_call_function hr.depth (kin _ _ lk) rfl S.co S.gen rfl (PySem.W.codeRec_of kin hcd) (hb _ _ _ _ (wpAny_newFunctionEnv_cells S.kind cells fun env he s1 x => ?_))
  subst he
  obtain ⟨t, ht, hq⟩ := hbody A outer s H vs Q E hg (hr.deeper _) hsp
  refine ⟨(e0.mod.nolimit.keeps fun b o z => (e0.bs b o z).1).keeps x.toInCall.keep, codeAny_func (wpAny_mono (ht.run [] s1 (start N vs) H _ (inv_start S hr.hd e0 (len _ _ _ _ hsp) r x) hq) (fun fl s' hs => ?_) fun e s' hs => hs)⟩
  cases fl with
  | ret u =>
    obtain ⟨v, σ', H', J, rv, q⟩ := hs
    exact ⟨v, H', J.os, J.bare, J.base, J.hok, rv, q⟩
  | next =>
    obtain ⟨σ', H', J, q⟩ := hs
    exact ⟨.non, H', J.os, J.bare, J.base, J.hok, rfl, q⟩
  | brk => exact hs.elim fun _ z => z.elim fun _ z => z.2.elim
  | cont => exact hs.elim fun _ z => z.elim fun _ z => z.2.elim⟩
theorem FunD.okG {x : Str} {params : Arguments} {body : List Stmt} {scope : Scope} {dvs : List V} {kws : List (Str × V)} {fd : FuncData} (F : FunD K x qual params body scope dvs kws f fd) (S : FnScope N ps scope) (len : ∀ vs H Q E, sp vs H Q E → vs.length = ps.length)
    (hbody : ∀ (cdv : Value) (A : Around) (outer : List Env) (s : Shared) (H : Hp) (vs : List V) (Q : VK) (E : XK), A.guards = some [] → Room k (A.deeper (envOfC qual scope s.heap.objs.size f cdv)) → sp vs H Q E →
      ∃ t, PSs (cxOf CX P w K mg base N qual scope f cdv A outer s H E) body t ∧ t { nx := fun _ H' => Q .non H', rt := Q } (start N vs) H) : FnG P w K mg base CX (k + 1) f fd ps sp := by
  obtain ⟨oc, od, dV, kV, doc, pm, an, cdv, ct, osl, rfl, lk, hcd, _, _⟩ := F.ex
  exact fnG_of lk hcd S len fun A outer s H vs Q E hg hr h => hbody cdv A outer s H vs Q E hg hr h
end
end L2.RL
end
section
set_option Elab.async false
set_option linter.all false
set_option maxRecDepth 100000
set_option maxHeartbeats 2000000
/-! calls of such defs; the law itself as one -/
namespace L2.RL
open PySem PySem.Spec PyProof.Rows
section
variable {X : Cx} {CX : CXT} {k : Nat} {f : Addr} {fd : FuncData} {ps : List Str} {sp : Sp} {ds : List Value} {dvs : List V} {E : XK} {x : Str} {p pos : Pos} {e : Expr} {es : List Expr} {t : TA}
theorem pe_callG (F : FnG X.prog X.w X.K X.mg X.base CX k f fd ps sp) (gd : X.A.guards = some []) (hr : Room k X.A) (hg : Gl X x) (hm : X.mg x = some (.ref f)) (hk : PySem.W.keepIn X.K (.ref f) = true) (hb : Binds X.K fd ps ds) (hd : Vals dvs ds) (hx : Passes CX X E) (ha : PA X (e :: es) t)
    (hdb : (x == ("__debug__" : Str)) = false := by decide) (he : starEach (e :: es) X.env = (false, eval e X.env) :: starEach es X.env := by rfl) (hpl : (backTo pos (starEach es X.env)).any (·.1) = false := by rfl) :
    PE X (.Call (.Name x p) (e :: es) [] pos) (tCall sp dvs E t) := by
  refine ⟨fun pins s σ H Q I h => wpAny_Call_Name_kw (ld_glob I hg hm (PySem.W.callWith_K (h₀ := X.base) I.ok.mod.kin hk (thn (ha.run pos pins s σ H _ I h) fun us s1 ⟨vs, H1, I1, r, q⟩ => ⟨I1.kIn, ?_⟩) he hpl) hdb)⟩
  have r2 : Vals (vs ++ dvs) (us ++ ds) := r.append hd
  refine wpAny_call (codeAny_mono (F.run X.A X.stack s1 H1 ⟨us, []⟩ (us ++ ds) (vs ++ dvs) Q E gd hr I1.env0 (hb s1 us I1.kIn (r2.length.symm.trans (F.len _ _ _ _ q))) r2 q) fun r s' z => ?_)
  cases r with
  | error er => exact hx pins σ H1 s1 er s' I1 z
  | ok fl =>
    cases fl with
    | ret u => exact I1.after z
    | _ => exact False.elim z
end
section
variable {P : Program} {w : World} {K : PySem.W.Frag} {mg mb : Str → Option Value} {k : Nat} {fa a : Addr} {fd : FuncData} {x : Str} {sp : Sp} {s : Shared} {vs : List Value} {ns : List Int} {H : Hp}
theorem lawG_core (kin : K.In s.heap) (hns : s.heap.Ns mainGlobals mg) (hb : s.heap.Ns builtinsNs mb) (hbb : ∀ x : Str, x ≠ "__name__" → mb x = bootBuiltins x) (hlim : s.heap.NoLimit) (hg : s.gens = #[])
    (ha : s.heap.get? a = some { cls := .type "list", data := .seq vs.toArray }) (hr : Room k callerA) (F : ∀ base : Heap, K.In base → base.Ns mainGlobals mg → FnG P w K mg base CX0 k fa fd [x] sp) (hbind : ∀ (s : Shared) (u : Value), BindsTo s fd ⟨[u], []⟩ [(x, u)])
    (hsp : sp [.ref a] H (fun v _ => v = .bl true) fun _ _ _ => False) (hO : Only H) (hok : HOk P w H s.heap) (hA : ∀ b, H b ≠ none → b = a) (hK : H a ≠ none → K.lookup a = none) :
    codeAny (model P w) callerA (.call (.ref fa) ⟨[.ref a], []⟩) (fun r s' => r = .ok (.ret (.bool true)) ∧ OldK s.heap s'.heap ∧ s'.os = s.os ∧ AllBare s'.gens) s := by
  have keep : ∀ {b : Addr} {o : Obj}, s.heap.get? b = some o → H b = none → (hidT s.heap H).get? b = some o := fun z n => hidT_get z n
  have none_of : ∀ {b : Addr}, b ≠ a → H b = none := fun {b} n => by
    cases q : H b with
    | none => rfl
    | some u => exact absurd (hA b (by rw [q]; exact fun z => nomatch z)) n
  have dictN : ∀ {b : Addr} {m : Str → Option Value}, s.heap.Ns b m → (hidT s.heap H).Ns b m := fun {b m} ⟨o, es, ep, z, d, r⟩ => ⟨o, es, ep, keep z (none_of fun q => by
    rw [q, ha] at z
    cases z
    cases d), d, r⟩
  have kinB : K.In (hidT s.heap H) := fun b o z => keep (kin b o z) (by
    cases q : H b with
    | none => rfl
    | some u =>
      have n : H b ≠ none := by rw [q]; exact fun z => nomatch z
      obtain rfl := hA b n
      rw [hK n] at z
      cases z)
  obtain ⟨mc, l1, l2⟩ := hlim
  have e0 : Env0 P w K mg (hidT s.heap H) callerA [] s H := ⟨rfl, ⟨kinB, dictN hns, ⟨mb, dictN hb, hbb⟩, mc, dictN l1, l2⟩, fun b o z => of_hidT z, Nat.le_of_eq (hidT_size _ _), trivial, (fun b hb => absurd (show b ∈ ([] : List Addr) from hb) List.not_mem_nil), hok, .of_eq hg⟩
  refine codeAny_mono ((F _ kinB (dictN hns)).run callerA [] s H ⟨[.ref a], []⟩ [.ref a] [.ref a] _ _ rfl hr e0 (hbind s (.ref a)) (.cons rfl .nil) hsp) fun r s' z => ?_
  cases r with
  | error er => exact z.elim
  | ok fl =>
    cases fl with
    | ret u =>
      obtain ⟨v, H', os, bare, un, hok', r', q⟩ := z
      obtain rfl : v = .bl true := q
      obtain rfl : u = Value.bool true := r'
      refine ⟨rfl, OldK.of_keep fun b o z => ?_, os, bare⟩
      rcases hO b with n | ⟨ob, xs, g⟩
      · exact un.keep b o z n (fun y => nomatch y) (fun y => nomatch y)
      · have g1 : s.heap.get? b = some ob := (hok b _ g).1
        have g2 : s'.heap.get? b = some ob := (hok' b _ (un.frzs b ob _ g)).1
        rw [g1] at z
        rw [g2, z]
    | _ => exact False.elim z
theorem lawG_call (kin : K.In s.heap) (hns : s.heap.Ns mainGlobals mg) (hb : s.heap.Ns builtinsNs mb) (hbb : ∀ x : Str, x ≠ "__name__" → mb x = bootBuiltins x) (hlim : s.heap.NoLimit) (hg : s.gens = #[])
    (ha : s.heap.get? a = some { cls := .type "list", data := .seq vs.toArray }) (hi : IntsAre vs ns) (hl : ns.length ≤ sizeLine) (hr : Room k callerA) (F : ∀ base : Heap, K.In base → base.Ns mainGlobals mg → FnG P w K mg base CX0 k fa fd [x] sp)
    (hbind : ∀ (s : Shared) (u : Value), BindsTo s fd ⟨[u], []⟩ [(x, u)]) (hsp : ∀ H : Hp, Only H → SqL K H a (ns.map V.int) → sp [.ref a] H (fun v _ => v = .bl true) fun _ _ _ => False) :
    codeAny (model P w) callerA (.call (.ref fa) ⟨[.ref a], []⟩) (fun r s' => r = .ok (.ret (.bool true)) ∧ OldK s.heap s'.heap ∧ s'.os = s.os ∧ AllBare s'.gens) s := by
  have rv := vals_ints hi
  have go := fun {H : Hp} (o : Only H) (q : SqL K H a (ns.map V.int)) => lawG_core (H := H) kin hns hb hbb hlim hg ha hr F hbind (hsp H o q) o
  cases hk : K.lookup a with
  | some o =>
    have z := kin a o hk
    rw [ha] at z
    obtain rfl := Option.some.inj z
    exact go (H := fun _ => none) (fun _ => .inl rfl) (.inr ⟨_, vs.toArray, _, hk, rfl, rfl, rfl, by rw [List.size_toArray, hi.length]; exact hl, by simpa using rv⟩) (fun b u y => nomatch y) (fun b y => absurd rfl y) fun y => absurd rfl y
  | none =>
    refine go (H := fun b => if b = a then some (.frz { cls := .type "list", data := .seq vs.toArray } (.lst (ns.map V.int))) else none) (fun b => ?_) (.inl (.inr ⟨_, if_pos rfl⟩)) (fun b u y => ?_) (fun b y => ?_) fun _ => hk
    · by_cases n : b = a
      · exact .inr ⟨_, _, if_pos n⟩
      · exact .inl (if_neg n)
    · by_cases n : b = a
      · cases (if_pos n).symm.trans y
        rw [n]
        exact ⟨ha, by rw [List.length_map]; exact hl, vs, _, rv, ha⟩
      · cases (if_neg n).symm.trans y
    · exact Decidable.byContradiction fun n => y (if_neg n)
end
theorem walk_ofG {l : PySem.W.OpenLaw} {n k : Nat} {q : Program} {loose : List Str} {XP : (Str → Option Value) → Heap → Prop} {YP : World → Heap → Prop} {d : DefRec} {K : Params → PySem.W.Frag} {sp : World → Sp} {x : Str} (hn : l.most = some n) (hn2 : n ≤ sizeLine) (hdf : d.params.defaults = []) (hr : Room k callerA)
    (hY : ∀ (w : World) (h : Heap), YP w h → (K w.params).In h)
    (F : ∀ (w : World) (mg : Str → Option Value) (fa : Addr) (h : Heap), (K w.params).In h → h.Ns mainGlobals mg → mg d.name = some (.ref fa) → ∃ fd : FuncData, (∀ (s : Shared) (u : Value), BindsTo s fd ⟨[u], []⟩ [(x, u)]) ∧ ∀ base : Heap, (K w.params).In base → base.Ns mainGlobals mg → FnG l.prog w (K w.params) mg base CX0 k fa fd [x] (sp w))
    (hsp : ∀ (w : World) (H : Hp) (a : Addr) (ns : List Int), ns.length ≤ n → Only H → SqL (K w.params) H a (ns.map V.int) → sp w [.ref a] H (fun v _ => v = .bl true) fun _ _ _ => False) :
    PySem.W.WalkO q loose XP YP l.row.toRowW d [] (fun f vs => PySem.call f vs) := Att.attach_call hn hdf fun w s₀ s₁ mg mb fa o pm cd doc a vs ns G Y ho hd hcd hmg hobj hints hlen hg => by
  have kin := hY w _ Y
  obtain ⟨fd, hb, hF⟩ := F w mg fa _ kin G.T.g hmg
  exact lawG_call kin G.T.g G.T.b G.T.builtins G.T.nolimit hg hobj hints (Nat.le_trans hlen hn2) hr hF hb fun H hO hS => hsp w H a ns hlen hO hS
end L2.RL
end
section
set_option Elab.async false
set_option linter.all false
set_option maxRecDepth 100000
set_option maxHeartbeats 2000000
/-! checks of an error class; readings of making, raising, catching; dict displays -/
namespace L2.RL
open PySem PySem.Spec PyProof.Rows
def findClsB (K : PySem.W.Frag) (B : String) (id : String) : Bool := match PySem.W.findCls K (.type B) (.type "type") "__init__" with
  | some (.val (.builtin n)) => n == id
  | _ => false
theorem findClsB_ok {K : PySem.W.Frag} {B id : String} (h : findClsB K B id = true) : PySem.W.findCls K (.type B) (.type "type") "__init__" = some (.val (.builtin id)) := by
  unfold findClsB at h
  split at h
  · rename_i n e
    rw [e, show n = id by simpa using h]
  · cases h
def excCB (K : PySem.W.Frag) (D : Addr) : Bool := decide (PySem.W.findIn K (.ref D) "__getattribute__" = some (some (.builtin "BaseException.__getattribute__"))) && (decide (PySem.W.findIn K (.ref D) "__getattr__" = some none) && (decide (PySem.W.subIn K (.ref D) (.type "BaseException") = some true) && (PySem.W.hasDictIn K D &&
  (decide (PySem.W.findIn K (.ref D) "__class__" = some (some (.builtin "object.__class__"))) && (decide (PySem.W.specialIn K (.builtin "object.__class__") "__get__" = some (some (.builtin "getset_descriptor.__get__"))) && (decide (PySem.W.takesIn K (.builtin "object.__class__") = some true) && decide (PySem.W.mroIn K D (.type "object") = some true)))))))
theorem excCB_ok {K : PySem.W.Frag} {D : Addr} (h : excCB K D = true) : ExcC K D := by
  obtain ⟨h1, h⟩ := He.ba h
  obtain ⟨h2, h⟩ := He.ba h
  obtain ⟨h3, h⟩ := He.ba h
  obtain ⟨h4, h⟩ := He.ba h
  obtain ⟨h5, h⟩ := He.ba h
  obtain ⟨h6, h⟩ := He.ba h
  obtain ⟨h7, h8⟩ := He.ba h
  exact ⟨of_decide_eq_true h1, of_decide_eq_true h2, of_decide_eq_true h3, h4, of_decide_eq_true h5, of_decide_eq_true h6, of_decide_eq_true h7, of_decide_eq_true h8⟩
theorem room_un {k : Nat} {A : Around} (r : Room k A) : A.units + 20 < cLine := by
  have := r.un
  omega
structure Lg (P : Program) (w : World) (K : PySem.W.Frag) (mg : Str → Option Value) (base : Heap) (CX : CXT) (k : Nat) (x : Str) (ps : List Str) (dvs : List V) (sp : Sp) : Prop where
  ex : ∃ fd ds, FnG P w K mg base CX k (He.ga K x) fd ps sp ∧ Binds K fd ps ds ∧ Vals dvs ds
  g : mg x = some (.ref (He.ga K x))
  kp : PySem.W.keepIn K (.ref (He.ga K x)) = true
section
variable {K : PySem.W.Frag} {σ : St} {H : Hp} {Q : VK} {D : Ends}
theorem w_dnew (h : ∀ p H', H p = none → Same H H' → H' p = some (.dK []) → Q (.ref p) H') : tDNewK σ H Q := fun p n => h p _ n (same_upd n) upd_same
theorem w_disp1 {x : Str} {i : Int} (h : ∀ p H', H p = none → Same H H' → H' p = some (.dK [(.inr x, .int i)]) → Q (.ref p) H') : tDisp [(tC (.str x), tC (.int i))] σ H Q := fun p n => by
  refine ⟨upd_same, [(.inr x, .int i)], rfl, Nat.le_of_ble_eq_true rfl, ?_⟩
  rw [upd_upd]
  exact h p _ n (same_upd n) upd_same
theorem w_callSD {sp : Sp} {dvs : List V} {E : St → XK} {t : TA} (h : t σ H fun vs H1 => sp (vs ++ dvs) H1 Q (E σ)) : tCallSD sp dvs E t σ H Q := h
theorem w_xf {a : Addr} {cls : Value} {d : Option Addr} {C : Addr} {f : Str} {te : TE} (h : te σ H fun x H1 => x = .ref a ∧ cls = .ref C ∧ ∃ (dd : Addr) (fs : List (Str × V)) (v : V), d = some dd ∧ H1 dd = some (.xd fs) ∧ fs.lookup f = some v ∧ Q v H1) : tXf a cls d C f te σ H Q := h
theorem w_bi {newId : String} {bm : List Value} {ta : TA} (h : ta σ H fun vs H1 => ∃ (a C : Addr) (ws : List V), vs = .ref a :: ws ∧ ws.length ≤ 1000 ∧ OexB K newId bm C ∧ H1 a = some (exo a C none) ∧ Q .non H1) : tBI K newId bm ta σ H Q := h
theorem w_bi1 {newId : String} {bm : List Value} {a C : Addr} {ws : List V} {A : Prop} (T : OexB K newId bm C) (hl : ws.length ≤ 1000) (e : H a = some (exo a C none)) (h : A) : ∃ (a' C : Addr) (ws' : List V), V.ref a :: ws = .ref a' :: ws' ∧ ws'.length ≤ 1000 ∧ OexB K newId bm C ∧ H a' = some (exo a' C none) ∧ A := ⟨a, C, ws, rfl, hl, T, e, h⟩
def spErr1 (C : Addr) (f : Str) : Sp := fun vs H Q _ => ∃ (a : Addr) (x : V), vs = [.ref a, x] ∧ H a = some (exo a C none) ∧ ∀ dx H', H dx = none → dx ≠ a → H' = upd (upd H dx (exd dx [(f, x)])) a (exo a C (some dx)) → Q .non H'
theorem w_setB {newId : String} {bm : List Value} {f : Str} {to te : TE} (h : te σ H fun y H1 => to σ H1 fun x H2 => ∃ a C : Addr, x = .ref a ∧ OexB K newId bm C ∧ PySem.W.findIn K (.ref C) f = some none ∧
  ((H2 a = some (exo a C none) ∧ ∀ dx, H2 dx = none → dx ≠ a → D.nx σ (upd (upd H2 dx (exd dx [(f, y)])) a (exo a C (some dx)))) ∨
    ∃ (dx : Addr) (fs : List (Str × V)), H2 a = some (exo a C (some dx)) ∧ H2 dx = some (exd dx fs) ∧ fs.length ≤ 900 ∧ D.nx σ (upd H2 dx (exd dx ((f, y) :: fs))))) : tSetB K newId bm f to te D σ H := h
theorem w_mkO {C : Addr} {f : Str} {ta : TA} {E : XK} (h : ta σ H fun vs H1 => ∃ x, vs = [x] ∧ ∀ d H', H1 d = none → Same H1 H' → H' d = some (.xd [(f, x)]) → E (.ref C) (some d) H') (mono : ∀ {R1 R2 : List V → Hp → Prop}, ta σ H R1 → (∀ vs H1, R1 vs H1 → R2 vs H1) → ta σ H R2) : tMkO C (spErr1 C f) [] ta σ H E := by
  refine mono h fun vs H1 ⟨x, e, q⟩ => ?_
  subst e
  refine ⟨Nat.le_of_ble_eq_true rfl, fun a na => ⟨a, x, rfl, upd_same, fun dx H' n1 n2 e => ?_⟩⟩
  subst e
  have nd : H1 dx = none := by rw [upd_ne n2] at n1; exact n1
  refine ⟨rfl, dx, [(f, x)], upd_same, by rw [upd_ne n2, upd_same], nd, q dx _ nd (fun b o g => ?_) upd_same⟩
  have b1 : b ≠ dx := ne_of_none g nd
  have b2 : b ≠ a := ne_of_none g na
  rw [upd_ne b1, del_ne b2, upd_ne b2, upd_ne b1, upd_ne b2]
  exact g
end
end L2.RL
end
section
set_option Elab.async false
set_option linter.all false
set_option maxRecDepth 100000
set_option maxHeartbeats 2000000
/-! small data: how long its text is -/
namespace L2.RL
open PySem PySem.Spec PyProof.Rows
theorem textFrom_le (L : Nat) : ∀ (ts : List Str) (k : Nat) (acc : Str), (∀ t ∈ ts, t.length ≤ L) → (textFrom k acc ts).length ≤ acc.length + ts.length * (L + 2)
  | [], k, acc, _ => by show acc.length ≤ _; omega
  | t :: r, k, acc, h => by
    have ih := textFrom_le L r (k + 1) (acc ++ (if k > 0 then ", " else "" : String) ++ t) fun u hu => h u (List.mem_cons_of_mem _ hu)
    have h1 := h t (List.mem_cons_self ..)
    have e : (acc ++ (if k > 0 then ", " else "" : String) ++ t).length ≤ acc.length + 2 + t.length := by
      rw [strLen_append, strLen_append]
      have : (Str.ofString (if k > 0 then ", " else "" : String)).length ≤ 2 := by split <;> decide
      omega
    show (textFrom (k + 1) _ r).length ≤ _
    have m : (r.length + 1) * (L + 2) = r.length * (L + 2) + (L + 2) := by rw [Nat.add_mul, Nat.one_mul]
    rw [List.length_cons, m]
    omega
theorem listText_le {L : Nat} {ts : List Str} (h : ∀ t ∈ ts, t.length ≤ L) : (listText ts).length ≤ 2 + ts.length * (L + 2) := by
  unfold listText
  rw [strLen_append]
  have := textFrom_le L ts 0 "[" h
  have e1 : ("[" : Str).length = 1 := rfl
  have e2 : ("]" : Str).length = 1 := rfl
  omega
theorem piled_le {L : Nat} : ∀ {ts : List Str}, (∀ t ∈ ts, t.length ≤ L) → piled ts ≤ ts.length * (L + 2)
  | [], _ => Nat.zero_le _
  | t :: r, h => by
    have ih := piled_le fun u hu => h u (List.mem_cons_of_mem t hu)
    have h1 := h t (List.mem_cons_self ..)
    have m : (r.length + 1) * (L + 2) = r.length * (L + 2) + (L + 2) := by rw [Nat.add_mul, Nat.one_mul]
    rw [piled_cons, List.length_cons, m]
    omega
theorem tupleText_le {L : Nat} {ts : List Str} (h : ∀ t ∈ ts, t.length ≤ L) : (tupleText ts).length ≤ 3 + ts.length * (L + 2) := by
  have hp := piled_le h
  have e1 : ("(" : Str).length = 1 := rfl
  have e2 : (Str.ofString (if (ts.length == 1) = true then ",)" else ")" : String)).length ≤ 2 := by split <;> decide
  have e3 : (Str.join ", " ts).length ≤ piled ts := by
    cases ts with
    | nil => exact Nat.zero_le _
    | cons t r =>
      have := join_length_add (t :: r) (by simp)
      omega
  unfold tupleText
  rw [strLen_append, strLen_append]
  have e4 : ((if (ts.length == 1) = true then ",)" else ")" : String) : Str).length ≤ 2 := e2
  omega
inductive Sm : Nat → PyData → Prop
  | leaf {m : Nat} {d : PyData} (h1 : d.showable = true) (h2 : d.shown.length ≤ 60) (h3 : d.depth ≤ 1) (h4 : ∀ i, d = .int i → i.natAbs < 2 ^ 200) (h5 : ∀ ds, d = .tuple ds → ds = []) : Sm m d
  | list {m : Nat} {ds : List PyData} (hl : ds.length ≤ 6) (h : ∀ d ∈ ds, Sm m d) : Sm (m + 1) (.list ds)
  | tuple {m : Nat} {ds : List PyData} (hl : ds.length ≤ 6) (h : ∀ d ∈ ds, Sm m d) : Sm (m + 1) (.tuple ds)
theorem shownAll_map : ∀ ds : List PyData, PyData.shownAll ds = ds.map PyData.shown
  | [] => rfl
  | d :: ds => by show d.shown :: PyData.shownAll ds = _; rw [shownAll_map ds]; rfl
theorem showableAll_of : ∀ {ds : List PyData}, (∀ d ∈ ds, d.showable = true) → PyData.showableAll ds = true
  | [], _ => rfl
  | d :: ds, h => by
    show (d.showable && PyData.showableAll ds) = true
    rw [h d (List.mem_cons_self ..), showableAll_of fun e he => h e (List.mem_cons_of_mem _ he)]
    rfl
theorem depthAll_le {n : Nat} : ∀ {ds : List PyData}, (∀ d ∈ ds, d.depth ≤ n) → PyData.depthAll ds ≤ n
  | [], _ => Nat.zero_le _
  | d :: ds, h => Nat.max_le.mpr ⟨h d (List.mem_cons_self ..), depthAll_le fun e he => h e (List.mem_cons_of_mem _ he)⟩
theorem Sm.ok {m : Nat} {d : PyData} (h : Sm m d) : d.showable = true ∧ d.shown.length ≤ 60 * 7 ^ m ∧ d.depth ≤ m + 1 := by
  induction h with
  | @leaf m d h1 h2 h3 =>
    have : 1 ≤ 7 ^ m := Nat.one_le_pow _ _ (by decide)
    exact ⟨h1, by omega, by omega⟩
  | @list m ds hl h ih =>
    refine ⟨showableAll_of fun d hd => (ih d hd).1, ?_, Nat.succ_le_succ (depthAll_le fun d hd => (ih d hd).2.2)⟩
    have p : 1 ≤ 7 ^ m := Nat.one_le_pow _ _ (by decide)
    have := listText_le (L := 60 * 7 ^ m) (ts := PyData.shownAll ds) fun t ht => by
      rw [shownAll_map] at ht
      obtain ⟨d, hd, rfl⟩ := List.mem_map.mp ht
      exact (ih d hd).2.1
    rw [shownAll_map, List.length_map] at this
    show (listText (PyData.shownAll ds)).length ≤ _
    rw [shownAll_map]
    have k : ds.length * (60 * 7 ^ m + 2) ≤ 6 * (60 * 7 ^ m + 2) := Nat.mul_le_mul_right _ hl
    rw [Nat.pow_succ]
    omega
  | @tuple m ds hl h ih =>
    refine ⟨showableAll_of fun d hd => (ih d hd).1, ?_, Nat.succ_le_succ (depthAll_le fun d hd => (ih d hd).2.2)⟩
    have p : 1 ≤ 7 ^ m := Nat.one_le_pow _ _ (by decide)
    have := tupleText_le (L := 60 * 7 ^ m) (ts := PyData.shownAll ds) fun t ht => by
      rw [shownAll_map] at ht
      obtain ⟨d, hd, rfl⟩ := List.mem_map.mp ht
      exact (ih d hd).2.1
    rw [shownAll_map, List.length_map] at this
    show (tupleText (PyData.shownAll ds)).length ≤ _
    rw [shownAll_map]
    have k : ds.length * (60 * 7 ^ m + 2) ≤ 6 * (60 * 7 ^ m + 2) := Nat.mul_le_mul_right _ hl
    rw [Nat.pow_succ]
    omega
theorem Sm.up {m n : Nat} {d : PyData} (h : Sm m d) (hn : m ≤ n) : Sm n d := by
  induction h generalizing n with
  | leaf h1 h2 h3 h4 h5 => exact .leaf h1 h2 h3 h4 h5
  | list hl h ih =>
    obtain ⟨k, rfl⟩ : ∃ k, n = k + 1 := ⟨n - 1, by omega⟩
    exact .list hl fun d hd => ih d hd (by omega)
  | tuple hl h ih =>
    obtain ⟨k, rfl⟩ : ∃ k, n = k + 1 := ⟨n - 1, by omega⟩
    exact .tuple hl fun d hd => ih d hd (by omega)
theorem Sm.pair {m : Nat} {a b : Int} (h : Sm m (.tuple [.int a, .int b])) : a.natAbs < 2 ^ 200 ∧ b.natAbs < 2 ^ 200 := by
  have int : ∀ {m : Nat} {i : Int}, Sm m (.int i) → i.natAbs < 2 ^ 200 := fun h => by
    cases h with
    | leaf _ _ _ h4 _ => exact h4 _ rfl
  cases h with
  | leaf _ _ _ _ h5 => exact absurd (h5 _ rfl) (by simp)
  | tuple hl h => exact ⟨int (h _ (by simp)), int (h _ (by simp))⟩
end L2.RL
end
section
set_option Elab.async false
set_option linter.all false
set_option maxRecDepth 100000
set_option maxHeartbeats 2000000
/-! comprehensions over a sequence, and with invariants that name the new list -/
namespace L2.RL
open PySem PySem.Spec PyProof.Rows
section
variable {K : PySem.W.Frag} {σ : St} {H : Hp} {Q : VK} {D : Ends}
theorem w_lcIL {J : It} {g : TG} {tt : TT} {te : TE} {vs : List Nat} {R : Addr → Hp → Prop} (n : Nat) (I : Addr → Nat → List V → Hp → Prop) (h0 : ∀ L, H L = none → I L 0 [] (upd H L (.lst [])))
    (h : ∀ L i acc H2, H L = none → i < n → H2 L = some (.lst acc) → acc.length ≤ i → I L i acc H2 → J.go i H2 ∧ ∀ x H', J.yld i H2 x H' → g x (wipe σ vs) H' fun σ2 H2 => wipe σ2 vs = wipe σ vs ∧ tt σ2 H2 fun b H3 =>
      if b = true then te σ2 H3 fun y H4 => ∃ acc, H4 L = some (.lst acc) ∧ acc.length < sizeLine ∧ LcN L (i + 1) (I L) (upd H4 L (.lst (acc ++ [y]))) else LcN L (i + 1) (I L) H3)
    (hz : ∀ L acc H2, H L = none → H2 L = some (.lst acc) → I L n acc H2 → J.stop n H2 ∧ R L H2) :
    ∀ L, H L = none → ∃ W : Nat → Nat → Hp → Prop, (∃ m, W 0 m (upd H L (.lst []))) ∧ ∀ i m H, W i m H →
      (J.stop i H ∧ R L H) ∨ (J.go i H ∧ ∃ Nx : Hp → Prop, (∀ H', Nx H' → ∃ m', m' < m ∧ W (i + 1) m' H') ∧ ∀ x H', J.yld i H x H' → g x (wipe σ vs) H' fun σ2 H2 => wipe σ2 vs = wipe σ vs ∧ tt σ2 H2 fun b H3 =>
        if b = true then te σ2 H3 fun y H4 => ∃ acc, H4 L = some (.lst acc) ∧ acc.length < sizeLine ∧ Nx (upd H4 L (.lst (acc ++ [y]))) else Nx H3) := by
  intro L hL
  refine ⟨fun i m H2 => i ≤ n ∧ m = n - i ∧ LcN L i (I L) H2, ⟨n, Nat.zero_le _, rfl, [], upd_same, Nat.le_refl _, h0 L hL⟩, fun i m H2 ⟨h1, h2, acc, h3, h4, h5⟩ => ?_⟩
  rcases Nat.lt_or_ge i n with c | c
  · obtain ⟨q1, q2⟩ := h L i acc H2 hL c h3 h4 h5
    exact .inr ⟨q1, LcN L (i + 1) (I L), fun H' q => ⟨n - (i + 1), by omega, by omega, rfl, q⟩, q2⟩
  · obtain rfl : i = n := by omega
    exact .inl (hz L acc H2 hL h3 h5)
theorem w_lcRL {lo : Int} {g : TG} {tt : TT} {te : TE} {vs : List Nat} {R : Addr → Hp → Prop} (n : Nat) (I : Addr → Nat → List V → Hp → Prop) (h0 : ∀ L, H L = none → I L 0 [] (upd H L (.lst [])))
    (h : ∀ L i acc H2, H L = none → i < n → H2 L = some (.lst acc) → acc.length ≤ i → I L i acc H2 → g (.int (lo + (i : Nat))) (wipe σ vs) H2 fun σ2 H2 => wipe σ2 vs = wipe σ vs ∧ tt σ2 H2 fun b H3 =>
      if b = true then te σ2 H3 fun y H4 => ∃ acc, H4 L = some (.lst acc) ∧ acc.length < sizeLine ∧ LcN L (i + 1) (I L) (upd H4 L (.lst (acc ++ [y]))) else LcN L (i + 1) (I L) H3)
    (hz : ∀ L acc H2, H L = none → H2 L = some (.lst acc) → I L n acc H2 → R L H2) :
    ∀ L, H L = none → ∃ W : Nat → Nat → Hp → Prop, (∃ m, W 0 m (upd H L (.lst []))) ∧ ∀ i m H, W i m H →
      ((Itr lo n).stop i H ∧ R L H) ∨ ((Itr lo n).go i H ∧ ∃ Nx : Hp → Prop, (∀ H', Nx H' → ∃ m', m' < m ∧ W (i + 1) m' H') ∧ ∀ x H', (Itr lo n).yld i H x H' → g x (wipe σ vs) H' fun σ2 H2 => wipe σ2 vs = wipe σ vs ∧ tt σ2 H2 fun b H3 =>
        if b = true then te σ2 H3 fun y H4 => ∃ acc, H4 L = some (.lst acc) ∧ acc.length < sizeLine ∧ Nx (upd H4 L (.lst (acc ++ [y]))) else Nx H3) :=
  w_lcIL n I h0 (fun L i acc H2 a1 a2 a3 a4 a5 => ⟨a2, fun x H' ⟨e1, e2⟩ => by subst e1 e2; exact h L i acc _ a1 a2 a3 a4 a5⟩) (fun L acc H2 a1 a2 a3 => ⟨Nat.le_refl n, hz L acc H2 a1 a2 a3⟩)
theorem w_lcSL {J : It} {xs : List V} {g : TG} {tt : TT} {te : TE} {vs : List Nat} {R : Addr → Hp → Prop} (I : Addr → Nat → List V → Hp → Prop) (hs : ∀ L i acc H, I L i acc H → SqJ J H xs) (h0 : ∀ L, H L = none → I L 0 [] (upd H L (.lst [])))
    (h : ∀ L i acc x H2, H L = none → xs[i]? = some x → H2 L = some (.lst acc) → acc.length ≤ i → I L i acc H2 → g x (wipe σ vs) H2 fun σ2 H2 => wipe σ2 vs = wipe σ vs ∧ tt σ2 H2 fun b H3 =>
      if b = true then te σ2 H3 fun y H4 => ∃ acc, H4 L = some (.lst acc) ∧ acc.length < sizeLine ∧ LcN L (i + 1) (I L) (upd H4 L (.lst (acc ++ [y]))) else LcN L (i + 1) (I L) H3)
    (hz : ∀ L acc H2, H L = none → H2 L = some (.lst acc) → I L xs.length acc H2 → R L H2) :
    ∀ L, H L = none → ∃ W : Nat → Nat → Hp → Prop, (∃ m, W 0 m (upd H L (.lst []))) ∧ ∀ i m H, W i m H →
      (J.stop i H ∧ R L H) ∨ (J.go i H ∧ ∃ Nx : Hp → Prop, (∀ H', Nx H' → ∃ m', m' < m ∧ W (i + 1) m' H') ∧ ∀ x H', J.yld i H x H' → g x (wipe σ vs) H' fun σ2 H2 => wipe σ2 vs = wipe σ vs ∧ tt σ2 H2 fun b H3 =>
        if b = true then te σ2 H3 fun y H4 => ∃ acc, H4 L = some (.lst acc) ∧ acc.length < sizeLine ∧ Nx (upd H4 L (.lst (acc ++ [y]))) else Nx H3) :=
  w_lcIL xs.length I h0 (fun L i acc H2 a1 a2 a3 a4 a5 => by
    obtain ⟨s1, s2⟩ := (hs L i acc H2 a5).1 i xs[i] (List.getElem?_eq_getElem a2)
    refine ⟨s1, fun x H' y => ?_⟩
    obtain ⟨e1, e2⟩ := s2 x H' y
    subst e1 e2
    exact h L i acc _ _ a1 (List.getElem?_eq_getElem a2) a3 a4 a5) (fun L acc H2 a1 a2 a3 => ⟨(hs L _ acc H2 a3).2 _ (Nat.le_refl _), hz L acc H2 a1 a2 a3⟩)
theorem take_step {α β : Type} {ds : List α} {f : α → β} {i : Nat} {d : α} (h : ds[i]? = some d) : (ds.take i).map f ++ [f d] = (ds.take (i + 1)).map f := by
  rw [List.take_add_one, h, List.map_append]
  rfl
theorem DqAll.at {B : Addr → Prop} {xs : List V} {ds : List PyData} (h : DqAll H B xs ds) : ∀ {i : Nat} {x : V}, xs[i]? = some x → ∃ d, ds[i]? = some d ∧ Dq H B x d := by
  induction xs generalizing ds with
  | nil =>
    intro i x e
    simp at e
  | cons y ys ih =>
    cases h with
    | cons h1 h2 =>
      intro i x e
      cases i with
      | zero =>
        simp only [List.getElem?_cons_zero, Option.some.injEq] at e
        subst e
        exact ⟨_, rfl, h1⟩
      | succ i => exact ih h2 (by simpa using e)
theorem DqAll.app {B : Addr → Prop} {xs ys : List V} {ds es : List PyData} (h : DqAll H B xs ds) (k : DqAll H B ys es) : DqAll H B (xs ++ ys) (ds ++ es) := by
  induction xs generalizing ds with
  | nil =>
    cases h
    exact k
  | cons y l ih =>
    cases h with
    | cons h1 h2 => exact .cons h1 (ih h2)
theorem DqAll.len {B : Addr → Prop} {xs : List V} {ds : List PyData} (h : DqAll H B xs ds) : xs.length = ds.length := by
  induction xs generalizing ds with
  | nil => cases h; rfl
  | cons y l ih =>
    cases h with
    | cons h1 h2 => rw [List.length_cons, List.length_cons, ih h2]
theorem eqv_bools (a b : Bool) : PyData.eqv (.list [.bool a, .bool b]) (.list [.bool true, .bool true]) = (a && b) := by cases a <;> cases b <;> decide +kernel
theorem w_eqBB {p q : Addr} {a b : Bool} (hp : H p = some (.lst [.bl a, .bl b])) (hq : H q = some (.lst [.bl true, .bl true])) (h : Q (.bl (a && b)) H) : rEqD K (.ref p) (.ref q) H Q :=
  ⟨_, _, .lst (SqL.of hp) (.cons (.bl a) (.cons (.bl b) .nil)), .lst (SqL.of hq) (.cons (.bl true) (.cons (.bl true) .nil)), by cases a <;> cases b <;> decide +kernel, by decide +kernel, by rw [eqv_bools]; exact h⟩
theorem w_tupOfL {p : Addr} {ys : List V} (hs : SqL K H p ys) (h : ∀ l H', H l = none → Same H H' → H' l = some (.tup ys) → Q (.ref l) H') : ∃ p' ys', [V.ref p] = [.ref p'] ∧ ((SqL K H p' ys' ∧ ∀ l, H l = none → Q (.ref l) (upd H l (.tup ys'))) ∨ (SqT K H p' ys' ∧ Q (.ref p') H)) :=
  ⟨p, ys, rfl, .inl ⟨hs, fun l n => h l _ n (same_upd n) upd_same⟩⟩
end
end L2.RL
end
section
set_option Elab.async false
set_option linter.all false
set_option maxRecDepth 100000
set_option maxHeartbeats 4000000
/-! dict displays, d.get(k, x), d[k], d[k] = v, d.update(e); a tuple times one; texts with fields; a call of a class amid a try -/
namespace L2.RL
open PySem PySem.Spec PyProof.Rows
section
variable {X : Cx}
def rUpd : V → List V → Hp → VK → Prop := fun x vs H Q => ∃ a b kvs more, x = .ref a ∧ vs = [.ref b] ∧ a ≠ b ∧ H a = some (.dK kvs) ∧ H b = some (.dK more) ∧ kvs.length + more.length ≤ 10000 ∧ Q .non (upd H a (.dK (mergeK kvs more)))
theorem mt_update : MtR X "dict.update" rUpd := by
  intro pins s σ H x vs v us Q I rx rv h
  obtain ⟨a, b, kvs, more, rfl, rfl, hne, ea, eb, hz, q⟩ := h
  cases rx
  obtain ⟨u, rfl, ru⟩ := rv.one
  cases (show u = Value.ref b from ru)
  obtain ⟨z1, hd1, vs1, rel1, dd1⟩ := dk_of I.hok ea
  obtain ⟨z2, hd2, vs2, rel2, dd2⟩ := dk_of I.hok eb
  have l1 := rel1.length
  have l2 := rel2.length
  have lm := length_mergeK more kvs
  have hs : (10000 : Nat) ≤ sizeLine := by decide
  refine call_meetsIn PySem.F.slot_dict_update dd1.typeIs PySem.F.entry_dict_update (PySem.F.args_dict_update_2 _ _) (meets_dict_update (mixKind X.prog X.w) a b hne hd2) ⟨vs1, vs2, dd1, dd2, by omega, fun h' d1 d2 hb => ?_⟩
  have he : ∃ q, h'.get? a = some q := let ⟨q, _, _, hq, _⟩ := d1; ⟨q, hq⟩
  exact ⟨.non, _, d_write I (by rw [ea]; exact True.intro) hb he (dk_new (by omega) hd1 (KV.merge rel2 rel1) d1), rfl, q⟩

theorem tuple_mulW1 (l : Addr) (items : Array Value) (n : Nat) (dd : Option Addr) (sl : Array (Option Value)) (u : Tok) :
    Meets (Builtin.«tuple.__mul__» ⟨[.ref l, .int 1 u], []⟩) (fun _ R s => s.heap.get? l = some { cls := .type "tuple", dict := dd, data := .seq items n, slots := sl } ∧
      R (.ok (.ret (Value.ref l))) s) :=
  .of_wp fun prog w A R s h => by
    obtain ⟨hp, g, d, tk, os⟩ := s
    obtain ⟨hl, h⟩ := h
    have f1 := AutoSeq1.idx_int
    wp_walk using wpAny_loadPart' hl
    exact ⟨_, rfl, h⟩
def rRepT1 (K : PySem.W.Frag) : R2 := fun x y H Q => ∃ l xs, x = .ref l ∧ y = .int 1 ∧ SqT K H l xs ∧ Q (.ref l) H
theorem op_repT1 : OpR X (binaryOp .Mult) (rRepT1 X.K) := by
  intro pins s σ H x y v u Q I rx ry h
  obtain ⟨l, xs, rfl, rfl, hT, q⟩ := h
  cases rx
  obtain ⟨t, rfl⟩ := ry
  obtain ⟨its, r, ⟨⟨cls, dd, data, sl⟩, ho, hc, n, hd⟩, hs⟩ := I.tuple hT
  simp only at hc hd
  subst hc hd
  exact wpAny_binaryOp_repeat_ref (T := "tuple") (U := "int") (by decide) ⟨_, ho, rfl⟩ (fun s' => typeIs_int s' 1 t) noFill_tuple_mul F.fills_int_mul F.slot_int_rmul repeat_tuple F.slot_int_index.lookup
    (call_meets F.slot_int_rmul (typeIs_int s 1 t) F.entry_int_rmul (F.args_int_rmul_2 _ _) (int_rmul_tuple 1 t l its.toArray n dd sl)
      ⟨ho, rfl, ⟨_, ho, rfl⟩, call_meets F.slot_tuple_mul ⟨_, ho, rfl⟩ F.entry_tuple_mul (F.args_tuple_mul_2 _ _) (tuple_mulW1 l its.toArray n dd sl t) ⟨ho, ⟨.ref l, H, I, rfl, q⟩⟩⟩)
def rRepTT (K : PySem.W.Frag) : R2 := fun x y H Q => rRepT1 K x y H Q ∨ rRepT K x y H Q
theorem op_repTT : OpR X (binaryOp .Mult) (rRepTT X.K) := by
  intro pins s σ H x y v u Q I rx ry h
  rcases h with h | h
  · exact op_repT1 pins s σ H x y v u Q I rx ry h
  · exact op_repT pins s σ H x y v u Q I rx ry h
end
section
variable {X : Cx} {CX : CXT} {k n : Nat} {f C : Addr} {fd : FuncData} {ps ks : List Str} {sp : Sp} {E : St → XK} {x : Str} {p pos : Pos} {e : Expr} {es : List Expr} {kws : List Keyword} {t tk : TA} {g : List Value → List Value → List Value} {gV : List V → List V → List V}
def tMakeKS (C : Addr) (n m : Nat) (sp : Sp) (gV : List V → List V → List V) (E : St → XK) (t tk : TA) : TE := fun σ H Q => tMakeK C n m sp gV (E σ) t tk σ H Q
theorem run_makeKS {pins : List (Addr × Obj)} {σ : St} {H : Hp} {s : Shared} {Q : VK} {us ws : List Value} {vs zs : List V} (M : Mk X.K C f) (F : FnOk X.prog X.w X.K X.mg X.base CX k f fd ps sp) (hr : Room (k + 1) X.A) (hb : KBn X.K fd ps (n + 1) ks g gV) (hx : PassesAt CX X σ (E σ))
    (I : Inv X pins σ H s) (r : Vals vs us) (rz : Vals zs ws) (l1 : vs.length = n) (l2 : zs.length = ks.length)
    (h : ∀ x dx, H x = none → H dx = none → dx ≠ x → sp (gV (.ref x :: vs) zs) (upd (upd H dx (.own x)) x (.ins C dx [])) (fun v H2 => v = .non ∧ Q (.ref x) H2) (E σ)) :
    wpAny (model X.prog X.w) X.A (call (.ref C) us (ks.zip ws)) (EP X pins σ Q) X.xe s := by
  have hq := h (s.heap.objs.size + 1) s.heap.objs.size (I.hok.fresh (Nat.le_succ _)) (I.hok.fresh (Nat.le_refl _)) (Nat.ne_of_lt (Nat.lt_succ_self _))
  have I2 := Inv.made (C := C) I
  have r1 : Vals (V.ref (s.heap.objs.size + 1) :: vs) (Value.ref (s.heap.objs.size + 1) :: us) := .cons rfl r
  have r2 := hb.rel r1 rz
  have n1 : (Value.ref (s.heap.objs.size + 1) :: us).length = n + 1 := by
    rw [List.length_cons, ← r.length, l1]
  refine wpAny_call (make_map (f := f) I.kIn M.makes M.init (beq_iff_eq.mp M.fn) (codeAny_mono (F.run _ X.stack _ _ ⟨Value.ref (s.heap.objs.size + 1) :: us, ks.zip ws⟩ (g (Value.ref (s.heap.objs.size + 1) :: us) ws) _ _ (E σ) (hr.make C us (ks.zip ws))
    (I2.env0.make C us (ks.zip ws)) (hb.to _ (Value.ref (s.heap.objs.size + 1) :: us) ws I2.kIn n1 (rz.length.symm.trans l2)) r2 hq) fun r s' hq' => ?_))
  cases r with
  | error e => exact hx pins _ _ e s' I2 hq'
  | ok fl =>
    cases fl with
    | ret u =>
      obtain ⟨v, H', I3, rv, ev, q3⟩ := I2.after hq'
      subst ev
      exact ⟨rv, ⟨V.ref (s.heap.objs.size + 1), H', I3, rfl, q3⟩⟩
    | next => exact False.elim hq'
    | brk => exact False.elim hq'
    | cont => exact False.elim hq'
theorem pe_makeKS (M : Mk X.K C f) (F : FnOk X.prog X.w X.K X.mg X.base CX k f fd ps sp) (hr : Room (k + 1) X.A) (hg : Gl X x) (hm : X.mg x = some (.ref C)) (hb : KBn X.K fd ps (n + 1) ks g gV) (hx : ∀ σ, PassesAt CX X σ (E σ)) (ha : PA X (e :: es) t) (hkw : PK X kws tk)
    (hall : (backToKw pos (keywordEach kws X.env)).all (·.1.isSome) = true := by rfl) (hks : (backToKw pos (keywordEach kws X.env)).filterMap (·.1) = ks := by rfl) (hdb : (x == ("__debug__" : Str)) = false := by decide)
    (he : starEach (e :: es) X.env = (false, eval e X.env) :: starEach es X.env := by rfl) (hpl : ((backTo pos (starEach (e :: es) X.env)).any (·.1) || (backToKw pos (keywordEach kws X.env)).any (·.1.isNone)) = false := by rfl) :
    PE X (.Call (.Name x p) (e :: es) kws pos) (tMakeKS C n ks.length sp gV E t tk) := by
  refine ⟨fun pins s σ H Q I h => ?_⟩
  refine wpAny_Call_Name_kw (ld_glob I hg hm ?_ hdb)
  refine PySem.W.callWith_KW (h₀ := X.base) I.ok.mod.kin M.kp hall (thn (ha.run pos pins s σ H _ I h) fun us s1 ⟨vs, H1, I1, r, q⟩ => ?_) hpl he
  refine thn (hkw.run pos pins s1 σ H1 _ I1 q) fun ws s2 ⟨zs, H2, I2, rz, l1, l2, q2⟩ => ⟨I2.kIn, ?_⟩
  rw [hks]
  exact run_makeKS (E := E) M F hr hb (hx σ) I2 r rz l1 l2 q2
end
section
variable {K : PySem.W.Frag} {σ : St} {H : Hp} {Q : VK} {D : Ends}
theorem w_makeKS {C : Addr} {n m : Nat} {sp : Sp} {gV : List V → List V → List V} {E : St → XK} {t tk : TA} (h : t σ H fun vs H1 => tk σ H1 fun zs H2 => vs.length = n ∧ zs.length = m ∧ ∀ x dx, H2 x = none → H2 dx = none → dx ≠ x →
  sp (gV (.ref x :: vs) zs) (upd (upd H2 dx (.own x)) x (.ins C dx [])) (fun v H3 => v = .non ∧ Q (.ref x) H3) (E σ)) : tMakeKS C n m sp gV E t tk σ H Q := h
theorem w_tyD {a : Addr} {kvs : List (Key × V)} {A : Prop} (hs : H a = some (.dK kvs)) (h : A) : tyV K "dict" (.ref a) H ∧ A := ⟨.inr (.inr (.inl ⟨rfl, .inl ⟨kvs, hs⟩⟩)), h⟩
theorem w_update {a b : Addr} {kvs more m : List (Key × V)} (ea : H a = some (.dK kvs)) (eb : H b = some (.dK more)) (hne : a ≠ b) (hl : kvs.length + more.length ≤ 10000) (hm : mergeK kvs more = m) (h : Q .non (upd H a (.dK m))) : rUpd (.ref a) [.ref b] H Q :=
  ⟨a, b, kvs, more, rfl, rfl, hne, ea, eb, hl, by rw [hm]; exact h⟩
theorem w_dget {td ty : TE} (h : td σ H fun x H1 => ty σ H1 fun y H2 => ∃ a v, x = .ref a ∧ DGet H2 a y (some v) ∧ Q v H2) : tDGet td ty σ H Q := h
theorem w_dgetK {a : Addr} {kvs : List (Key × V)} {k : Key} {v : V} (e : H a = some (.dK kvs)) (hv : valV kvs k = some v) (h : Q v H) : ∃ a' v', V.ref a = .ref a' ∧ DGet H a' (kV k) (some v') ∧ Q v' H := ⟨a, v, rfl, by rw [← hv]; exact DGet.k e, h⟩
theorem w_dgetI {a : Addr} {kvs : List (Key × V)} {i : Int} {v : V} (e : H a = some (.dK kvs)) (hv : valV kvs (.inl i) = some v) (h : Q v H) : ∃ a' v', V.ref a = .ref a' ∧ DGet H a' (.int i) (some v') ∧ Q v' H := w_dgetK (k := .inl i) e hv h
theorem w_dgetS {a : Addr} {kvs : List (Key × V)} {i : Str} {v : V} (e : H a = some (.dK kvs)) (hv : valV kvs (.inr i) = some v) (h : Q v H) : ∃ a' v', V.ref a = .ref a' ∧ DGet H a' (.str i) (some v') ∧ Q v' H := w_dgetK (k := .inr i) e hv h
theorem w_dget2 {td ty tx : TE} (h : td σ H fun x H1 => ∃ a, x = .ref a ∧ IsD H1 a ∧ ty σ H1 fun y H2 => tx σ H2 fun z H3 => ∃ o, DGet H3 a y o ∧ Q (o.getD z) H3) : tDGet2 td ty tx σ H Q := h
theorem w_isD {a : Addr} {kvs : List (Key × V)} {P : Addr → Prop} (e : H a = some (.dK kvs)) (h : P a) : ∃ a', V.ref a = .ref a' ∧ IsD H a' ∧ P a' := ⟨a, rfl, .inl ⟨kvs, .inl e⟩, h⟩
theorem w_dget2K {a : Addr} {kvs : List (Key × V)} {k : Key} {z : V} (e : H a = some (.dK kvs)) (h : Q ((valV kvs k).getD z) H) : ∃ o, DGet H a (kV k) o ∧ Q (o.getD z) H := ⟨_, DGet.k e, h⟩
theorem w_dget2I {a : Addr} {kvs : List (Key × V)} {i : Int} {z : V} (e : H a = some (.dK kvs)) (h : Q ((valV kvs (.inl i)).getD z) H) : ∃ o, DGet H a (.int i) o ∧ Q (o.getD z) H := w_dget2K (k := .inl i) e h
theorem w_dget2S {a : Addr} {kvs : List (Key × V)} {i : Str} {z : V} (e : H a = some (.dK kvs)) (h : Q ((valV kvs (.inr i)).getD z) H) : ∃ o, DGet H a (.str i) o ∧ Q (o.getD z) H := w_dget2K (k := .inr i) e h
theorem w_setDS {a : Addr} {kvs m : List (Key × V)} {i : Str} {v : V} {R : Hp → Prop} (e : H a = some (.dK kvs)) (hl : kvs.length < 10000) (hm : putK kvs (.inr i) v = m) (h : R (upd H a (.dK m))) : rSetD (.ref a) (.str i) v H R :=
  ⟨a, _, rfl, DPut.k (k := .inr i) e (Nat.lt_of_lt_of_le hl (by decide)), by rw [hm]; exact h⟩
theorem w_dispN {trs : List (TE × TE)} (h : ∀ p H1, H p = none → Same H H1 → H1 p = some (.dK []) → tPairs trs σ H1 fun ps H2 => H2 p = some (.dK []) ∧ ∃ kvs : List (Key × V), ps = kvs.map (fun kv => (kV kv.1, kv.2)) ∧ kvs.length ≤ 15 ∧ Q (.ref p) (upd H2 p (.dK (mergeK [] kvs)))) : tDisp trs σ H Q :=
  fun p n => h p _ n (same_upd n) upd_same
theorem w_pNil {R : List (V × V) → Hp → Prop} (h : R [] H) : tPairs [] σ H R := h
theorem w_pCons {tk tv : TE} {r : List (TE × TE)} {R : List (V × V) → Hp → Prop} (h : tk σ H fun x H1 => tv σ H1 fun y H2 => tPairs r σ H2 fun ps H3 => R ((x, y) :: ps) H3) : tPairs ((tk, tv) :: r) σ H R := h
theorem w_dispE {p : Addr} {ps : List (V × V)} {kvs m : List (Key × V)} (e : H p = some (.dK [])) (hp : ps = kvs.map (fun kv => (kV kv.1, kv.2))) (hl : kvs.length ≤ 15) (hm : mergeK [] kvs = m) (h : ∀ H3, But p H H3 → H3 p = some (.dK m) → Q (.ref p) H3) :
    H p = some (.dK []) ∧ ∃ kvs : List (Key × V), ps = kvs.map (fun kv => (kV kv.1, kv.2)) ∧ kvs.length ≤ 15 ∧ Q (.ref p) (upd H p (.dK (mergeK [] kvs))) :=
  ⟨e, kvs, hp, hl, by rw [hm]; exact h _ But.upd upd_same⟩
theorem Same.but_new {p : Addr} {H0 H1 H2 : Hp} (n : H0 p = Option.none) (s : Same H0 H1) (b : But p H1 H2) : Same H0 H2 := fun a o e => b a o (ne_of_none e n) (s a o e)
theorem But.but_new {p q : Addr} {H0 H1 H2 : Hp} (n : H0 p = Option.none) (s : But q H0 H1) (b : But p H1 H2) : But q H0 H2 := fun a o ne e => b a o (ne_of_none e n) (s a o ne e)
theorem w_repT1 {l : Addr} {xs : List V} {k : Int} (hT : SqT K H l xs) (hk : k = 1) (h : Q (.ref l) H) : rRepTT K (.ref l) (.int k) H Q := .inl ⟨l, xs, rfl, by rw [hk], hT, h⟩
theorem w_repTN {l : Addr} {xs : List V} {k : Int} (hT : SqT K H l xs) (hn : xs ≠ []) (h2 : 2 ≤ k) (h3 : k ≤ 1000) (hl : xs.length ≤ 1000) (h : ∀ p H', H p = none → Same H H' → H' p = some (.tup (List.replicate k.toNat xs).flatten) → Q (.ref p) H') : rRepTT K (.ref l) (.int k) H Q :=
  .inr ⟨l, k, xs, rfl, rfl, hT, hn, h2, h3, hl, fun p n => h p _ n (same_upd n) upd_same⟩
theorem w_jNil {acc : Str} {R : Str → Hp → Prop} (h : R acc H) : tJs [] acc σ H R := h
theorem w_jCons {t : TE} {ts : List TE} {acc : Str} {R : Str → Hp → Prop} (h : t σ H fun x H1 => ∃ y : Str, x = .str y ∧ (acc ++ y).length ≤ sizeLine ∧ tJs ts (acc ++ y) σ H1 R) : tJs (t :: ts) acc σ H R := h
theorem w_fmtS {te : TE} (h : te σ H fun x H1 => ∃ y : Str, x = .str y ∧ y.length ≤ sizeLine ∧ Q (.str y) H1) (mono : ∀ {R1 R2 : VK}, te σ H R1 → (∀ v H1, R1 v H1 → R2 v H1) → te σ H R2) : tFmt te σ H Q := mono h fun v H1 ⟨y, e, l, q⟩ => .inl ⟨y, e, l, q⟩
theorem w_prop {C : Addr} {sp : Sp} {dvs : List V} {E : XK} {ta : TE} (h : ta σ H fun x H1 => ∃ a dx fs, x = .ref a ∧ H1 a = some (.ins C dx fs) ∧ sp (.ref a :: dvs) H1 Q E) : tProp C sp dvs E ta σ H Q := h
end
end L2.RL
end
section
set_option Elab.async false
set_option linter.all false
set_option maxRecDepth 100000
set_option maxHeartbeats 4000000
/-! properties of an own class, told by a check of the heap -/
namespace L2.RL
open PySem PySem.Spec PyProof.Rows He
def gAd (K : PySem.W.Frag) (C f : Str) : Addr := match PySem.W.recIn K (ma K (ga K C) f) "property" with
  | some (.ref g :: _) => g
  | _ => 0
def propB (K : PySem.W.Frag) (C f : Str) : Bool := decide (PySem.W.findIn K (.ref (ga K C)) f = some (some (.ref (ma K (ga K C) f)))) && (decide (PySem.W.specialIn K (.ref (ma K (ga K C) f)) "__get__" = some (some (.builtin "property.__get__"))) &&
  (decide (PySem.W.takesIn K (.ref (ma K (ga K C) f)) = some true) && (match PySem.W.recIn K (ma K (ga K C) f) "property" with
  | some (.ref _ :: _) => true
  | _ => false)))
theorem propB_ok {K : PySem.W.Frag} {C f : Str} (h : propB K C f = true) : PropOf K (ga K C) f (ma K (ga K C) f) (gAd K C f) := by
  obtain ⟨h1, h⟩ := ba h
  obtain ⟨h2, h⟩ := ba h
  obtain ⟨h3, h4⟩ := ba h
  refine ⟨of_decide_eq_true h1, of_decide_eq_true h2, of_decide_eq_true h3, ?_⟩
  unfold gAd
  split at h4
  · rename_i g rest e
    rw [e]
    exact ⟨rest, rfl⟩
  · cases h4
structure PrD where
  cls : Str
  name : Str
  qual : Str
  params : Arguments
  body : List Stmt
  scope : Scope
def gW (K : PySem.W.Frag) (a : Addr) : FnW := match K.lookup a with
  | some ⟨_, _, .func fd, _⟩ => some (fd.name, fd.qualname, fd.params, fd.body, fd.scope, fd.globals, fd.closure, fd.builtins)
  | _ => none
def PrD.val (d : PrD) : FnW := some (d.name, d.qual, d.params, .stmts d.body, d.scope, mainGlobals, [], builtinsNs)
def PrD.ok (K : PySem.W.Frag) (d : PrD) : Bool := propB K d.cls d.name && (PySem.W.keepIn K (.ref (gAd K d.cls d.name)) && (match K.lookup (gAd K d.cls d.name) with
  | some ⟨_, _, .func fd, _⟩ => PySem.W.codeIn K fd.code d.qual && (dflB K fd.defaults [] && kwdB K fd.kwdefaults [])
  | _ => false))
def SaysP (pr : List PrD) (K : PySem.W.Frag) : Prop := (((pr.all fun d => d.ok K), pr.map fun d => gW K (gAd K d.cls d.name)) : AlD) = (true, pr.map PrD.val)
theorem PrD.funD {K : PySem.W.Frag} {d : PrD} (e : gW K (gAd K d.cls d.name) = d.val) (c : d.ok K = true) :
    PropOf K (ga K d.cls) d.name (ma K (ga K d.cls) d.name) (gAd K d.cls d.name) ∧ ∃ fd, FunD K d.name d.qual d.params d.body d.scope [] [] (gAd K d.cls d.name) fd := by
  obtain ⟨c0, c1⟩ := ba c
  obtain ⟨kp, c2⟩ := ba c1
  refine ⟨propB_ok c0, ?_⟩
  unfold gW at e
  cases q : K.lookup (gAd K d.cls d.name) with
  | none =>
    rw [q] at c2
    cases c2
  | some o =>
    obtain ⟨oc, od, dt, osl⟩ := o
    rw [q] at c2 e
    cases dt with
    | func fd =>
      obtain ⟨n1, n2, n3, n4, n5, n6, n7, n8, n9, n10, n11, n12, n13, n14, n15⟩ := fd
      have e2 : (some (n1, n2, n3, n4, n5, n6, n7, n15) : FnW) = some (d.name, d.qual, d.params, .stmts d.body, d.scope, mainGlobals, [], builtinsNs) := e
      simp only [Option.some.injEq, Prod.mk.injEq] at e2
      obtain ⟨h1, h2, h3, h4, h5, h6, h7, h8⟩ := e2
      subst h1 h2 h3 h4 h5 h6 h7 h8
      have c3 : (PySem.W.codeIn K n13 d.qual && (dflB K n8 [] && kwdB K n9 [])) = true := c2
      obtain ⟨k1, k2⟩ := ba c3
      obtain ⟨k3, k4⟩ := ba k2
      exact ⟨_, ⟨oc, od, n8, n9, n10, n11, n12, n13, n14, osl, rfl, q, k1, dflB_ok k3, kwdB_ok k4⟩, kp⟩
    | _ => cases c2
theorem SaysP.at_ {pr : List PrD} {K : PySem.W.Frag} (c : SaysP pr K) (i : Nat) {d : PrD} (h : pr[i]? = some d := by rfl) :
    PropOf K (ga K d.cls) d.name (ma K (ga K d.cls) d.name) (gAd K d.cls d.name) ∧ ∃ fd, FunD K d.name d.qual d.params d.body d.scope [] [] (gAd K d.cls d.name) fd := by
  have c1 : (pr.all fun d => d.ok K) = true := congrArg (fun z : AlD => z.1) c
  have e : pr.map (fun d => gW K (gAd K d.cls d.name)) = pr.map PrD.val := congrArg (fun z : AlD => z.2) c
  have e2 : (pr.map fun d => gW K (gAd K d.cls d.name))[i]? = (pr.map PrD.val)[i]? := by rw [e]
  rw [List.getElem?_map, List.getElem?_map, h] at e2
  exact PrD.funD (Option.some.inj e2) (List.all_eq_true.mp c1 d (List.mem_of_getElem? h))
structure Lq (P : Program) (w : World) (K : PySem.W.Frag) (mg : Str → Option Value) (base : Heap) (CX : CXT) (k : Nat) (C : Str) (m : Str) (ps : List Str) (dvs : List V) (sp : Sp) : Prop where
  ex : ∃ fd ds, FnOk P w K mg base CX k (gAd K C m) fd ps sp ∧ Binds K fd ps ds ∧ Vals dvs ds
section
variable {K : PySem.W.Frag} {σ : St} {H : Hp} {Q : VK} {D : Ends}
theorem w_par3 {i j l : Nat} {ta : TA} (h : ta σ H fun vs H1 => ∃ u v w, vs = [u, v, w] ∧ D.nx (((σ.set i (some u)).set j (some v)).set l (some w)) H1) : tPar3 i j l ta D σ H := h
theorem w_par3a {i j l : Nat} {u v w : V} (h : D.nx (((σ.set i (some u)).set j (some v)).set l (some w)) H) : ∃ u' v' w', [u, v, w] = [u', v', w'] ∧ D.nx (((σ.set i (some u')).set j (some v')).set l (some w')) H := ⟨u, v, w, rfl, h⟩
theorem room_u1 {k : Nat} {A : Around} (r : Room k A) : A.units + 1 < cLine := by
  have := r.un
  omega
end
end L2.RL
end
section
set_option Elab.async false
set_option linter.all false
set_option maxRecDepth 100000
set_option maxHeartbeats 1000000
namespace T16
open PySem PySem.Spec PyProof.Rows L2 L2.RL
def bounds : List (V × List V) := [(.str "number", [.int (0), .int (255)]), (.str "flags", [.int (0), .int (7)]), (.str "size", [.int (0), .int (32)]), (.str "amount", [.int (0), .int (255)]), (.str "low", [.int (-2147483648), .int (2147483647)]), (.str "high", [.int (-2147483648), .int (2147483647)]), (.str "plow", [.int (-2147483648), .int (2147483647)]), (.str "phigh", [.int (-2147483648), .int (2147483647)]), (.str "exponent", [.int (-8), .int (7)]), (.str "unit", [.int (0), .int (4294967295)])]
def top (i : Nat) : Stmt := PySem.Challenge.pw_reportlays_k16_fields_refused.main.body.getD i (.Pass ⟨0, 0, 0, 0⟩)
def fa : List He.Fa := [.free "len",
  .free "abs",
  .free "max",
  .free "min",
  .free "int",
  .free "isinstance",
  .free "all",
  .free "zip",
  .free "range",
  .free "str",
  .free "tuple",
  .free "bool",
  .free "repr",
  .glo "is_integer",
  .glo "fits",
  .glo "is_usage",
  .glo "bad_range",
  .glo "are_usages",
  .glo "_law_bag",
  .glo "_law_take",
  .glo "_law_of",
  .glo "_law_names",
  .glo "_law_plain",
  .glo "_law_odd",
  .glo "_law_is_from",
  .glo "_law_first_bad",
  .glo "_law_told_field",
  .glo "_law_is_field",
  .glo "law",
  .glo "BadField",
  .free "ValueError",
  .glo "BadEntry",
  .int "CONSTANT" (1),
  .int "VARIABLE" (2),
  .int "RELATIVE" (4),
  .int "MOST_USAGE" (4294967295),
  .int "MOST_USAGES" (256),
  .cls "Field",
  .glo "Field",
  .mkr "Field",
  .keep "Field",
  .noat "Field" "role",
  .noat "Field" "number",
  .noat "Field" "flags",
  .noat "Field" "size",
  .noat "Field" "amount",
  .noat "Field" "low",
  .noat "Field" "high",
  .noat "Field" "plow",
  .noat "Field" "phigh",
  .noat "Field" "exponent",
  .noat "Field" "unit",
  .noat "Field" "usages",
  .meth "Field" "numbers",
  .meth "Field" "bad_name",
  .glo "ROLES",
  .glo "BOUNDS"]
def fn : List He.DefD := [⟨("is_integer", none), "is_integer", "is_integer", defArgs (top 5), defBody (top 5), defScope (top 5), [], []⟩,
  ⟨("fits", none), "fits", "fits", defArgs (top 14), defBody (top 14), defScope (top 14), [], []⟩,
  ⟨("is_usage", none), "is_usage", "is_usage", defArgs (top 15), defBody (top 15), defScope (top 15), [], []⟩,
  ⟨("bad_range", none), "bad_range", "bad_range", defArgs (top 16), defBody (top 16), defScope (top 16), [], []⟩,
  ⟨("are_usages", none), "are_usages", "are_usages", defArgs (top 17), defBody (top 17), defScope (top 17), [], []⟩,
  ⟨("_law_bag", none), "_law_bag", "_law_bag", defArgs (top 20), defBody (top 20), defScope (top 20), [], []⟩,
  ⟨("_law_take", none), "_law_take", "_law_take", defArgs (top 21), defBody (top 21), defScope (top 21), [], []⟩,
  ⟨("_law_of", none), "_law_of", "_law_of", defArgs (top 22), defBody (top 22), defScope (top 22), [], []⟩,
  ⟨("_law_names", none), "_law_names", "_law_names", defArgs (top 23), defBody (top 23), defScope (top 23), [], []⟩,
  ⟨("_law_plain", none), "_law_plain", "_law_plain", defArgs (top 24), defBody (top 24), defScope (top 24), [], []⟩,
  ⟨("_law_odd", none), "_law_odd", "_law_odd", defArgs (top 25), defBody (top 25), defScope (top 25), [], []⟩,
  ⟨("_law_is_from", none), "_law_is_from", "_law_is_from", defArgs (top 26), defBody (top 26), defScope (top 26), [], []⟩,
  ⟨("_law_first_bad", none), "_law_first_bad", "_law_first_bad", defArgs (top 27), defBody (top 27), defScope (top 27), [], []⟩,
  ⟨("_law_told_field", none), "_law_told_field", "_law_told_field", defArgs (top 28), defBody (top 28), defScope (top 28), [], []⟩,
  ⟨("_law_is_field", none), "_law_is_field", "_law_is_field", defArgs (top 29), defBody (top 29), defScope (top 29), [], []⟩,
  ⟨("law", none), "law", "law", defArgs (top 30), defBody (top 30), defScope (top 30), [], []⟩,
  ⟨("BadField", some "__init__"), "__init__", "BadField.__init__", defArgs (inClass (top 2) 0), defBody (inClass (top 2) 0), defScope (inClass (top 2) 0), [], []⟩,
  ⟨("Field", some "__init__"), "__init__", "Field.__init__", defArgs (inClass (top 18) 0), defBody (inClass (top 18) 0), defScope (inClass (top 18) 0), [], [("number", .int 0), ("flags", .int 2), ("size", .int 8), ("amount", .int 1), ("low", .int 0), ("high", .int 255), ("plow", .int 0), ("phigh", .int 0), ("exponent", .int 0), ("unit", .int 0), ("usages", .adr (kdfAt ("Field", some "__init__") "usages"))]⟩,
  ⟨("Field", some "numbers"), "numbers", "Field.numbers", defArgs (inClass (top 18) 1), defBody (inClass (top 18) 1), defScope (inClass (top 18) 1), [], []⟩,
  ⟨("Field", some "bad_name"), "bad_name", "Field.bad_name", defArgs (inClass (top 18) 2), defBody (inClass (top 18) 2), defScope (inClass (top 18) 2), [], []⟩]
def exs : List (PySem.W.Frag → Bool) := [fun K => oexB K "ValueError.__new__" bmV (He.ga K "BadField"),
  fun K => decide (PySem.W.findIn K (.ref (He.ga K "BadField")) "__init__" = some (some (.ref (He.ma K (He.ga K "BadField") "__init__")))),
  fun K => decide (PySem.W.typeIn K (.ref (He.ma K (He.ga K "BadField") "__init__")) = some (.type "function")),
  fun K => decide (PySem.W.findIn K (.ref (He.ga K "BadField")) "name" = some none),
  fun K => decide (PySem.W.exmOne K (.ref (He.ga K "BadField")) (.ref (He.ga K "BadField")) = some true),
  fun K => decide (PySem.W.kitOne K (.ref (He.ga K "BadField")) (.type "ValueError") = some true),
  fun K => xfB K (He.ga K "BadField"),
  fun K => excCB K (He.ga K "BadField"),
  fun K => findClsB K "ValueError" "ValueError.__init__",
  fun K => decide (PySem.W.kitOne K (.ref (He.ga K "BadField")) (.ref (He.ga K "BadEntry")) = some false),
  fun K => He.tupB K "ROLES" [.str "input", .str "output", .str "feature"],
  fun K => dicTB K (He.ga K "BOUNDS") bounds,
  fun K => tupAtB K (kdfAt ("Field", some "__init__") "usages" K) [],
  fun K => decide (PySem.W.findIn K (.ref (He.ga K "Field")) "__class__" = some (some (.builtin "object.__class__"))),
  fun K => decide (PySem.W.specialIn K (.builtin "object.__class__") "__get__" = some (some (.builtin "getset_descriptor.__get__"))),
  fun K => decide (PySem.W.takesIn K (.builtin "object.__class__") = some true),
  fun K => decide (PySem.W.mroIn K (He.ga K "Field") (.type "object") = some true),
  fun K => decide (PySem.W.kitOne K (.ref (He.ga K "Field")) (.type "str") = some false)]
abbrev T0 (K : PySem.W.Frag) (mg : Str → Option Value) : Prop := Tx fa fn exs K mg
def prs : List PrD := [⟨"Field", "style", "Field.style", defArgs (inClass (top 18) 4), defBody (inClass (top 18) 4), defScope (inClass (top 18) 4)⟩,
  ⟨"Field", "is_relative", "Field.is_relative", defArgs (inClass (top 18) 5), defBody (inClass (top 18) 5), defScope (inClass (top 18) 5)⟩,
  ⟨"Field", "is_signed", "Field.is_signed", defArgs (inClass (top 18) 6), defBody (inClass (top 18) 6), defScope (inClass (top 18) 6)⟩]
structure TT (K : PySem.W.Frag) (mg : Str → Option Value) : Prop extends Tx fa fn exs K mg where
  pr : SaysP prs K
theorem _root_.L2.RL.Tx.m_len {K : PySem.W.Frag} {mg : Str → Option Value} (T : T0 K mg) : mg "len" = none := T.free 0
theorem _root_.L2.RL.Tx.m_abs {K : PySem.W.Frag} {mg : Str → Option Value} (T : T0 K mg) : mg "abs" = none := T.free 1
theorem _root_.L2.RL.Tx.m_max {K : PySem.W.Frag} {mg : Str → Option Value} (T : T0 K mg) : mg "max" = none := T.free 2
theorem _root_.L2.RL.Tx.m_min {K : PySem.W.Frag} {mg : Str → Option Value} (T : T0 K mg) : mg "min" = none := T.free 3
theorem _root_.L2.RL.Tx.m_int {K : PySem.W.Frag} {mg : Str → Option Value} (T : T0 K mg) : mg "int" = none := T.free 4
theorem _root_.L2.RL.Tx.m_isinstance {K : PySem.W.Frag} {mg : Str → Option Value} (T : T0 K mg) : mg "isinstance" = none := T.free 5
theorem _root_.L2.RL.Tx.m_all {K : PySem.W.Frag} {mg : Str → Option Value} (T : T0 K mg) : mg "all" = none := T.free 6
theorem _root_.L2.RL.Tx.m_zip {K : PySem.W.Frag} {mg : Str → Option Value} (T : T0 K mg) : mg "zip" = none := T.free 7
theorem _root_.L2.RL.Tx.m_range {K : PySem.W.Frag} {mg : Str → Option Value} (T : T0 K mg) : mg "range" = none := T.free 8
theorem _root_.L2.RL.Tx.m_str {K : PySem.W.Frag} {mg : Str → Option Value} (T : T0 K mg) : mg "str" = none := T.free 9
theorem _root_.L2.RL.Tx.m_tuple {K : PySem.W.Frag} {mg : Str → Option Value} (T : T0 K mg) : mg "tuple" = none := T.free 10
theorem _root_.L2.RL.Tx.m_bool {K : PySem.W.Frag} {mg : Str → Option Value} (T : T0 K mg) : mg "bool" = none := T.free 11
theorem _root_.L2.RL.Tx.m_repr {K : PySem.W.Frag} {mg : Str → Option Value} (T : T0 K mg) : mg "repr" = none := T.free 12
theorem _root_.L2.RL.Tx.g_is_integer {K : PySem.W.Frag} {mg : Str → Option Value} (T : T0 K mg) : mg "is_integer" = some (.ref (He.ga K "is_integer")) := T.glo 13
theorem _root_.L2.RL.Tx.d_is_integer {K : PySem.W.Frag} {mg : Str → Option Value} (T : T0 K mg) : ∃ fd, FunD K "is_integer" "is_integer" (defArgs (top 5)) (defBody (top 5)) (defScope (top 5)) ([].map (He.Dv.v K)) (([] : List (Str × He.Dv)).map fun q => (q.1, q.2.v K)) (He.ga K "is_integer") fd := T.says.def_ 0
theorem _root_.L2.RL.Tx.g_fits {K : PySem.W.Frag} {mg : Str → Option Value} (T : T0 K mg) : mg "fits" = some (.ref (He.ga K "fits")) := T.glo 14
theorem _root_.L2.RL.Tx.d_fits {K : PySem.W.Frag} {mg : Str → Option Value} (T : T0 K mg) : ∃ fd, FunD K "fits" "fits" (defArgs (top 14)) (defBody (top 14)) (defScope (top 14)) ([].map (He.Dv.v K)) (([] : List (Str × He.Dv)).map fun q => (q.1, q.2.v K)) (He.ga K "fits") fd := T.says.def_ 1
theorem _root_.L2.RL.Tx.g_is_usage {K : PySem.W.Frag} {mg : Str → Option Value} (T : T0 K mg) : mg "is_usage" = some (.ref (He.ga K "is_usage")) := T.glo 15
theorem _root_.L2.RL.Tx.d_is_usage {K : PySem.W.Frag} {mg : Str → Option Value} (T : T0 K mg) : ∃ fd, FunD K "is_usage" "is_usage" (defArgs (top 15)) (defBody (top 15)) (defScope (top 15)) ([].map (He.Dv.v K)) (([] : List (Str × He.Dv)).map fun q => (q.1, q.2.v K)) (He.ga K "is_usage") fd := T.says.def_ 2
theorem _root_.L2.RL.Tx.g_bad_range {K : PySem.W.Frag} {mg : Str → Option Value} (T : T0 K mg) : mg "bad_range" = some (.ref (He.ga K "bad_range")) := T.glo 16
theorem _root_.L2.RL.Tx.d_bad_range {K : PySem.W.Frag} {mg : Str → Option Value} (T : T0 K mg) : ∃ fd, FunD K "bad_range" "bad_range" (defArgs (top 16)) (defBody (top 16)) (defScope (top 16)) ([].map (He.Dv.v K)) (([] : List (Str × He.Dv)).map fun q => (q.1, q.2.v K)) (He.ga K "bad_range") fd := T.says.def_ 3
theorem _root_.L2.RL.Tx.g_are_usages {K : PySem.W.Frag} {mg : Str → Option Value} (T : T0 K mg) : mg "are_usages" = some (.ref (He.ga K "are_usages")) := T.glo 17
theorem _root_.L2.RL.Tx.d_are_usages {K : PySem.W.Frag} {mg : Str → Option Value} (T : T0 K mg) : ∃ fd, FunD K "are_usages" "are_usages" (defArgs (top 17)) (defBody (top 17)) (defScope (top 17)) ([].map (He.Dv.v K)) (([] : List (Str × He.Dv)).map fun q => (q.1, q.2.v K)) (He.ga K "are_usages") fd := T.says.def_ 4
theorem _root_.L2.RL.Tx.g__law_bag {K : PySem.W.Frag} {mg : Str → Option Value} (T : T0 K mg) : mg "_law_bag" = some (.ref (He.ga K "_law_bag")) := T.glo 18
theorem _root_.L2.RL.Tx.d__law_bag {K : PySem.W.Frag} {mg : Str → Option Value} (T : T0 K mg) : ∃ fd, FunD K "_law_bag" "_law_bag" (defArgs (top 20)) (defBody (top 20)) (defScope (top 20)) ([].map (He.Dv.v K)) (([] : List (Str × He.Dv)).map fun q => (q.1, q.2.v K)) (He.ga K "_law_bag") fd := T.says.def_ 5
theorem _root_.L2.RL.Tx.g__law_take {K : PySem.W.Frag} {mg : Str → Option Value} (T : T0 K mg) : mg "_law_take" = some (.ref (He.ga K "_law_take")) := T.glo 19
theorem _root_.L2.RL.Tx.d__law_take {K : PySem.W.Frag} {mg : Str → Option Value} (T : T0 K mg) : ∃ fd, FunD K "_law_take" "_law_take" (defArgs (top 21)) (defBody (top 21)) (defScope (top 21)) ([].map (He.Dv.v K)) (([] : List (Str × He.Dv)).map fun q => (q.1, q.2.v K)) (He.ga K "_law_take") fd := T.says.def_ 6
theorem _root_.L2.RL.Tx.g__law_of {K : PySem.W.Frag} {mg : Str → Option Value} (T : T0 K mg) : mg "_law_of" = some (.ref (He.ga K "_law_of")) := T.glo 20
theorem _root_.L2.RL.Tx.d__law_of {K : PySem.W.Frag} {mg : Str → Option Value} (T : T0 K mg) : ∃ fd, FunD K "_law_of" "_law_of" (defArgs (top 22)) (defBody (top 22)) (defScope (top 22)) ([].map (He.Dv.v K)) (([] : List (Str × He.Dv)).map fun q => (q.1, q.2.v K)) (He.ga K "_law_of") fd := T.says.def_ 7
theorem _root_.L2.RL.Tx.g__law_names {K : PySem.W.Frag} {mg : Str → Option Value} (T : T0 K mg) : mg "_law_names" = some (.ref (He.ga K "_law_names")) := T.glo 21
theorem _root_.L2.RL.Tx.d__law_names {K : PySem.W.Frag} {mg : Str → Option Value} (T : T0 K mg) : ∃ fd, FunD K "_law_names" "_law_names" (defArgs (top 23)) (defBody (top 23)) (defScope (top 23)) ([].map (He.Dv.v K)) (([] : List (Str × He.Dv)).map fun q => (q.1, q.2.v K)) (He.ga K "_law_names") fd := T.says.def_ 8
theorem _root_.L2.RL.Tx.g__law_plain {K : PySem.W.Frag} {mg : Str → Option Value} (T : T0 K mg) : mg "_law_plain" = some (.ref (He.ga K "_law_plain")) := T.glo 22
theorem _root_.L2.RL.Tx.d__law_plain {K : PySem.W.Frag} {mg : Str → Option Value} (T : T0 K mg) : ∃ fd, FunD K "_law_plain" "_law_plain" (defArgs (top 24)) (defBody (top 24)) (defScope (top 24)) ([].map (He.Dv.v K)) (([] : List (Str × He.Dv)).map fun q => (q.1, q.2.v K)) (He.ga K "_law_plain") fd := T.says.def_ 9
theorem _root_.L2.RL.Tx.g__law_odd {K : PySem.W.Frag} {mg : Str → Option Value} (T : T0 K mg) : mg "_law_odd" = some (.ref (He.ga K "_law_odd")) := T.glo 23
theorem _root_.L2.RL.Tx.d__law_odd {K : PySem.W.Frag} {mg : Str → Option Value} (T : T0 K mg) : ∃ fd, FunD K "_law_odd" "_law_odd" (defArgs (top 25)) (defBody (top 25)) (defScope (top 25)) ([].map (He.Dv.v K)) (([] : List (Str × He.Dv)).map fun q => (q.1, q.2.v K)) (He.ga K "_law_odd") fd := T.says.def_ 10
theorem _root_.L2.RL.Tx.g__law_is_from {K : PySem.W.Frag} {mg : Str → Option Value} (T : T0 K mg) : mg "_law_is_from" = some (.ref (He.ga K "_law_is_from")) := T.glo 24
theorem _root_.L2.RL.Tx.d__law_is_from {K : PySem.W.Frag} {mg : Str → Option Value} (T : T0 K mg) : ∃ fd, FunD K "_law_is_from" "_law_is_from" (defArgs (top 26)) (defBody (top 26)) (defScope (top 26)) ([].map (He.Dv.v K)) (([] : List (Str × He.Dv)).map fun q => (q.1, q.2.v K)) (He.ga K "_law_is_from") fd := T.says.def_ 11
theorem _root_.L2.RL.Tx.g__law_first_bad {K : PySem.W.Frag} {mg : Str → Option Value} (T : T0 K mg) : mg "_law_first_bad" = some (.ref (He.ga K "_law_first_bad")) := T.glo 25
theorem _root_.L2.RL.Tx.d__law_first_bad {K : PySem.W.Frag} {mg : Str → Option Value} (T : T0 K mg) : ∃ fd, FunD K "_law_first_bad" "_law_first_bad" (defArgs (top 27)) (defBody (top 27)) (defScope (top 27)) ([].map (He.Dv.v K)) (([] : List (Str × He.Dv)).map fun q => (q.1, q.2.v K)) (He.ga K "_law_first_bad") fd := T.says.def_ 12
theorem _root_.L2.RL.Tx.g__law_told_field {K : PySem.W.Frag} {mg : Str → Option Value} (T : T0 K mg) : mg "_law_told_field" = some (.ref (He.ga K "_law_told_field")) := T.glo 26
theorem _root_.L2.RL.Tx.d__law_told_field {K : PySem.W.Frag} {mg : Str → Option Value} (T : T0 K mg) : ∃ fd, FunD K "_law_told_field" "_law_told_field" (defArgs (top 28)) (defBody (top 28)) (defScope (top 28)) ([].map (He.Dv.v K)) (([] : List (Str × He.Dv)).map fun q => (q.1, q.2.v K)) (He.ga K "_law_told_field") fd := T.says.def_ 13
theorem _root_.L2.RL.Tx.g__law_is_field {K : PySem.W.Frag} {mg : Str → Option Value} (T : T0 K mg) : mg "_law_is_field" = some (.ref (He.ga K "_law_is_field")) := T.glo 27
theorem _root_.L2.RL.Tx.d__law_is_field {K : PySem.W.Frag} {mg : Str → Option Value} (T : T0 K mg) : ∃ fd, FunD K "_law_is_field" "_law_is_field" (defArgs (top 29)) (defBody (top 29)) (defScope (top 29)) ([].map (He.Dv.v K)) (([] : List (Str × He.Dv)).map fun q => (q.1, q.2.v K)) (He.ga K "_law_is_field") fd := T.says.def_ 14
theorem _root_.L2.RL.Tx.g_law {K : PySem.W.Frag} {mg : Str → Option Value} (T : T0 K mg) : mg "law" = some (.ref (He.ga K "law")) := T.glo 28
theorem _root_.L2.RL.Tx.d_law {K : PySem.W.Frag} {mg : Str → Option Value} (T : T0 K mg) : ∃ fd, FunD K "law" "law" (defArgs (top 30)) (defBody (top 30)) (defScope (top 30)) ([].map (He.Dv.v K)) (([] : List (Str × He.Dv)).map fun q => (q.1, q.2.v K)) (He.ga K "law") fd := T.says.def_ 15
theorem _root_.L2.RL.Tx.g_BadField {K : PySem.W.Frag} {mg : Str → Option Value} (T : T0 K mg) : mg "BadField" = some (.ref (He.ga K "BadField")) := T.glo 29
theorem _root_.L2.RL.Tx.m_ValueError {K : PySem.W.Frag} {mg : Str → Option Value} (T : T0 K mg) : mg "ValueError" = none := T.free 30
theorem _root_.L2.RL.Tx.ob_BadField {K : PySem.W.Frag} {mg : Str → Option Value} (T : T0 K mg) : OexB K "ValueError.__new__" bmV (He.ga K "BadField") := oexB_ok (T.say 0)
theorem _root_.L2.RL.Tx.ie_BadField {K : PySem.W.Frag} {mg : Str → Option Value} (T : T0 K mg) : PySem.W.findIn K (.ref (He.ga K "BadField")) "__init__" = some (some (.ref (He.ma K (He.ga K "BadField") "__init__"))) := of_decide_eq_true (T.say 1)
theorem _root_.L2.RL.Tx.ti_BadField {K : PySem.W.Frag} {mg : Str → Option Value} (T : T0 K mg) : PySem.W.typeIn K (.ref (He.ma K (He.ga K "BadField") "__init__")) = some (.type "function") := of_decide_eq_true (T.say 2)
theorem _root_.L2.RL.Tx.xn_BadField_name {K : PySem.W.Frag} {mg : Str → Option Value} (T : T0 K mg) : PySem.W.findIn K (.ref (He.ga K "BadField")) "name" = some none := of_decide_eq_true (T.say 3)
theorem _root_.L2.RL.Tx.em_BadField {K : PySem.W.Frag} {mg : Str → Option Value} (T : T0 K mg) : PySem.W.exmOne K (.ref (He.ga K "BadField")) (.ref (He.ga K "BadField")) = some true := of_decide_eq_true (T.say 4)
theorem _root_.L2.RL.Tx.ki_BadField {K : PySem.W.Frag} {mg : Str → Option Value} (T : T0 K mg) : PySem.W.kitOne K (.ref (He.ga K "BadField")) (.type "ValueError") = some true := of_decide_eq_true (T.say 5)
theorem _root_.L2.RL.Tx.xf_BadField {K : PySem.W.Frag} {mg : Str → Option Value} (T : T0 K mg) : XfC K (He.ga K "BadField") := xfB_ok (T.say 6)
theorem _root_.L2.RL.Tx.xi_BadField {K : PySem.W.Frag} {mg : Str → Option Value} (T : T0 K mg) : ExcC K (He.ga K "BadField") := excCB_ok (T.say 7)
theorem _root_.L2.RL.Tx.fc_ValueError {K : PySem.W.Frag} {mg : Str → Option Value} (T : T0 K mg) : PySem.W.findCls K (.type "ValueError") (.type "type") "__init__" = some (.val (.builtin "ValueError.__init__")) := findClsB_ok (T.say 8)
theorem _root_.L2.RL.Tx.d_BadField___init__ {K : PySem.W.Frag} {mg : Str → Option Value} (T : T0 K mg) : ∃ fd, FunD K "__init__" "BadField.__init__" (defArgs (inClass (top 2) 0)) (defBody (inClass (top 2) 0)) (defScope (inClass (top 2) 0)) [] (([] : List (Str × He.Dv)).map fun q => (q.1, q.2.v K)) (He.ma K (He.ga K "BadField") "__init__") fd := T.says.def_ 16
theorem _root_.L2.RL.Tx.g_BadEntry {K : PySem.W.Frag} {mg : Str → Option Value} (T : T0 K mg) : mg "BadEntry" = some (.ref (He.ga K "BadEntry")) := T.glo 31
theorem _root_.L2.RL.Tx.nk_BadField_BadEntry {K : PySem.W.Frag} {mg : Str → Option Value} (T : T0 K mg) : PySem.W.kitOne K (.ref (He.ga K "BadField")) (.ref (He.ga K "BadEntry")) = some false := of_decide_eq_true (T.say 9)
theorem _root_.L2.RL.Tx.i_CONSTANT {K : PySem.W.Frag} {mg : Str → Option Value} (T : T0 K mg) : ∃ t, mg "CONSTANT" = some (.int (1) t) := T.int 32
theorem _root_.L2.RL.Tx.i_VARIABLE {K : PySem.W.Frag} {mg : Str → Option Value} (T : T0 K mg) : ∃ t, mg "VARIABLE" = some (.int (2) t) := T.int 33
theorem _root_.L2.RL.Tx.i_RELATIVE {K : PySem.W.Frag} {mg : Str → Option Value} (T : T0 K mg) : ∃ t, mg "RELATIVE" = some (.int (4) t) := T.int 34
theorem _root_.L2.RL.Tx.i_MOST_USAGE {K : PySem.W.Frag} {mg : Str → Option Value} (T : T0 K mg) : ∃ t, mg "MOST_USAGE" = some (.int (4294967295) t) := T.int 35
theorem _root_.L2.RL.Tx.i_MOST_USAGES {K : PySem.W.Frag} {mg : Str → Option Value} (T : T0 K mg) : ∃ t, mg "MOST_USAGES" = some (.int (256) t) := T.int 36
theorem _root_.L2.RL.Tx.g_Field {K : PySem.W.Frag} {mg : Str → Option Value} (T : T0 K mg) : mg "Field" = some (.ref (He.ga K "Field")) := T.glo 38
theorem _root_.L2.RL.Tx.c_Field {K : PySem.W.Frag} {mg : Str → Option Value} (T : T0 K mg) : Cls K (He.ga K "Field") := T.cls 37
theorem _root_.L2.RL.Tx.mk_Field {K : PySem.W.Frag} {mg : Str → Option Value} (T : T0 K mg) : Mk K (He.ga K "Field") (He.ma K (He.ga K "Field") "__init__") := T.mkr 39
theorem _root_.L2.RL.Tx.kp_Field {K : PySem.W.Frag} {mg : Str → Option Value} (T : T0 K mg) : PySem.W.keepIn K (.ref (He.ga K "Field")) = true := T.keep 40
theorem _root_.L2.RL.Tx.n_Field_role {K : PySem.W.Frag} {mg : Str → Option Value} (T : T0 K mg) : NoAttr K (He.ga K "Field") "role" := T.noat 41
theorem _root_.L2.RL.Tx.n_Field_number {K : PySem.W.Frag} {mg : Str → Option Value} (T : T0 K mg) : NoAttr K (He.ga K "Field") "number" := T.noat 42
theorem _root_.L2.RL.Tx.n_Field_flags {K : PySem.W.Frag} {mg : Str → Option Value} (T : T0 K mg) : NoAttr K (He.ga K "Field") "flags" := T.noat 43
theorem _root_.L2.RL.Tx.n_Field_size {K : PySem.W.Frag} {mg : Str → Option Value} (T : T0 K mg) : NoAttr K (He.ga K "Field") "size" := T.noat 44
theorem _root_.L2.RL.Tx.n_Field_amount {K : PySem.W.Frag} {mg : Str → Option Value} (T : T0 K mg) : NoAttr K (He.ga K "Field") "amount" := T.noat 45
theorem _root_.L2.RL.Tx.n_Field_low {K : PySem.W.Frag} {mg : Str → Option Value} (T : T0 K mg) : NoAttr K (He.ga K "Field") "low" := T.noat 46
theorem _root_.L2.RL.Tx.n_Field_high {K : PySem.W.Frag} {mg : Str → Option Value} (T : T0 K mg) : NoAttr K (He.ga K "Field") "high" := T.noat 47
theorem _root_.L2.RL.Tx.n_Field_plow {K : PySem.W.Frag} {mg : Str → Option Value} (T : T0 K mg) : NoAttr K (He.ga K "Field") "plow" := T.noat 48
theorem _root_.L2.RL.Tx.n_Field_phigh {K : PySem.W.Frag} {mg : Str → Option Value} (T : T0 K mg) : NoAttr K (He.ga K "Field") "phigh" := T.noat 49
theorem _root_.L2.RL.Tx.n_Field_exponent {K : PySem.W.Frag} {mg : Str → Option Value} (T : T0 K mg) : NoAttr K (He.ga K "Field") "exponent" := T.noat 50
theorem _root_.L2.RL.Tx.n_Field_unit {K : PySem.W.Frag} {mg : Str → Option Value} (T : T0 K mg) : NoAttr K (He.ga K "Field") "unit" := T.noat 51
theorem _root_.L2.RL.Tx.n_Field_usages {K : PySem.W.Frag} {mg : Str → Option Value} (T : T0 K mg) : NoAttr K (He.ga K "Field") "usages" := T.noat 52
theorem _root_.L2.RL.Tx.h_Field_numbers {K : PySem.W.Frag} {mg : Str → Option Value} (T : T0 K mg) : Meth K (He.ga K "Field") "numbers" (He.ma K (He.ga K "Field") "numbers") := T.meth 53
theorem _root_.L2.RL.Tx.h_Field_bad_name {K : PySem.W.Frag} {mg : Str → Option Value} (T : T0 K mg) : Meth K (He.ga K "Field") "bad_name" (He.ma K (He.ga K "Field") "bad_name") := T.meth 54
theorem _root_.L2.RL.Tx.d_Field___init__ {K : PySem.W.Frag} {mg : Str → Option Value} (T : T0 K mg) : ∃ fd, FunD K "__init__" "Field.__init__" (defArgs (inClass (top 18) 0)) (defBody (inClass (top 18) 0)) (defScope (inClass (top 18) 0)) [] (([("number", .int 0), ("flags", .int 2), ("size", .int 8), ("amount", .int 1), ("low", .int 0), ("high", .int 255), ("plow", .int 0), ("phigh", .int 0), ("exponent", .int 0), ("unit", .int 0), ("usages", .adr (kdfAt ("Field", some "__init__") "usages"))] : List (Str × He.Dv)).map fun q => (q.1, q.2.v K)) (He.ma K (He.ga K "Field") "__init__") fd := T.says.def_ 17
theorem _root_.L2.RL.Tx.d_Field_numbers {K : PySem.W.Frag} {mg : Str → Option Value} (T : T0 K mg) : ∃ fd, FunD K "numbers" "Field.numbers" (defArgs (inClass (top 18) 1)) (defBody (inClass (top 18) 1)) (defScope (inClass (top 18) 1)) [] (([] : List (Str × He.Dv)).map fun q => (q.1, q.2.v K)) (He.ma K (He.ga K "Field") "numbers") fd := T.says.def_ 18
theorem _root_.L2.RL.Tx.d_Field_bad_name {K : PySem.W.Frag} {mg : Str → Option Value} (T : T0 K mg) : ∃ fd, FunD K "bad_name" "Field.bad_name" (defArgs (inClass (top 18) 2)) (defBody (inClass (top 18) 2)) (defScope (inClass (top 18) 2)) [] (([] : List (Str × He.Dv)).map fun q => (q.1, q.2.v K)) (He.ma K (He.ga K "Field") "bad_name") fd := T.says.def_ 19
theorem _root_.L2.RL.Tx.g_ROLES {K : PySem.W.Frag} {mg : Str → Option Value} (T : T0 K mg) : mg "ROLES" = some (.ref (He.ga K "ROLES")) := T.glo 55
theorem _root_.L2.RL.Tx.t_ROLES {K : PySem.W.Frag} {mg : Str → Option Value} (T : T0 K mg) : ∀ H : Hp, SqT K H (He.ga K "ROLES") ([.str "input", .str "output", .str "feature"].map (He.Dv.v K)) := fun H => He.tupB_ok (T.say 10) H
theorem _root_.L2.RL.Tx.g_BOUNDS {K : PySem.W.Frag} {mg : Str → Option Value} (T : T0 K mg) : mg "BOUNDS" = some (.ref (He.ga K "BOUNDS")) := T.glo 56
theorem _root_.L2.RL.Tx.t_BOUNDS {K : PySem.W.Frag} {mg : Str → Option Value} (T : T0 K mg) : ∃ kvs, TupItems K bounds kvs ∧ KItems K (He.ga K "BOUNDS") kvs := dicTB_ok (T.say 11)
theorem _root_.L2.RL.Tx.t_us0 {K : PySem.W.Frag} {mg : Str → Option Value} (T : T0 K mg) : ∀ H : Hp, SqT K H (kdfAt ("Field", some "__init__") "usages" K) [] := fun H => tupAtB_ok (T.say 12) H
theorem _root_.L2.RL.Tx.ic_Field {K : PySem.W.Frag} {mg : Str → Option Value} (T : T0 K mg) : PySem.W.findIn K (.ref (He.ga K "Field")) "__class__" = some (some (.builtin "object.__class__")) := of_decide_eq_true (T.say 13)
theorem _root_.L2.RL.Tx.ig_Field {K : PySem.W.Frag} {mg : Str → Option Value} (T : T0 K mg) : PySem.W.specialIn K (.builtin "object.__class__") "__get__" = some (some (.builtin "getset_descriptor.__get__")) := of_decide_eq_true (T.say 14)
theorem _root_.L2.RL.Tx.it_Field {K : PySem.W.Frag} {mg : Str → Option Value} (T : T0 K mg) : PySem.W.takesIn K (.builtin "object.__class__") = some true := of_decide_eq_true (T.say 15)
theorem _root_.L2.RL.Tx.im_Field {K : PySem.W.Frag} {mg : Str → Option Value} (T : T0 K mg) : PySem.W.mroIn K (He.ga K "Field") (.type "object") = some true := of_decide_eq_true (T.say 16)
theorem _root_.L2.RL.Tx.is_Field {K : PySem.W.Frag} {mg : Str → Option Value} (T : T0 K mg) : PySem.W.kitOne K (.ref (He.ga K "Field")) (.type "str") = some false := of_decide_eq_true (T.say 17)
theorem TT.pp_Field_style {K : PySem.W.Frag} {mg : Str → Option Value} (T : TT K mg) : PropOf K (He.ga K "Field") "style" (He.ma K (He.ga K "Field") "style") (gAd K "Field" "style") := (T.pr.at_ 0).1
theorem TT.d_Field_style {K : PySem.W.Frag} {mg : Str → Option Value} (T : TT K mg) : ∃ fd, FunD K "style" "Field.style" (defArgs (inClass (top 18) 4)) (defBody (inClass (top 18) 4)) (defScope (inClass (top 18) 4)) [] [] (gAd K "Field" "style") fd := (T.pr.at_ 0).2
theorem TT.pp_Field_is_relative {K : PySem.W.Frag} {mg : Str → Option Value} (T : TT K mg) : PropOf K (He.ga K "Field") "is_relative" (He.ma K (He.ga K "Field") "is_relative") (gAd K "Field" "is_relative") := (T.pr.at_ 1).1
theorem TT.d_Field_is_relative {K : PySem.W.Frag} {mg : Str → Option Value} (T : TT K mg) : ∃ fd, FunD K "is_relative" "Field.is_relative" (defArgs (inClass (top 18) 5)) (defBody (inClass (top 18) 5)) (defScope (inClass (top 18) 5)) [] [] (gAd K "Field" "is_relative") fd := (T.pr.at_ 1).2
theorem TT.pp_Field_is_signed {K : PySem.W.Frag} {mg : Str → Option Value} (T : TT K mg) : PropOf K (He.ga K "Field") "is_signed" (He.ma K (He.ga K "Field") "is_signed") (gAd K "Field" "is_signed") := (T.pr.at_ 2).1
theorem TT.d_Field_is_signed {K : PySem.W.Frag} {mg : Str → Option Value} (T : TT K mg) : ∃ fd, FunD K "is_signed" "Field.is_signed" (defArgs (inClass (top 18) 6)) (defBody (inClass (top 18) 6)) (defScope (inClass (top 18) 6)) [] [] (gAd K "Field" "is_signed") fd := (T.pr.at_ 2).2
end T16
end
section
set_option Elab.async false
set_option linter.all false
set_option maxRecDepth 100000
set_option maxHeartbeats 1000000
namespace T16
open PySem PySem.Spec PyProof.Rows L2 L2.RL
local macro_rules | `(tactic| walk_at "rl ty") => `(tactic| first
  | assumption
  | exact .base (.int _)
  | exact .base (.str _)
  | exact .base .non
  | exact .base (.bl _)
  | exact ty_sqT (by walk_at "rl hp")
  | exact ty_sqL (by walk_at "rl hp")
  | exact .base (.tup (by walk_at "rl hp"))
  | exact .base (.lst (by walk_at "rl hp"))
  | exact .base (.dK (by walk_at "rl hp")))
local macro_rules | `(tactic| walk_at "rl if") => `(tactic| first
  | with_reducible refine iteT' rfl ?_
  | with_reducible refine iteF' rfl ?_
  | (refine iteT' rfl ?_)
  | (refine iteF' rfl ?_))
local macro_rules | `(tactic| walk_at "rl side") => `(tactic| first | assumption | omega | (constructor <;> omega) | decide)
local macro_rules | `(tactic| walk_at "rl ne") => `(tactic| first
  | assumption
  | exact Ne.symm (by assumption)
  | walk_at "rl ne2"
  | exact ne_of (by assumption) (by walk_at "rl hq") (by intro z; cases z)
  | exact (ne_of (by assumption) (by walk_at "rl hq") (by intro z; cases z)).symm)
local macro_rules | `(tactic| walk_at "rl hq") => `(tactic| first
  | assumption
  | exact upd_same
  | (refine' upd_at ?rlne ?rlhq; (case rlne => walk_at "rl ne"); (case rlhq => walk_at "rl hq"))
  | (refine' Same.at ?rlsa ?rlhq; (case rlsa => assumption); (case rlhq => walk_at "rl hq"))
  | (refine' But.at ?rlbu ?rlne ?rlhq; (case rlbu => assumption); (case rlne => walk_at "rl ne"); (case rlhq => walk_at "rl hq")))
local macro_rules | `(tactic| walk_at "rl hp") => `(tactic| first
  | assumption
  | (refine' SqL.of ?rlhq; (case rlhq => walk_at "rl hq"))
  | (refine' SqT.of ?rlhq; (case rlhq => walk_at "rl hq"))
  | (refine' Same.seq ?rlsa ?rlhp; (case rlsa => assumption); (case rlhp => walk_at "rl hp"))
  | (refine' Same.sqT ?rlsa ?rlhp; (case rlsa => assumption); (case rlhp => walk_at "rl hp"))
  | walk_at "rl hp2"
  | walk_at "rl hq")
local macro_rules | `(tactic| walk_at "rl w1") => `(tactic| first
  | with_reducible refine w_seq ?_
  | ((with_reducible refine' w_var ?rlv ?_); (case rlv => exact rfl))
  | with_reducible refine w_c ?_
  | with_reducible refine w_op ?_
  | with_reducible refine w_I0 ?_
  | with_reducible refine w_asg ?_
  | ((with_reducible refine' w_gName ?_); dsimp only [List.set])
  | ((with_reducible refine' w_nxD ?rle ?_); (case rle => exact rfl))
  | ((with_reducible refine' w_rtD ?rle ?_); (case rle => exact rfl))
  | with_reducible refine w_next ?_
  | with_reducible refine w_ret ?_
  | with_reducible refine w_cons ?_
  | with_reducible refine w_nil ?_
  | with_reducible refine w_ifS ?_
  | with_reducible refine w_test ?_
  | with_reducible refine w_B ?_
  | with_reducible refine w_bl ?_
  | with_reducible refine w_bl1 ?_
  | with_reducible refine w_blR ?_
  | with_reducible refine w_eqI ?_
  | with_reducible refine w_neI ?_
  | with_reducible refine w_eqS ?_
  | with_reducible refine w_neS ?_
  | with_reducible refine w_eqB ?_
  | with_reducible refine w_neB ?_
  | with_reducible refine w_and ?_
  | with_reducible refine w_or ?_
  | with_reducible refine w_not ?_
  | with_reducible refine w_andV ?_
  | with_reducible refine w_orV ?_
  | with_reducible refine w_notV ?_
  | with_reducible refine w_if ?_
  | with_reducible refine w_chain ?_
  | with_reducible refine w_un ?_
  | with_reducible refine w_U ?_
  | ((with_reducible refine' w_I ?rlc ?_); (case rlc => walk_at "rl side"))
  | with_reducible refine w_drop ?_
  | with_reducible refine w_retN ?_
  | with_reducible refine w_par ?_
  | ((with_reducible refine' w_par2 ?_); dsimp only [List.set])
  | ((with_reducible refine' w_aug ?rla ?_); (case rla => exact rfl))
  | with_reducible refine w_ipI ?_
  | with_reducible refine w_break ?_
  | with_reducible refine w_cont ?_
  | ((with_reducible refine' w_bkD ?rle ?_); (case rle => exact rfl))
  | ((with_reducible refine' w_ctD ?rle ?_); (case rle => exact rfl))
  | with_reducible refine w_tup ?_
  | with_reducible refine w_lst ?_
  | ((with_reducible refine' w_newO ?rln ?_); (case rln => exact Nat.le_of_ble_eq_true rfl); intro _ _ _ _ _)
  | ((with_reducible refine' w_new ?rln ?_); (case rln => exact Nat.le_of_ble_eq_true rfl))
  | ((with_reducible refine' w_mk ?_); intro _ _ _ _ _)
  | ((with_reducible refine' w_gTup ?rls ?rll ?_); (case rls => walk_at "rl hp"); (case rll => exact rfl))
  | with_reducible refine w_gCons ?_
  | with_reducible refine w_gNil ?_
  | with_reducible refine w_gSub ?_
  | ((with_reducible refine' w_setL ?rls ?rlj ?_); (case rls => walk_at "rl hp"); (case rlj => exact rfl))
  | ((with_reducible refine' w_ixL ?rls ?rli ?_); (case rls => walk_at "rl hp"); (case rli => exact rfl))
  | ((with_reducible refine' w_ixT ?rls ?rli ?_); (case rls => walk_at "rl hp"); (case rli => exact rfl))
  | with_reducible refine w_call ?_
  | with_reducible refine w_trI ?_
  | with_reducible refine w_yes ?_
  | with_reducible refine w_trB ?_
  | with_reducible refine w_trN ?_
  | with_reducible refine w_cb ?_
  | with_reducible refine w_fld ?_
  | ((with_reducible refine' w_fld1 ?rlo ?rlc ?rln ?rll ?_); (case rlo => walk_at "rl hp"); (case rlc => assumption); (case rln => assumption); (case rll => exact rfl))
  | with_reducible refine w_isiO ?_
  | with_reducible refine w_isiT ?_
  | ((with_reducible refine' w_isi (r := true) ?rlt ?rlk ?_); (case rlt => walk_at "rl ty"); (case rlk => exact rfl))
  | ((with_reducible refine' w_isi (r := false) ?rlt ?rlk ?_); (case rlt => walk_at "rl ty"); (case rlk => exact rfl))
  | ((with_reducible refine' w_isi2 (r := true) ?rlT ?rlt ?rlk ?_); (case rlT => walk_at "rl hp"); (case rlt => walk_at "rl ty"); (case rlk => exact rfl))
  | ((with_reducible refine' w_isi2 (r := false) ?rlT ?rlt ?rlk ?_); (case rlT => walk_at "rl hp"); (case rlt => walk_at "rl ty"); (case rlk => exact rfl))
  | with_reducible refine w_sFld ?_
  | with_reducible refine w_itemsK ?_
  | ((with_reducible refine' w_catT ?rlha ?rlhb ?rln1 ?rln2 ?rlhl ?_); (case rlha => walk_at "rl hp"); (case rlhb => walk_at "rl hp"); (case rln1 => exact (fun z => nomatch z)); (case rln2 => exact (fun z => nomatch z)); (case rlhl => exact Nat.le_trans (Nat.le_of_ble_eq_true rfl) (show 100000 ≤ sizeLine by decide)))
  | ((with_reducible refine' w_newE ?_); intro _ _ _ _ _)
  | with_reducible refine w_makeK ?_
  | ((with_reducible refine' w_sFld1 ?rlc ?rln ?rll ?rle ?_); (case rlc => assumption); (case rln => assumption); (case rll => exact Nat.lt_of_lt_of_le (Nat.lt_succ_self _) (Nat.le_of_ble_eq_true rfl)); (case rle => exact rfl))
  | ((with_reducible refine' w_sFld0 ?rlx ?rlc ?rln ?rll ?rle ?_); (case rlx => walk_at "rl hq"); (case rlc => assumption); (case rln => assumption); (case rll => exact Nat.lt_of_lt_of_le (Nat.lt_succ_self _) (Nat.le_of_ble_eq_true rfl)); (case rle => exact rfl))
  | with_reducible refine w_rflA ?_
  | with_reducible refine w_for ?_
  | with_reducible refine w_iList ?_
  | with_reducible refine w_iTup ?_
  | ((with_reducible refine' w_overL ?rls ?_); (case rls => walk_at "rl hp"))
  | ((with_reducible refine' w_overT ?rls ?_); (case rls => walk_at "rl hp"))
  | with_reducible refine w_rng1 ?_
  | ((with_reducible refine' w_rng1a ?rl1 ?rl2 ?_); (case rl1 => omega); (case rl2 => omega))
  | with_reducible refine w_rng2 ?_
  | ((with_reducible refine' w_rng2a ?rl1 ?_); (case rl1 => omega))
  | with_reducible refine w_zip2 ?_
  | with_reducible refine w_lc ?_
  | with_reducible refine w_enS ?_
  | with_reducible refine w_callSD ?_
  | with_reducible refine w_xf ?_
  | ((with_reducible refine' w_dnew ?_); intro _ _ _ _ _)
  | ((with_reducible refine' w_disp1 ?_); intro _ _ _ _ _)
  | with_reducible refine w_bm ?_
  | ((with_reducible refine' w_tyL ?rls ?_); (case rls => walk_at "rl hp"))
  | ((with_reducible refine' w_append ?rls ?rll ?_); (case rls => walk_at "rl hq"); (case rll => exact Nat.lt_of_lt_of_le (Nat.lt_succ_self _) (Nat.le_of_ble_eq_true rfl)))
  | ((with_reducible refine' w_cat ?rls ?rlt ?rll ?_); (case rls => walk_at "rl hq"); (case rlt => walk_at "rl hq"); (case rll => exact Nat.le_of_ble_eq_true rfl); intro _ _ _ _ _)
  | with_reducible refine w_int1 ?_
  | ((with_reducible refine w_intb ?_); (try dsimp only))
  | with_reducible refine w_one ?_
  | with_reducible refine w_two ?_
  | ((with_reducible refine' w_lenL ?rls ?_); (case rls => walk_at "rl hp"))
  | ((with_reducible refine' w_lenT ?rls ?_); (case rls => walk_at "rl hp"))
  | with_reducible refine w_meth ?_
  | ((with_reducible refine' w_meth1 ?rlo ?rll ?_); (case rlo => walk_at "rl hp"); (case rll => exact rfl)))
local macro_rules | `(tactic| walk_at "rl wp") => `(tactic| (repeat walk_at "rl w1"))
local macro_rules | `(tactic| walk_at "rl but") => `(tactic| first
  | assumption
  | exact But.refl _ _
  | exact But.upd
  | exact But.of_same (by assumption)
  | (refine But.trans ?_ (But.of_same (by assumption)); walk_at "rl but")
  | (refine But.trans ?_ (by assumption : But _ _ _); walk_at "rl but")
  | (refine But.trans ?_ But.upd; walk_at "rl but"))
local macro_rules | `(tactic| walk_at "rl same") => `(tactic| first
  | assumption
  | exact Same.refl _
  | (refine Same.trans ?_ (by assumption : Same _ _); walk_at "rl same"))

local macro_rules | `(tactic| walk_at "rl wi") => `(tactic| (repeat (first
  | walk_at "rl w1"
  | ((with_reducible refine' iteF' ?rlif ?_); (case rlif => exact rfl))
  | ((with_reducible refine' iteT' ?rlif ?_); (case rlif => exact rfl)))))

def Bag (H : Hp) (a : Addr) (n : Int) : Prop := ∃ b0 b1 b2 : Int, H a = some (.lst [.int b0, .int b1, .int b2]) ∧ 0 ≤ b0 ∧ 0 ≤ b1 ∧ b1 < 2 ^ 61 ∧ 0 ≤ b2 ∧ b2 ≤ n
def spTake : Sp := fun vs H Q _ => ∃ (a : Addr) (many n : Int), vs = [.ref a, .int many] ∧ Bag H a n ∧ n < 2 ^ 40 ∧ 0 < many ∧ many < 2 ^ 64 ∧
  ∀ (r : Int) (H' : Hp), But a H H' → Bag H' a (n + 1) → 0 ≤ r → r < many → Q (.int r) H'
theorem Bag.same {H H' : Hp} {a : Addr} {n : Int} (s : Same H H') (b : Bag H a n) : Bag H' a n := by
  obtain ⟨b0, b1, b2, h, r⟩ := b
  exact ⟨b0, b1, b2, s _ _ h, r⟩
theorem Bag.le {H : Hp} {a : Addr} {n m : Int} (b : Bag H a n) (h : n ≤ m) : Bag H a m := by
  obtain ⟨b0, b1, b2, h1, h2, h3, h4, h5, h6⟩ := b
  exact ⟨b0, b1, b2, h1, h2, h3, h4, h5, by omega⟩
theorem Bag.ne {H : Hp} {a b : Addr} {n : Int} (h : Bag H a n) {o : HO} (e : H b = some o) (d : ∀ xs, o ≠ .lst xs) : b ≠ a := by
  obtain ⟨b0, b1, b2, h1, _⟩ := h
  exact ne_of e h1 (d _)
theorem w_take {H : Hp} {Q : VK} {E : XK} {a : Addr} {many n : Int} (b : Bag H a n) (hn : n < 2 ^ 40) (h0 : 0 < many) (h1 : many < 2 ^ 64)
    (h : ∀ (r : Int) (H' : Hp), But a H H' → Bag H' a (n + 1) → 0 ≤ r → r < many → Q (.int r) H') : spTake ([.ref a, .int many] ++ []) H Q E := ⟨a, many, n, rfl, b, hn, h0, h1, h⟩
theorem Bag.neN {H : Hp} {a p : Addr} {n : Int} (e : H p = none) (h : Bag H a n) : p ≠ a := by
  obtain ⟨b0, b1, b2, h1, _⟩ := h
  intro z
  rw [z, h1] at e
  cases e
theorem pickI {P : Int → Prop} {ns : List Int} {i : Int} (h0 : 0 ≤ i) (h1 : i < ns.length) (h : ∀ n ∈ ns, P n) : ∃ n, atI (ns.map V.int) i = some (.int n) ∧ P n := by
  obtain ⟨k, rfl⟩ : ∃ k : Nat, i = k := ⟨i.toNat, by omega⟩
  have hk : k < ns.length := by omega
  exact ⟨ns[k], atI_nat (by rw [List.getElem?_map, List.getElem?_eq_getElem hk]; rfl), h _ (List.getElem_mem hk)⟩
def spOf (K : PySem.W.Frag) : Sp := fun vs H Q _ => ∃ (a p : Addr) (xs : List V) (n : Int), vs = [.ref a, .ref p] ∧ Bag H a n ∧ n < 2 ^ 40 ∧ p ≠ a ∧ SqL K H p xs ∧ 0 < xs.length ∧ xs.length < 1000 ∧ ∀ x H', But a H H' → Bag H' a (n + 1) → x ∈ xs → Q x H'
def spBag (K : PySem.W.Frag) : Sp := fun vs H Q _ => ∃ (sc : Addr) (ns : List Int) (i : Int), vs = [.ref sc, .int i] ∧ SqL K H sc (ns.map V.int) ∧ 0 ≤ i ∧ i < 1000 ∧ ∀ p H', H p = none → Same H H' → Bag H' p 0 → Q (.ref p) H'
def spNames : Sp := fun vs H Q _ => vs = [] ∧ ∀ p H', H p = none → Same H H' → H' p = some (.lst [.str "number", .str "flags", .str "size", .str "amount", .str "low", .str "high", .str "plow", .str "phigh", .str "exponent", .str "unit", .str "usages"]) → Q (.ref p) H'
theorem start_9_2 (x0 x1 x2 x3 x4 x5 x6 x7 x8 : Str) (v0 v1 : V) : L2.start [x0, x1, x2, x3, x4, x5, x6, x7, x8] [v0, v1] = [some v0, some v1, none, none, none, none, none, none, none] := rfl
theorem sc__law_take : FnScope ["_law_bag_here", "_law_many", "_law_digit", "_law_primes", "_law_step", "_law_base", "_law_mixed", "_law_more", "_law_last"] ["_law_bag_here", "_law_many"] (defScope (top 21)) := ⟨rfl, rfl, rfl, by decide +kernel, rfl, by decide +kernel, by decide +kernel⟩
theorem ok__law_take {P : Program} {w : World} {K : PySem.W.Frag} {mg : Str → Option Value} {base : Heap} (T : TT K mg)    : Ld P w K mg base CX0 1 "_law_take" ["_law_bag_here", "_law_many"] [] (spTake) := by
  obtain ⟨fd, F⟩ := T.d__law_take
  refine ⟨⟨fd, [], F.ok sc__law_take (fun vs H Q E h => ?_) (fun cdv A outer s H vs Q E hr h => ?_), FunD.bindsN F (fun _ _ _ _ _ _ us hl => match us, hl with | [_, _], _ => rfl), .nil⟩, T.g__law_take, F.kp⟩
  · obtain ⟨a, many, n, rfl, _⟩ := h
    rfl
  · obtain ⟨a, many, n, rfl, ⟨b0, b1, b2, ha, h0, h1, h1', h2, h2'⟩, hn, hm, hm', q⟩ := h
    refine ⟨_, PSs.nox ((pss_cons (ps_if (pt_cmpR op_gt (pe_ix ix_list (pv 0) pe_int (fun _ _ => rfl)) pe_int (nomark _)) (pss_cons (ps_set (i := 2) sc__law_take.nd rfl (by first | exact Or.inl rfl | exact Or.inr rfl) (pe_op op_modN (pe_callTy call_int1 (by rfl) T.m_int (by decide +kernel) (pa_cons (pe_ix ix_list (pv 0) pe_int (fun _ _ => rfl)) pa_nil)) (pv 1))) (pss_cons (ps_asg (pe_op op_fdivW (pe_ix ix_list (pv 0) pe_int (fun _ _ => rfl)) (pv 1)) (pg_sub (pv 0) pe_int set_list)) (pss_one (ps_ret (pv 2))))) pss_nil) (pss_cons (ps_set (i := 3) sc__law_take.nd rfl (by first | exact Or.inl rfl | exact Or.inr rfl) (pe_tup (pa_cons pe_int (pa_cons pe_int (pa_cons pe_int (pa_cons pe_int (pa_cons pe_int pa_nil))))))) (pss_cons (ps_asg (pe_op op_add (pe_ix ix_list (pv 0) pe_int (fun _ _ => rfl)) pe_int) (pg_sub (pv 0) pe_int set_list)) (pss_cons (ps_set (i := 4) sc__law_take.nd rfl (by first | exact Or.inl rfl | exact Or.inr rfl) (pe_callTy call_int1 (by rfl) T.m_int (by decide +kernel) (pa_cons (pe_ix ix_list (pv 0) pe_int (fun _ _ => rfl)) pa_nil))) (pss_cons (ps_set (i := 5) sc__law_take.nd rfl (by first | exact Or.inl rfl | exact Or.inr rfl) (pe_op op_add (pe_op op_add (pe_op op_mulW (pe_ix ix_list (pv 0) pe_int (fun _ _ => rfl)) (pe_op op_add (pe_op op_mulW pe_int (pv 4)) pe_int)) (pe_op op_mulW (pe_op op_mulW pe_int (pv 4)) (pv 4))) pe_int)) (pss_cons (ps_set (i := 6) sc__law_take.nd rfl (by first | exact Or.inl rfl | exact Or.inr rfl) (pe_op op_modN (pe_callTy call_int1 (by rfl) T.m_int (by decide +kernel) (pa_cons (pe_op op_powG (pv 5) pe_int) pa_nil)) (pe_ix ix_tup (pv 3) (pe_op op_modN (pe_callTy call_int1 (by rfl) T.m_int (by decide +kernel) (pa_cons (pv 4) pa_nil)) pe_int) (fun _ _ => rfl)))) (pss_cons (ps_set (i := 7) sc__law_take.nd rfl (by first | exact Or.inl rfl | exact Or.inr rfl) (pe_op op_add (pe_op op_add (pe_op op_fdivW (pv 6) pe_int) (pe_op op_mulW pe_int (pv 4))) pe_int)) (pss_cons (ps_set (i := 8) sc__law_take.nd rfl (by first | exact Or.inl rfl | exact Or.inr rfl) (pe_op op_modN (pe_callTy call_int1 (by rfl) T.m_int (by decide +kernel) (pa_cons (pe_op op_mulW (pv 6) (pv 7)) pa_nil)) (pe_ix ix_tup (pv 3) (pe_op op_modN (pe_callTy call_int1 (by rfl) T.m_int (by decide +kernel) (pa_cons (pe_op op_add (pv 4) pe_int) pa_nil)) pe_int) (fun _ _ => rfl)))) (pss_one (ps_ret (pe_op op_modN (pe_callTy call_int1 (by rfl) T.m_int (by decide +kernel) (pa_cons (pe_op op_fdivW (pv 8) pe_int) pa_nil)) (pv 1))))))))))))), ?_⟩; rw [start_9_2]; try dsimp only [cxOf]
    walk_at "rl wp"
    refine ite_dec (fun c => ?_) (fun c => ?_)
    · have cd : CDivW b0 many := cd_of 64 hm (by omega) (by decide) (by decide)
      have hne : many ≠ 0 := by omega
      walk_at "rl wp"
      refine q _ _ But.upd ⟨b0 / many, b1, b2, upd_same, ?_, h1, h1', h2, by omega⟩ (fmod_lo hm) (fmod_hi hm)
      exact Int.ediv_nonneg h0 (by omega)
    obtain ⟨x, hx⟩ : ∃ x, x = b2 + 1 := ⟨_, rfl⟩
    have x0 : 0 ≤ x := by omega
    have x1 : x < 2 ^ 41 := by omega
    have k1 : CMulW 2 x := cm_of 64 (by decide) (by omega) (by decide) (by decide)
    have k2 : CMulW b1 (2 * x + 3) := cm_of 64 (by omega) (by omega) (by decide) (by decide)
    have k3 : CMulW 4001 x := cm_of 64 (by decide) (by omega) (by decide) (by decide)
    have k4 : CMulW (4001 * x) x := cm_of 64 (by omega) (by omega) (by decide) (by decide)
    have k8 : CMulW 5 x := cm_of 64 (by decide) (by omega) (by decide) (by decide)
    obtain ⟨B, hB⟩ : ∃ B, B = b1 * (2 * x + 3) + 4001 * x * x + 59 := ⟨_, rfl⟩
    have hb : B.natAbs < 2 ^ 140 := by
      have w1 : (b1 * (2 * x + 3)).natAbs < 2 ^ (64 + 64) := wide_lt (by omega) (by omega)
      have w2 : (4001 * x * x).natAbs < 2 ^ (64 + 64) := wide_lt (by omega) (by omega)
      rw [hB]
      omega
    have k5 : CPowW B 3 := ⟨Nat.lt_of_lt_of_le (PySem.Flt.log2_lt_of (by decide) hb) (by decide), by decide, by decide⟩
    obtain ⟨p1, e1, g1, g2⟩ := pickI (i := x.fmod 5) (P := fun z => 2147483500 < z ∧ z < 2147483648) (ns := [2147483629, 2147483587, 2147483579, 2147483563, 2147483549]) (fmod_lo (by decide)) (fmod_hi (by decide)) (by decide)
    obtain ⟨p2, e2, g3, g4⟩ := pickI (i := (x + 3).fmod 5) (P := fun z => 2147483500 < z ∧ z < 2147483648) (ns := [2147483629, 2147483587, 2147483579, 2147483563, 2147483549]) (fmod_lo (by decide)) (fmod_hi (by decide)) (by decide)
    have z1 : p1 ≠ 0 := by omega
    have z2 : p2 ≠ 0 := by omega
    obtain ⟨m, hm3⟩ : ∃ m, m = (B ^ (3 : Int).toNat).fmod p1 := ⟨_, rfl⟩
    have m0 : 0 ≤ m := by rw [hm3]; exact fmod_lo (by omega)
    have m1 : m < p1 := by rw [hm3]; exact fmod_hi (by omega)
    have k6 : CDivW m 8191 := cd_of 64 (by decide) (by decide) (by decide) (by decide)
    have k7 : CMulW m (m / 8191 + 5 * x + 2) := cm_of 64 (by omega) (by omega) (by decide) (by decide)
    have hne : many ≠ 0 := by omega
    walk_at "rl wp"
    rw [← hx]
    walk_at "rl wp"
    rw [← hB]
    walk_at "rl wp"
    refine w_ixT (by walk_at "rl hp") e1 ?_
    walk_at "rl wp"
    rw [← hm3]
    walk_at "rl wp"
    refine w_ixT (by walk_at "rl hp") e2 ?_
    walk_at "rl wp"
    with_reducible refine w_I (cd_of 64 (by decide) (by decide) (by decide) (by decide)) ?_
    walk_at "rl wp"
    refine q _ _ (by walk_at "rl but") ⟨b0, b1, x, upd_same, h0, h1, h1', x0, by omega⟩ (fmod_lo hm) (fmod_hi hm)
end T16
end
section
set_option Elab.async false
set_option linter.all false
set_option maxRecDepth 100000
set_option maxHeartbeats 1000000
namespace T16
open PySem PySem.Spec PyProof.Rows L2 L2.RL
local macro_rules | `(tactic| walk_at "rl ty") => `(tactic| first
  | assumption
  | exact .base (.int _)
  | exact .base (.str _)
  | exact .base .non
  | exact .base (.bl _)
  | exact ty_sqT (by walk_at "rl hp")
  | exact ty_sqL (by walk_at "rl hp")
  | exact .base (.tup (by walk_at "rl hp"))
  | exact .base (.lst (by walk_at "rl hp"))
  | exact .base (.dK (by walk_at "rl hp")))
local macro_rules | `(tactic| walk_at "rl if") => `(tactic| first
  | with_reducible refine iteT' rfl ?_
  | with_reducible refine iteF' rfl ?_
  | (refine iteT' rfl ?_)
  | (refine iteF' rfl ?_))
local macro_rules | `(tactic| walk_at "rl side") => `(tactic| first | assumption | omega | (constructor <;> omega) | decide)
local macro_rules | `(tactic| walk_at "rl ne") => `(tactic| first
  | assumption
  | exact Ne.symm (by assumption)
  | walk_at "rl ne2"
  | exact ne_of (by assumption) (by walk_at "rl hq") (by intro z; cases z)
  | exact (ne_of (by assumption) (by walk_at "rl hq") (by intro z; cases z)).symm)
local macro_rules | `(tactic| walk_at "rl hq") => `(tactic| first
  | assumption
  | exact upd_same
  | (refine' upd_at ?rlne ?rlhq; (case rlne => walk_at "rl ne"); (case rlhq => walk_at "rl hq"))
  | (refine' Same.at ?rlsa ?rlhq; (case rlsa => assumption); (case rlhq => walk_at "rl hq"))
  | (refine' But.at ?rlbu ?rlne ?rlhq; (case rlbu => assumption); (case rlne => walk_at "rl ne"); (case rlhq => walk_at "rl hq")))
local macro_rules | `(tactic| walk_at "rl hp") => `(tactic| first
  | assumption
  | (refine' SqL.of ?rlhq; (case rlhq => walk_at "rl hq"))
  | (refine' SqT.of ?rlhq; (case rlhq => walk_at "rl hq"))
  | (refine' Same.seq ?rlsa ?rlhp; (case rlsa => assumption); (case rlhp => walk_at "rl hp"))
  | (refine' Same.sqT ?rlsa ?rlhp; (case rlsa => assumption); (case rlhp => walk_at "rl hp"))
  | walk_at "rl hp2"
  | walk_at "rl hq")
local macro_rules | `(tactic| walk_at "rl w1") => `(tactic| first
  | with_reducible refine w_seq ?_
  | ((with_reducible refine' w_var ?rlv ?_); (case rlv => exact rfl))
  | with_reducible refine w_c ?_
  | with_reducible refine w_op ?_
  | with_reducible refine w_I0 ?_
  | with_reducible refine w_asg ?_
  | ((with_reducible refine' w_gName ?_); dsimp only [List.set])
  | ((with_reducible refine' w_nxD ?rle ?_); (case rle => exact rfl))
  | ((with_reducible refine' w_rtD ?rle ?_); (case rle => exact rfl))
  | with_reducible refine w_next ?_
  | with_reducible refine w_ret ?_
  | with_reducible refine w_cons ?_
  | with_reducible refine w_nil ?_
  | with_reducible refine w_ifS ?_
  | with_reducible refine w_test ?_
  | with_reducible refine w_B ?_
  | with_reducible refine w_bl ?_
  | with_reducible refine w_bl1 ?_
  | with_reducible refine w_blR ?_
  | with_reducible refine w_eqI ?_
  | with_reducible refine w_neI ?_
  | with_reducible refine w_eqS ?_
  | with_reducible refine w_neS ?_
  | with_reducible refine w_eqB ?_
  | with_reducible refine w_neB ?_
  | with_reducible refine w_and ?_
  | with_reducible refine w_or ?_
  | with_reducible refine w_not ?_
  | with_reducible refine w_andV ?_
  | with_reducible refine w_orV ?_
  | with_reducible refine w_notV ?_
  | with_reducible refine w_if ?_
  | with_reducible refine w_chain ?_
  | with_reducible refine w_un ?_
  | with_reducible refine w_U ?_
  | ((with_reducible refine' w_I ?rlc ?_); (case rlc => walk_at "rl side"))
  | with_reducible refine w_drop ?_
  | with_reducible refine w_retN ?_
  | with_reducible refine w_par ?_
  | ((with_reducible refine' w_par2 ?_); dsimp only [List.set])
  | ((with_reducible refine' w_aug ?rla ?_); (case rla => exact rfl))
  | with_reducible refine w_ipI ?_
  | with_reducible refine w_break ?_
  | with_reducible refine w_cont ?_
  | ((with_reducible refine' w_bkD ?rle ?_); (case rle => exact rfl))
  | ((with_reducible refine' w_ctD ?rle ?_); (case rle => exact rfl))
  | with_reducible refine w_tup ?_
  | with_reducible refine w_lst ?_
  | ((with_reducible refine' w_newO ?rln ?_); (case rln => exact Nat.le_of_ble_eq_true rfl); intro _ _ _ _ _)
  | ((with_reducible refine' w_new ?rln ?_); (case rln => exact Nat.le_of_ble_eq_true rfl))
  | ((with_reducible refine' w_mk ?_); intro _ _ _ _ _)
  | ((with_reducible refine' w_gTup ?rls ?rll ?_); (case rls => walk_at "rl hp"); (case rll => exact rfl))
  | with_reducible refine w_gCons ?_
  | with_reducible refine w_gNil ?_
  | with_reducible refine w_gSub ?_
  | ((with_reducible refine' w_setL ?rls ?rlj ?_); (case rls => walk_at "rl hp"); (case rlj => exact rfl))
  | ((with_reducible refine' w_ixL ?rls ?rli ?_); (case rls => walk_at "rl hp"); (case rli => exact rfl))
  | ((with_reducible refine' w_ixT ?rls ?rli ?_); (case rls => walk_at "rl hp"); (case rli => exact rfl))
  | with_reducible refine w_call ?_
  | with_reducible refine w_trI ?_
  | with_reducible refine w_yes ?_
  | with_reducible refine w_trB ?_
  | with_reducible refine w_trN ?_
  | with_reducible refine w_cb ?_
  | with_reducible refine w_fld ?_
  | ((with_reducible refine' w_fld1 ?rlo ?rlc ?rln ?rll ?_); (case rlo => walk_at "rl hp"); (case rlc => assumption); (case rln => assumption); (case rll => exact rfl))
  | with_reducible refine w_isiO ?_
  | with_reducible refine w_isiT ?_
  | ((with_reducible refine' w_isi (r := true) ?rlt ?rlk ?_); (case rlt => walk_at "rl ty"); (case rlk => exact rfl))
  | ((with_reducible refine' w_isi (r := false) ?rlt ?rlk ?_); (case rlt => walk_at "rl ty"); (case rlk => exact rfl))
  | ((with_reducible refine' w_isi2 (r := true) ?rlT ?rlt ?rlk ?_); (case rlT => walk_at "rl hp"); (case rlt => walk_at "rl ty"); (case rlk => exact rfl))
  | ((with_reducible refine' w_isi2 (r := false) ?rlT ?rlt ?rlk ?_); (case rlT => walk_at "rl hp"); (case rlt => walk_at "rl ty"); (case rlk => exact rfl))
  | with_reducible refine w_sFld ?_
  | with_reducible refine w_itemsK ?_
  | ((with_reducible refine' w_catT ?rlha ?rlhb ?rln1 ?rln2 ?rlhl ?_); (case rlha => walk_at "rl hp"); (case rlhb => walk_at "rl hp"); (case rln1 => exact (fun z => nomatch z)); (case rln2 => exact (fun z => nomatch z)); (case rlhl => exact Nat.le_trans (Nat.le_of_ble_eq_true rfl) (show 100000 ≤ sizeLine by decide)))
  | ((with_reducible refine' w_newE ?_); intro _ _ _ _ _)
  | with_reducible refine w_makeK ?_
  | ((with_reducible refine' w_sFld1 ?rlc ?rln ?rll ?rle ?_); (case rlc => assumption); (case rln => assumption); (case rll => exact Nat.lt_of_lt_of_le (Nat.lt_succ_self _) (Nat.le_of_ble_eq_true rfl)); (case rle => exact rfl))
  | ((with_reducible refine' w_sFld0 ?rlx ?rlc ?rln ?rll ?rle ?_); (case rlx => walk_at "rl hq"); (case rlc => assumption); (case rln => assumption); (case rll => exact Nat.lt_of_lt_of_le (Nat.lt_succ_self _) (Nat.le_of_ble_eq_true rfl)); (case rle => exact rfl))
  | with_reducible refine w_rflA ?_
  | with_reducible refine w_for ?_
  | with_reducible refine w_iList ?_
  | with_reducible refine w_iTup ?_
  | ((with_reducible refine' w_overL ?rls ?_); (case rls => walk_at "rl hp"))
  | ((with_reducible refine' w_overT ?rls ?_); (case rls => walk_at "rl hp"))
  | with_reducible refine w_rng1 ?_
  | ((with_reducible refine' w_rng1a ?rl1 ?rl2 ?_); (case rl1 => omega); (case rl2 => omega))
  | with_reducible refine w_rng2 ?_
  | ((with_reducible refine' w_rng2a ?rl1 ?_); (case rl1 => omega))
  | with_reducible refine w_zip2 ?_
  | with_reducible refine w_lc ?_
  | with_reducible refine w_enS ?_
  | with_reducible refine w_callSD ?_
  | with_reducible refine w_xf ?_
  | ((with_reducible refine' w_dnew ?_); intro _ _ _ _ _)
  | ((with_reducible refine' w_disp1 ?_); intro _ _ _ _ _)
  | with_reducible refine w_bm ?_
  | ((with_reducible refine' w_tyL ?rls ?_); (case rls => walk_at "rl hp"))
  | ((with_reducible refine' w_append ?rls ?rll ?_); (case rls => walk_at "rl hq"); (case rll => exact Nat.lt_of_lt_of_le (Nat.lt_succ_self _) (Nat.le_of_ble_eq_true rfl)))
  | ((with_reducible refine' w_cat ?rls ?rlt ?rll ?_); (case rls => walk_at "rl hq"); (case rlt => walk_at "rl hq"); (case rll => exact Nat.le_of_ble_eq_true rfl); intro _ _ _ _ _)
  | with_reducible refine w_int1 ?_
  | ((with_reducible refine w_intb ?_); (try dsimp only))
  | with_reducible refine w_one ?_
  | with_reducible refine w_two ?_
  | ((with_reducible refine' w_lenL ?rls ?_); (case rls => walk_at "rl hp"))
  | ((with_reducible refine' w_lenT ?rls ?_); (case rls => walk_at "rl hp"))
  | with_reducible refine w_meth ?_
  | ((with_reducible refine' w_meth1 ?rlo ?rll ?_); (case rlo => walk_at "rl hp"); (case rll => exact rfl)))
local macro_rules | `(tactic| walk_at "rl wp") => `(tactic| (repeat walk_at "rl w1"))
local macro_rules | `(tactic| walk_at "rl but") => `(tactic| first
  | assumption
  | exact But.refl _ _
  | exact But.upd
  | exact But.of_same (by assumption)
  | (refine But.trans ?_ (But.of_same (by assumption)); walk_at "rl but")
  | (refine But.trans ?_ (by assumption : But _ _ _); walk_at "rl but")
  | (refine But.trans ?_ But.upd; walk_at "rl but"))
local macro_rules | `(tactic| walk_at "rl same") => `(tactic| first
  | assumption
  | exact Same.refl _
  | (refine Same.trans ?_ (by assumption : Same _ _); walk_at "rl same"))

local macro_rules | `(tactic| walk_at "rl wi") => `(tactic| (repeat (first
  | walk_at "rl w1"
  | ((with_reducible refine' iteF' ?rlif ?_); (case rlif => exact rfl))
  | ((with_reducible refine' iteT' ?rlif ?_); (case rlif => exact rfl)))))
theorem start_4_2 (x0 x1 x2 x3 : Str) (v0 v1 : V) : L2.start [x0, x1, x2, x3] [v0, v1] = [some v0, some v1, none, none] := rfl
theorem sc__law_bag : FnScope ["_law_script", "_law_at", "_law_cell", "_law_mixed"] ["_law_script", "_law_at"] (defScope (top 20)) := ⟨rfl, rfl, rfl, by decide +kernel, rfl, by decide +kernel, by decide +kernel⟩
theorem ok__law_bag {P : Program} {w : World} {K : PySem.W.Frag} {mg : Str → Option Value} {base : Heap} (T : TT K mg)    : Ld P w K mg base CX0 1 "_law_bag" ["_law_script", "_law_at"] [] (spBag K) := by
  obtain ⟨fd, F⟩ := T.d__law_bag
  refine ⟨⟨fd, [], F.ok sc__law_bag (fun vs H Q E h => ?_) (fun cdv A outer s H vs Q E hr h => ?_), FunD.bindsN F (fun _ _ _ _ _ _ us hl => match us, hl with | [_, _], _ => rfl), .nil⟩, T.g__law_bag, F.kp⟩
  · obtain ⟨sc, ns, i, rfl, _⟩ := h
    rfl
  · obtain ⟨sc, ns, i, rfl, hs, hi, hi2, q⟩ := h
    refine ⟨_, PSs.nox ((pss_cons (ps_set (i := 2) sc__law_bag.nd rfl (by first | exact Or.inl rfl | exact Or.inr rfl) pe_int) (pss_cons (ps_if (pt_cmpR op_lt (pv 1) (pe_callB call_len_seq (by rfl) T.m_len PySem.boot_len (pa_cons (pv 0) pa_nil)) (nomark _)) (pss_one (ps_set (i := 2) sc__law_bag.nd rfl (by first | exact Or.inl rfl | exact Or.inr rfl) (pe_callB call_abs (by rfl) T.m_abs (by decide +kernel) (pa_cons (pe_ix ix_list (pv 0) (pv 1) (fun _ _ => rfl)) pa_nil)))) pss_nil) (pss_cons (ps_set (i := 3) sc__law_bag.nd rfl (by first | exact Or.inl rfl | exact Or.inr rfl) (pe_op op_add (pe_op op_add (pe_op op_add (pe_op op_modN (pe_callTy call_int1 (by rfl) T.m_int (by decide +kernel) (pa_cons (pv 2) pa_nil)) pe_int) (pe_op op_mul (pe_op op_mul pe_int (pv 1)) (pv 1))) (pe_op op_mul pe_int (pv 1))) pe_int)) (pss_one (ps_ret (pe_lst (pa_cons (pe_op op_mul (pv 2) (pe_callTy call_int1 (by rfl) T.m_int (by decide +kernel) (pa_cons (pe_cmpR op_ge (pv 2) (pe_op op_powG pe_int pe_int) (nomark _)) pa_nil))) (pa_cons (pe_op op_modN (pe_callTy call_int1 (by rfl) T.m_int (by decide +kernel) (pa_cons (pv 3) pa_nil)) pe_int) (pa_cons pe_int pa_nil)))))))))), ?_⟩; rw [start_4_2]; try dsimp only [cxOf]
    have k3 : CPowW 10 18 := ⟨by decide, by decide, by decide⟩
    have k1 : ∀ (z : Int) (b : Bool), CMul z (if b = true then 1 else 0) := fun z b => by
      right
      cases b <;> simp
    have k2 : CMul 6151 i := .inl ⟨by decide, by decide⟩
    have k4 : CMul (6151 * i) i := .inr ⟨by omega, by omega⟩
    have k5 : CMul 389 i := .inl ⟨by decide, by decide⟩
    have z0 : (10 : Int) ^ (18 : Int).toNat + 9 ≠ 0 := by decide
    walk_at "rl wp"
    refine ite_dec (fun c => ?bra) (fun c => ?brb)
    case' bra =>
      obtain ⟨j, hj⟩ : ∃ j : Nat, i = (j : Int) := ⟨i.toNat, by omega⟩
      subst hj
      have hl : j < ns.length := by
        rw [List.length_map] at c
        omega
      have hv : atI (ns.map V.int) (j : Int) = some (.int ns[j]) := atI_nat (by rw [List.getElem?_map, List.getElem?_eq_getElem hl]; rfl)
      walk_at "rl wp"
      refine w_ixL (by walk_at "rl hp") hv ?_
    all_goals walk_at "rl wp"
    all_goals try (refine w_I (k1 _ _) ?_)
    all_goals walk_at "rl wp"
    all_goals refine q _ _ (by assumption) (by assumption) ⟨_, _, _, by assumption, ?_, ?_, ?_, by decide, by decide⟩
    all_goals
      first
      | exact Int.mul_nonneg (by first | omega | (split <;> omega)) (by split <;> omega)
      | exact fmod_lo (by decide)
      | (refine Int.lt_of_lt_of_le (fmod_hi (by decide)) (by decide))
end T16
end
section
set_option Elab.async false
set_option linter.all false
set_option maxRecDepth 100000
set_option maxHeartbeats 1000000
namespace T16
open PySem PySem.Spec PyProof.Rows L2 L2.RL
local macro_rules | `(tactic| walk_at "rl ty") => `(tactic| first
  | assumption
  | exact .base (.int _)
  | exact .base (.str _)
  | exact .base .non
  | exact .base (.bl _)
  | exact ty_sqT (by walk_at "rl hp")
  | exact ty_sqL (by walk_at "rl hp")
  | exact .base (.tup (by walk_at "rl hp"))
  | exact .base (.lst (by walk_at "rl hp"))
  | exact .base (.dK (by walk_at "rl hp")))
local macro_rules | `(tactic| walk_at "rl if") => `(tactic| first
  | with_reducible refine iteT' rfl ?_
  | with_reducible refine iteF' rfl ?_
  | (refine iteT' rfl ?_)
  | (refine iteF' rfl ?_))
local macro_rules | `(tactic| walk_at "rl side") => `(tactic| first | assumption | omega | (constructor <;> omega) | decide)
local macro_rules | `(tactic| walk_at "rl ne") => `(tactic| first
  | assumption
  | exact Ne.symm (by assumption)
  | walk_at "rl ne2"
  | exact ne_of (by assumption) (by walk_at "rl hq") (by intro z; cases z)
  | exact (ne_of (by assumption) (by walk_at "rl hq") (by intro z; cases z)).symm)
local macro_rules | `(tactic| walk_at "rl hq") => `(tactic| first
  | assumption
  | exact upd_same
  | (refine' upd_at ?rlne ?rlhq; (case rlne => walk_at "rl ne"); (case rlhq => walk_at "rl hq"))
  | (refine' Same.at ?rlsa ?rlhq; (case rlsa => assumption); (case rlhq => walk_at "rl hq"))
  | (refine' But.at ?rlbu ?rlne ?rlhq; (case rlbu => assumption); (case rlne => walk_at "rl ne"); (case rlhq => walk_at "rl hq")))
local macro_rules | `(tactic| walk_at "rl hp") => `(tactic| first
  | assumption
  | (refine' SqL.of ?rlhq; (case rlhq => walk_at "rl hq"))
  | (refine' SqT.of ?rlhq; (case rlhq => walk_at "rl hq"))
  | (refine' Same.seq ?rlsa ?rlhp; (case rlsa => assumption); (case rlhp => walk_at "rl hp"))
  | (refine' Same.sqT ?rlsa ?rlhp; (case rlsa => assumption); (case rlhp => walk_at "rl hp"))
  | walk_at "rl hp2"
  | walk_at "rl hq")
local macro_rules | `(tactic| walk_at "rl w1") => `(tactic| first
  | with_reducible refine w_seq ?_
  | ((with_reducible refine' w_var ?rlv ?_); (case rlv => exact rfl))
  | with_reducible refine w_c ?_
  | with_reducible refine w_op ?_
  | with_reducible refine w_I0 ?_
  | with_reducible refine w_asg ?_
  | ((with_reducible refine' w_gName ?_); dsimp only [List.set])
  | ((with_reducible refine' w_nxD ?rle ?_); (case rle => exact rfl))
  | ((with_reducible refine' w_rtD ?rle ?_); (case rle => exact rfl))
  | with_reducible refine w_next ?_
  | with_reducible refine w_ret ?_
  | with_reducible refine w_cons ?_
  | with_reducible refine w_nil ?_
  | with_reducible refine w_ifS ?_
  | with_reducible refine w_test ?_
  | with_reducible refine w_B ?_
  | with_reducible refine w_bl ?_
  | with_reducible refine w_bl1 ?_
  | with_reducible refine w_blR ?_
  | with_reducible refine w_eqI ?_
  | with_reducible refine w_neI ?_
  | with_reducible refine w_eqS ?_
  | with_reducible refine w_neS ?_
  | with_reducible refine w_eqB ?_
  | with_reducible refine w_neB ?_
  | with_reducible refine w_and ?_
  | with_reducible refine w_or ?_
  | with_reducible refine w_not ?_
  | with_reducible refine w_andV ?_
  | with_reducible refine w_orV ?_
  | with_reducible refine w_notV ?_
  | with_reducible refine w_if ?_
  | with_reducible refine w_chain ?_
  | with_reducible refine w_un ?_
  | with_reducible refine w_U ?_
  | ((with_reducible refine' w_I ?rlc ?_); (case rlc => walk_at "rl side"))
  | with_reducible refine w_drop ?_
  | with_reducible refine w_retN ?_
  | with_reducible refine w_par ?_
  | ((with_reducible refine' w_par2 ?_); dsimp only [List.set])
  | ((with_reducible refine' w_aug ?rla ?_); (case rla => exact rfl))
  | with_reducible refine w_ipI ?_
  | with_reducible refine w_break ?_
  | with_reducible refine w_cont ?_
  | ((with_reducible refine' w_bkD ?rle ?_); (case rle => exact rfl))
  | ((with_reducible refine' w_ctD ?rle ?_); (case rle => exact rfl))
  | with_reducible refine w_tup ?_
  | with_reducible refine w_lst ?_
  | ((with_reducible refine' w_newO ?rln ?_); (case rln => exact Nat.le_of_ble_eq_true rfl); intro _ _ _ _ _)
  | ((with_reducible refine' w_new ?rln ?_); (case rln => exact Nat.le_of_ble_eq_true rfl))
  | ((with_reducible refine' w_mk ?_); intro _ _ _ _ _)
  | ((with_reducible refine' w_gTup ?rls ?rll ?_); (case rls => walk_at "rl hp"); (case rll => exact rfl))
  | with_reducible refine w_gCons ?_
  | with_reducible refine w_gNil ?_
  | with_reducible refine w_gSub ?_
  | ((with_reducible refine' w_setL ?rls ?rlj ?_); (case rls => walk_at "rl hp"); (case rlj => exact rfl))
  | ((with_reducible refine' w_ixL ?rls ?rli ?_); (case rls => walk_at "rl hp"); (case rli => exact rfl))
  | ((with_reducible refine' w_ixT ?rls ?rli ?_); (case rls => walk_at "rl hp"); (case rli => exact rfl))
  | with_reducible refine w_call ?_
  | with_reducible refine w_trI ?_
  | with_reducible refine w_yes ?_
  | with_reducible refine w_trB ?_
  | with_reducible refine w_trN ?_
  | with_reducible refine w_cb ?_
  | with_reducible refine w_fld ?_
  | ((with_reducible refine' w_fld1 ?rlo ?rlc ?rln ?rll ?_); (case rlo => walk_at "rl hp"); (case rlc => assumption); (case rln => assumption); (case rll => exact rfl))
  | with_reducible refine w_isiO ?_
  | with_reducible refine w_isiT ?_
  | ((with_reducible refine' w_isi (r := true) ?rlt ?rlk ?_); (case rlt => walk_at "rl ty"); (case rlk => exact rfl))
  | ((with_reducible refine' w_isi (r := false) ?rlt ?rlk ?_); (case rlt => walk_at "rl ty"); (case rlk => exact rfl))
  | ((with_reducible refine' w_isi2 (r := true) ?rlT ?rlt ?rlk ?_); (case rlT => walk_at "rl hp"); (case rlt => walk_at "rl ty"); (case rlk => exact rfl))
  | ((with_reducible refine' w_isi2 (r := false) ?rlT ?rlt ?rlk ?_); (case rlT => walk_at "rl hp"); (case rlt => walk_at "rl ty"); (case rlk => exact rfl))
  | with_reducible refine w_sFld ?_
  | with_reducible refine w_itemsK ?_
  | ((with_reducible refine' w_catT ?rlha ?rlhb ?rln1 ?rln2 ?rlhl ?_); (case rlha => walk_at "rl hp"); (case rlhb => walk_at "rl hp"); (case rln1 => exact (fun z => nomatch z)); (case rln2 => exact (fun z => nomatch z)); (case rlhl => exact Nat.le_trans (Nat.le_of_ble_eq_true rfl) (show 100000 ≤ sizeLine by decide)))
  | ((with_reducible refine' w_newE ?_); intro _ _ _ _ _)
  | with_reducible refine w_makeK ?_
  | ((with_reducible refine' w_sFld1 ?rlc ?rln ?rll ?rle ?_); (case rlc => assumption); (case rln => assumption); (case rll => exact Nat.lt_of_lt_of_le (Nat.lt_succ_self _) (Nat.le_of_ble_eq_true rfl)); (case rle => exact rfl))
  | ((with_reducible refine' w_sFld0 ?rlx ?rlc ?rln ?rll ?rle ?_); (case rlx => walk_at "rl hq"); (case rlc => assumption); (case rln => assumption); (case rll => exact Nat.lt_of_lt_of_le (Nat.lt_succ_self _) (Nat.le_of_ble_eq_true rfl)); (case rle => exact rfl))
  | with_reducible refine w_rflA ?_
  | with_reducible refine w_for ?_
  | with_reducible refine w_iList ?_
  | with_reducible refine w_iTup ?_
  | ((with_reducible refine' w_overL ?rls ?_); (case rls => walk_at "rl hp"))
  | ((with_reducible refine' w_overT ?rls ?_); (case rls => walk_at "rl hp"))
  | with_reducible refine w_rng1 ?_
  | ((with_reducible refine' w_rng1a ?rl1 ?rl2 ?_); (case rl1 => omega); (case rl2 => omega))
  | with_reducible refine w_rng2 ?_
  | ((with_reducible refine' w_rng2a ?rl1 ?_); (case rl1 => omega))
  | with_reducible refine w_zip2 ?_
  | with_reducible refine w_lc ?_
  | with_reducible refine w_enS ?_
  | with_reducible refine w_callSD ?_
  | with_reducible refine w_xf ?_
  | ((with_reducible refine' w_dnew ?_); intro _ _ _ _ _)
  | ((with_reducible refine' w_disp1 ?_); intro _ _ _ _ _)
  | with_reducible refine w_bm ?_
  | ((with_reducible refine' w_tyL ?rls ?_); (case rls => walk_at "rl hp"))
  | ((with_reducible refine' w_append ?rls ?rll ?_); (case rls => walk_at "rl hq"); (case rll => exact Nat.lt_of_lt_of_le (Nat.lt_succ_self _) (Nat.le_of_ble_eq_true rfl)))
  | ((with_reducible refine' w_cat ?rls ?rlt ?rll ?_); (case rls => walk_at "rl hq"); (case rlt => walk_at "rl hq"); (case rll => exact Nat.le_of_ble_eq_true rfl); intro _ _ _ _ _)
  | with_reducible refine w_int1 ?_
  | ((with_reducible refine w_intb ?_); (try dsimp only))
  | with_reducible refine w_one ?_
  | with_reducible refine w_two ?_
  | ((with_reducible refine' w_lenL ?rls ?_); (case rls => walk_at "rl hp"))
  | ((with_reducible refine' w_lenT ?rls ?_); (case rls => walk_at "rl hp"))
  | with_reducible refine w_meth ?_
  | ((with_reducible refine' w_meth1 ?rlo ?rll ?_); (case rlo => walk_at "rl hp"); (case rll => exact rfl)))
local macro_rules | `(tactic| walk_at "rl wp") => `(tactic| (repeat walk_at "rl w1"))
local macro_rules | `(tactic| walk_at "rl but") => `(tactic| first
  | assumption
  | exact But.refl _ _
  | exact But.upd
  | exact But.of_same (by assumption)
  | (refine But.trans ?_ (But.of_same (by assumption)); walk_at "rl but")
  | (refine But.trans ?_ (by assumption : But _ _ _); walk_at "rl but")
  | (refine But.trans ?_ But.upd; walk_at "rl but"))
local macro_rules | `(tactic| walk_at "rl same") => `(tactic| first
  | assumption
  | exact Same.refl _
  | (refine Same.trans ?_ (by assumption : Same _ _); walk_at "rl same"))

local macro_rules | `(tactic| walk_at "rl wi") => `(tactic| (repeat (first
  | walk_at "rl w1"
  | ((with_reducible refine' iteF' ?rlif ?_); (case rlif => exact rfl))
  | ((with_reducible refine' iteT' ?rlif ?_); (case rlif => exact rfl)))))
theorem start_2_2 (x0 x1 : Str) (v0 v1 : V) : L2.start [x0, x1] [v0, v1] = [some v0, some v1] := rfl
theorem sc__law_of : FnScope ["_law_bag_here", "_law_some"] ["_law_bag_here", "_law_some"] (defScope (top 22)) := ⟨rfl, rfl, rfl, by decide +kernel, rfl, by decide +kernel, by decide +kernel⟩
theorem ok__law_of {P : Program} {w : World} {K : PySem.W.Frag} {mg : Str → Option Value} {base : Heap} (T : TT K mg) (D__law_take : Ld P w K mg base CX0 1 "_law_take" ["_law_bag_here", "_law_many"] [] (spTake))   : Ld P w K mg base CX0 2 "_law_of" ["_law_bag_here", "_law_some"] [] (spOf K) := by
  obtain ⟨⟨fd__law_take, ds__law_take, F__law_take, b__law_take, v__law_take⟩, g__law_take, k__law_take⟩ := D__law_take
  obtain ⟨fd, F⟩ := T.d__law_of
  refine ⟨⟨fd, [], F.ok sc__law_of (fun vs H Q E h => ?_) (fun cdv A outer s H vs Q E hr h => ?_), FunD.bindsN F (fun _ _ _ _ _ _ us hl => match us, hl with | [_, _], _ => rfl), .nil⟩, T.g__law_of, F.kp⟩
  · obtain ⟨a, p, xs, n, rfl, _⟩ := h
    rfl
  · obtain ⟨a, p, xs, n, rfl, hb, hn, ne, hp, l0, l1, q⟩ := h
    refine ⟨_, PSs.nox ((pss_one (ps_ret (pe_ix ix_list (pv 1) (pe_call F__law_take hr (by rfl) g__law_take k__law_take b__law_take v__law_take pass0 (pa_cons (pv 0) (pa_cons (pe_callB call_len_seq (by rfl) T.m_len PySem.boot_len (pa_cons (pv 1) pa_nil)) pa_nil))) (fun _ _ => rfl))))), ?_⟩; rw [start_2_2]; try dsimp only [cxOf]
    walk_at "rl wp"
    refine w_take hb (by omega) (by omega) (by omega) ?_
    intro r H' bt bg r0 r1
    walk_at "rl wp"
    have hr : r.toNat < xs.length := by omega
    refine w_ixL (SqL.but bt ne hp) (show atI xs r = some xs[r.toNat] from ?_) ?_
    · have e : ((r.toNat : Nat) : Int) = r := by omega
      have h := atI_nat (xs := xs) (j := r.toNat) (v := xs[r.toNat]) (List.getElem?_eq_getElem hr)
      rw [e] at h
      exact h
    · exact q _ _ bt bg (List.getElem_mem hr)

theorem start_0_0  : L2.start [] [] = [] := rfl
theorem sc__law_names : FnScope [] [] (defScope (top 23)) := ⟨rfl, rfl, rfl, by decide +kernel, rfl, by decide +kernel, by decide +kernel⟩
theorem ok__law_names {P : Program} {w : World} {K : PySem.W.Frag} {mg : Str → Option Value} {base : Heap} (T : TT K mg)    : Ld P w K mg base CX0 1 "_law_names" [] [] (spNames) := by
  obtain ⟨fd, F⟩ := T.d__law_names
  refine ⟨⟨fd, [], F.ok sc__law_names (fun vs H Q E h => ?_) (fun cdv A outer s H vs Q E hr h => ?_), FunD.bindsN F (fun _ _ _ _ _ _ us hl => match us, hl with | [], _ => rfl), .nil⟩, T.g__law_names, F.kp⟩
  · obtain ⟨rfl, _⟩ := h
    rfl
  · obtain ⟨rfl, q⟩ := h
    refine ⟨_, PSs.nox ((pss_one (ps_ret (pe_lst (pa_cons pe_str (pa_cons pe_str (pa_cons pe_str (pa_cons pe_str (pa_cons pe_str (pa_cons pe_str (pa_cons pe_str (pa_cons pe_str (pa_cons pe_str (pa_cons pe_str (pa_cons pe_str pa_nil))))))))))))))), ?_⟩; rw [start_0_0]; try dsimp only [cxOf]
    walk_at "rl wp"
    exact q _ _ (by assumption) (by assumption) (by assumption)
end T16
end
section
set_option Elab.async false
set_option linter.all false
set_option maxRecDepth 100000
set_option maxHeartbeats 1000000
namespace T16
open PySem PySem.Spec PyProof.Rows L2 L2.RL
local macro_rules | `(tactic| walk_at "rl ty") => `(tactic| first
  | assumption
  | exact .base (.int _)
  | exact .base (.str _)
  | exact .base .non
  | exact .base (.bl _)
  | exact ty_sqT (by walk_at "rl hp")
  | exact ty_sqL (by walk_at "rl hp")
  | exact .base (.tup (by walk_at "rl hp"))
  | exact .base (.lst (by walk_at "rl hp"))
  | exact .base (.dK (by walk_at "rl hp")))
local macro_rules | `(tactic| walk_at "rl if") => `(tactic| first
  | with_reducible refine iteT' rfl ?_
  | with_reducible refine iteF' rfl ?_
  | (refine iteT' rfl ?_)
  | (refine iteF' rfl ?_))
local macro_rules | `(tactic| walk_at "rl side") => `(tactic| first | assumption | omega | (constructor <;> omega) | decide)
local macro_rules | `(tactic| walk_at "rl ne") => `(tactic| first
  | assumption
  | exact Ne.symm (by assumption)
  | walk_at "rl ne2"
  | exact ne_of (by assumption) (by walk_at "rl hq") (by intro z; cases z)
  | exact (ne_of (by assumption) (by walk_at "rl hq") (by intro z; cases z)).symm)
local macro_rules | `(tactic| walk_at "rl hq") => `(tactic| first
  | assumption
  | exact upd_same
  | (refine' upd_at ?rlne ?rlhq; (case rlne => walk_at "rl ne"); (case rlhq => walk_at "rl hq"))
  | (refine' Same.at ?rlsa ?rlhq; (case rlsa => assumption); (case rlhq => walk_at "rl hq"))
  | (refine' But.at ?rlbu ?rlne ?rlhq; (case rlbu => assumption); (case rlne => walk_at "rl ne"); (case rlhq => walk_at "rl hq")))
local macro_rules | `(tactic| walk_at "rl hp") => `(tactic| first
  | assumption
  | (refine' SqL.of ?rlhq; (case rlhq => walk_at "rl hq"))
  | (refine' SqT.of ?rlhq; (case rlhq => walk_at "rl hq"))
  | (refine' Same.seq ?rlsa ?rlhp; (case rlsa => assumption); (case rlhp => walk_at "rl hp"))
  | (refine' Same.sqT ?rlsa ?rlhp; (case rlsa => assumption); (case rlhp => walk_at "rl hp"))
  | walk_at "rl hp2"
  | walk_at "rl hq")
local macro_rules | `(tactic| walk_at "rl w1") => `(tactic| first
  | with_reducible refine w_seq ?_
  | ((with_reducible refine' w_var ?rlv ?_); (case rlv => exact rfl))
  | with_reducible refine w_c ?_
  | with_reducible refine w_op ?_
  | with_reducible refine w_I0 ?_
  | with_reducible refine w_asg ?_
  | ((with_reducible refine' w_gName ?_); dsimp only [List.set])
  | ((with_reducible refine' w_nxD ?rle ?_); (case rle => exact rfl))
  | ((with_reducible refine' w_rtD ?rle ?_); (case rle => exact rfl))
  | with_reducible refine w_next ?_
  | with_reducible refine w_ret ?_
  | with_reducible refine w_cons ?_
  | with_reducible refine w_nil ?_
  | with_reducible refine w_ifS ?_
  | with_reducible refine w_test ?_
  | with_reducible refine w_B ?_
  | with_reducible refine w_bl ?_
  | with_reducible refine w_bl1 ?_
  | with_reducible refine w_blR ?_
  | with_reducible refine w_eqI ?_
  | with_reducible refine w_neI ?_
  | with_reducible refine w_eqS ?_
  | with_reducible refine w_neS ?_
  | with_reducible refine w_eqB ?_
  | with_reducible refine w_neB ?_
  | with_reducible refine w_and ?_
  | with_reducible refine w_or ?_
  | with_reducible refine w_not ?_
  | with_reducible refine w_andV ?_
  | with_reducible refine w_orV ?_
  | with_reducible refine w_notV ?_
  | with_reducible refine w_if ?_
  | with_reducible refine w_chain ?_
  | with_reducible refine w_un ?_
  | with_reducible refine w_U ?_
  | ((with_reducible refine' w_I ?rlc ?_); (case rlc => walk_at "rl side"))
  | with_reducible refine w_drop ?_
  | with_reducible refine w_retN ?_
  | with_reducible refine w_par ?_
  | ((with_reducible refine' w_par2 ?_); dsimp only [List.set])
  | ((with_reducible refine' w_aug ?rla ?_); (case rla => exact rfl))
  | with_reducible refine w_ipI ?_
  | with_reducible refine w_break ?_
  | with_reducible refine w_cont ?_
  | ((with_reducible refine' w_bkD ?rle ?_); (case rle => exact rfl))
  | ((with_reducible refine' w_ctD ?rle ?_); (case rle => exact rfl))
  | with_reducible refine w_tup ?_
  | with_reducible refine w_lst ?_
  | ((with_reducible refine' w_newO ?rln ?_); (case rln => exact Nat.le_of_ble_eq_true rfl); intro _ _ _ _ _)
  | ((with_reducible refine' w_new ?rln ?_); (case rln => exact Nat.le_of_ble_eq_true rfl))
  | ((with_reducible refine' w_mk ?_); intro _ _ _ _ _)
  | ((with_reducible refine' w_gTup ?rls ?rll ?_); (case rls => walk_at "rl hp"); (case rll => exact rfl))
  | with_reducible refine w_gCons ?_
  | with_reducible refine w_gNil ?_
  | with_reducible refine w_gSub ?_
  | ((with_reducible refine' w_setL ?rls ?rlj ?_); (case rls => walk_at "rl hp"); (case rlj => exact rfl))
  | ((with_reducible refine' w_ixL ?rls ?rli ?_); (case rls => walk_at "rl hp"); (case rli => exact rfl))
  | ((with_reducible refine' w_ixT ?rls ?rli ?_); (case rls => walk_at "rl hp"); (case rli => exact rfl))
  | with_reducible refine w_call ?_
  | with_reducible refine w_trI ?_
  | with_reducible refine w_yes ?_
  | with_reducible refine w_trB ?_
  | with_reducible refine w_trN ?_
  | with_reducible refine w_cb ?_
  | with_reducible refine w_fld ?_
  | ((with_reducible refine' w_fld1 ?rlo ?rlc ?rln ?rll ?_); (case rlo => walk_at "rl hp"); (case rlc => assumption); (case rln => assumption); (case rll => exact rfl))
  | with_reducible refine w_isiO ?_
  | with_reducible refine w_isiT ?_
  | ((with_reducible refine' w_isi (r := true) ?rlt ?rlk ?_); (case rlt => walk_at "rl ty"); (case rlk => exact rfl))
  | ((with_reducible refine' w_isi (r := false) ?rlt ?rlk ?_); (case rlt => walk_at "rl ty"); (case rlk => exact rfl))
  | ((with_reducible refine' w_isi2 (r := true) ?rlT ?rlt ?rlk ?_); (case rlT => walk_at "rl hp"); (case rlt => walk_at "rl ty"); (case rlk => exact rfl))
  | ((with_reducible refine' w_isi2 (r := false) ?rlT ?rlt ?rlk ?_); (case rlT => walk_at "rl hp"); (case rlt => walk_at "rl ty"); (case rlk => exact rfl))
  | with_reducible refine w_sFld ?_
  | with_reducible refine w_itemsK ?_
  | ((with_reducible refine' w_catT ?rlha ?rlhb ?rln1 ?rln2 ?rlhl ?_); (case rlha => walk_at "rl hp"); (case rlhb => walk_at "rl hp"); (case rln1 => exact (fun z => nomatch z)); (case rln2 => exact (fun z => nomatch z)); (case rlhl => exact Nat.le_trans (Nat.le_of_ble_eq_true rfl) (show 100000 ≤ sizeLine by decide)))
  | ((with_reducible refine' w_newE ?_); intro _ _ _ _ _)
  | with_reducible refine w_makeK ?_
  | ((with_reducible refine' w_sFld1 ?rlc ?rln ?rll ?rle ?_); (case rlc => assumption); (case rln => assumption); (case rll => exact Nat.lt_of_lt_of_le (Nat.lt_succ_self _) (Nat.le_of_ble_eq_true rfl)); (case rle => exact rfl))
  | ((with_reducible refine' w_sFld0 ?rlx ?rlc ?rln ?rll ?rle ?_); (case rlx => walk_at "rl hq"); (case rlc => assumption); (case rln => assumption); (case rll => exact Nat.lt_of_lt_of_le (Nat.lt_succ_self _) (Nat.le_of_ble_eq_true rfl)); (case rle => exact rfl))
  | with_reducible refine w_rflA ?_
  | with_reducible refine w_for ?_
  | with_reducible refine w_iList ?_
  | with_reducible refine w_iTup ?_
  | ((with_reducible refine' w_overL ?rls ?_); (case rls => walk_at "rl hp"))
  | ((with_reducible refine' w_overT ?rls ?_); (case rls => walk_at "rl hp"))
  | with_reducible refine w_rng1 ?_
  | ((with_reducible refine' w_rng1a ?rl1 ?rl2 ?_); (case rl1 => omega); (case rl2 => omega))
  | with_reducible refine w_rng2 ?_
  | ((with_reducible refine' w_rng2a ?rl1 ?_); (case rl1 => omega))
  | with_reducible refine w_zip2 ?_
  | with_reducible refine w_lc ?_
  | with_reducible refine w_enS ?_
  | with_reducible refine w_callSD ?_
  | with_reducible refine w_xf ?_
  | ((with_reducible refine' w_dnew ?_); intro _ _ _ _ _)
  | ((with_reducible refine' w_disp1 ?_); intro _ _ _ _ _)
  | with_reducible refine w_bm ?_
  | ((with_reducible refine' w_tyL ?rls ?_); (case rls => walk_at "rl hp"))
  | ((with_reducible refine' w_append ?rls ?rll ?_); (case rls => walk_at "rl hq"); (case rll => exact Nat.lt_of_lt_of_le (Nat.lt_succ_self _) (Nat.le_of_ble_eq_true rfl)))
  | ((with_reducible refine' w_cat ?rls ?rlt ?rll ?_); (case rls => walk_at "rl hq"); (case rlt => walk_at "rl hq"); (case rll => exact Nat.le_of_ble_eq_true rfl); intro _ _ _ _ _)
  | with_reducible refine w_int1 ?_
  | ((with_reducible refine w_intb ?_); (try dsimp only))
  | with_reducible refine w_one ?_
  | with_reducible refine w_two ?_
  | ((with_reducible refine' w_lenL ?rls ?_); (case rls => walk_at "rl hp"))
  | ((with_reducible refine' w_lenT ?rls ?_); (case rls => walk_at "rl hp"))
  | with_reducible refine w_meth ?_
  | ((with_reducible refine' w_meth1 ?rlo ?rll ?_); (case rlo => walk_at "rl hp"); (case rll => exact rfl)))
local macro_rules | `(tactic| walk_at "rl wp") => `(tactic| (repeat walk_at "rl w1"))
local macro_rules | `(tactic| walk_at "rl but") => `(tactic| first
  | assumption
  | exact But.refl _ _
  | exact But.upd
  | exact But.of_same (by assumption)
  | (refine But.trans ?_ (But.of_same (by assumption)); walk_at "rl but")
  | (refine But.trans ?_ (by assumption : But _ _ _); walk_at "rl but")
  | (refine But.trans ?_ But.upd; walk_at "rl but"))
local macro_rules | `(tactic| walk_at "rl same") => `(tactic| first
  | assumption
  | exact Same.refl _
  | (refine Same.trans ?_ (by assumption : Same _ _); walk_at "rl same"))

local macro_rules | `(tactic| walk_at "rl wi") => `(tactic| (repeat (first
  | walk_at "rl w1"
  | ((with_reducible refine' iteF' ?rlif ?_); (case rlif => exact rfl))
  | ((with_reducible refine' iteT' ?rlif ?_); (case rlif => exact rfl)))))
local macro_rules | `(tactic| walk_at "rl ty") => `(tactic| exact .base (.dK (by assumption)))
local macro_rules | `(tactic| walk_at "rl ty") => `(tactic| exact .base (.lst (by assumption)))
local macro_rules | `(tactic| walk_at "rl ty") => `(tactic| exact .base (.tup (by assumption)))
local macro_rules | `(tactic| walk_at "rl w1") => `(tactic| first
  | with_reducible refine w_par3 ?_
  | ((with_reducible refine' w_par3a ?_); dsimp only [List.set])
  | with_reducible refine w_dget ?_
  | ((with_reducible refine' w_dgetS ?rls ?rlv ?_); (case rls => walk_at "rl hq"); (case rlv => exact rfl))
  | ((with_reducible refine' w_dgetI ?rls ?rlv ?_); (case rls => walk_at "rl hq"); (case rlv => exact rfl))
  | with_reducible refine w_dget2 ?_
  | ((with_reducible refine' w_isD ?rls ?_); (case rls => walk_at "rl hq"))
  | ((with_reducible refine' w_dget2S ?rls ?_); (case rls => walk_at "rl hq"))
  | ((with_reducible refine' w_dget2I ?rls ?_); (case rls => walk_at "rl hq"))
  | ((with_reducible refine' w_setDS ?rls ?rll ?rlm ?_); (case rls => walk_at "rl hq"); (case rll => exact Nat.lt_of_lt_of_le (Nat.lt_succ_self _) (Nat.le_of_ble_eq_true rfl)); (case rlm => exact rfl))
  | ((with_reducible refine' w_tyD ?rls ?_); (case rls => walk_at "rl hq"))
  | with_reducible refine w_jNil ?_
  | with_reducible refine w_jCons ?_
  | with_reducible refine w_prop ?_
  | with_reducible refine w_makeKS ?_
  | with_reducible refine w_pNil ?_
  | with_reducible refine w_pCons ?_
  | ((with_reducible refine' w_dispN ?_); intro _ _ _ _ _))

def inI : PyData → Int → Int → Bool
  | .int i, lo, hi => decide (lo ≤ i) && decide (i ≤ hi)
  | _, _, _ => false
theorem inI_int (i lo hi : Int) : inI (.int i) lo hi = (decide (lo ≤ i) && decide (i ≤ hi)) := rfl
def oV : Option Str → V
  | none => .non
  | some s => .str s
def fitsB (v n : Int) (s : Bool) : Bool := if s = true then decide (0 < n) && (decide (-(1 * 2 ^ (n - 1).toNat) ≤ v) && decide (v < 1 * 2 ^ (n - 1).toNat)) else decide (0 ≤ v) && decide (v < 1 * 2 ^ n.toNat)
def badRange (lo hi n : Int) : Option Str := if fitsB lo n (decide (lo < 0)) = true then (if (decide (lo ≤ hi) && fitsB hi n (decide (lo < 0))) = true then none else some "high") else some "low"
def areUs (k : Nat) (f m c : Int) : Bool := if Builtin.bitAnd f 1 ≠ 0 then decide (k = 0) else if Builtin.bitAnd f 2 ≠ 0 then decide ((k : Int) = m) else decide (1 ≤ (k : Int)) && decide ((k : Int) ≤ c)
def spIsInt : Sp := fun vs H Q _ => ∃ (B : Addr → Prop) (x : V) (d : PyData) (lo hi : Int), vs = [x, .int lo, .int hi] ∧ Dq H B x d ∧ Q (.bl (inI d lo hi)) H
def spIsUsage : Sp := fun vs H Q _ => ∃ (B : Addr → Prop) (x : V) (d : PyData), vs = [x] ∧ Dq H B x d ∧ Q (.bl (inI d 0 4294967295)) H
def spFits : Sp := fun vs H Q _ => ∃ (v n : Int) (s : Bool), vs = [.int v, .int n, .bl s] ∧ 0 ≤ n ∧ n ≤ 32 ∧ Q (.bl (fitsB v n s)) H
def spBadRange : Sp := fun vs H Q _ => ∃ lo hi n : Int, vs = [.int lo, .int hi, .int n] ∧ 0 ≤ n ∧ n ≤ 32 ∧ Q (oV (badRange lo hi n)) H
def spAreUs (K : PySem.W.Frag) : Sp := fun vs H Q _ => ∃ (ua : Addr) (f m c : Int) (us : List V) (ns : List PyData), vs = [.ref ua, .int f, .int m, .int c] ∧ SqT K H ua us ∧ DpAll K H us ns ∧ PyData.canLayAll0 ns = true ∧ PyData.depthAll ns ≤ 10 ∧ ∀ H', Same H H' → Q (.bl (areUs us.length f m c)) H'
theorem DpAll.len {K : PySem.W.Frag} {H : Hp} : ∀ {us : List V} {ns : List PyData}, DpAll K H us ns → ns.length = us.length
  | _, _, .nil => rfl
  | _, _, .cons _ t => congrArg Nat.succ (DpAll.len t)
theorem eqv_nil {ns : List PyData} : PyData.eqv (.tuple ns) (.tuple []) = decide (ns.length = 0) := by
  cases ns with
  | nil => rfl
  | cons a l => rfl
theorem shaped_tup {ns : List PyData} (h : PyData.canLayAll0 ns = true) (d : PyData.depthAll ns ≤ 10) : SeqAt.shaped (.tuple ns) = true := by
  have e : SeqAt.shaped (.tuple ns) = (PyData.canLayAll0 ns && decide ((PyData.tuple ns).depth ≤ 64)) := rfl
  have e2 : (PyData.tuple ns).depth = PyData.depthAll ns + 1 := rfl
  rw [e, h, e2, decide_eq_true (by omega)]
  rfl

mutual
theorem Dp.sm {K : PySem.W.Frag} {H H' : Hp} (s : Same H H') : ∀ {d : PyData} {v : V}, Dp K H v d → Dp K H' v d
  | _, _, .non => .non
  | _, _, .bl b => .bl b
  | _, _, .int i => .int i
  | _, _, .str x => .str x
  | _, _, .lst h k => .lst (Same.seq s h) (DpAll.sm s k)
  | _, _, .tup h k => .tup (Same.sqT s h) (DpAll.sm s k)
theorem DpAll.sm {K : PySem.W.Frag} {H H' : Hp} (s : Same H H') : ∀ {ds : List PyData} {vs : List V}, DpAll K H vs ds → DpAll K H' vs ds
  | _, _, .nil => .nil
  | _, _, .cons h k => .cons (Dp.sm s h) (DpAll.sm s k)
end
theorem start_3_3 (x0 x1 x2 : Str) (v0 v1 v2 : V) : L2.start [x0, x1, x2] [v0, v1, v2] = [some v0, some v1, some v2] := rfl
theorem sc_is_integer : FnScope ["thing", "low", "high"] ["thing", "low", "high"] (defScope (top 5)) := ⟨rfl, rfl, rfl, by decide +kernel, rfl, by decide +kernel, by decide +kernel⟩
theorem ok_is_integer {P : Program} {w : World} {K : PySem.W.Frag} {mg : Str → Option Value} {base : Heap} (T : TT K mg)    : Ld P w K mg base CX0 1 "is_integer" ["thing", "low", "high"] [] (spIsInt) := by
  obtain ⟨fd, F⟩ := T.d_is_integer
  refine ⟨⟨fd, [], F.ok sc_is_integer (fun vs H Q E h => ?_) (fun cdv A outer s H vs Q E hr h => ?_), FunD.bindsN F (fun _ _ _ _ _ _ us hl => match us, hl with | [_, _, _], _ => rfl), .nil⟩, T.g_is_integer, F.kp⟩
  · obtain ⟨B, x, d, lo, hi, rfl, _⟩ := h
    rfl
  · obtain ⟨B, x, d, lo, hi, rfl, hd, q⟩ := h
    refine ⟨_, PSs.nox ((pss_one (ps_ret (pe_and (pe_callB call_isi (by rfl) T.m_isinstance (by decide +kernel) (pa_cons (pv 0) (pa_cons (pe_bltn (v := .ty "int") (by rfl) T.m_int (by decide +kernel) rfl) pa_nil))) (pe_and (pe_not (pe_callB call_isi (by rfl) T.m_isinstance (by decide +kernel) (pa_cons (pv 0) (pa_cons (pe_bltn (v := .ty "bool") (by rfl) T.m_bool (by decide +kernel) rfl) pa_nil)))) (pe_one (pe_chain op_le op_le (pv 1) (pv 0) (pv 2)))))))), ?_⟩; rw [start_3_3]; try dsimp only [cxOf]
    cases hd with
    | int i =>
      walk_at "rl wi"
      refine ite_dec (fun c => ?_) (fun c => ?_)
      · walk_at "rl wi"
        rw [show inI (.int i) lo hi = decide (i ≤ hi) from by rw [inI_int, decide_eq_true c]; rfl] at q
        exact q
      · walk_at "rl wi"
        rw [show inI (.int i) lo hi = false from by rw [inI_int, decide_eq_false c]; rfl] at q
        exact q
    | _ => walk_at "rl wi"; exact q

theorem start_1_1 (x0 : Str) (v0 : V) : L2.start [x0] [v0] = [some v0] := rfl
theorem sc_is_usage : FnScope ["thing"] ["thing"] (defScope (top 15)) := ⟨rfl, rfl, rfl, by decide +kernel, rfl, by decide +kernel, by decide +kernel⟩
theorem ok_is_usage {P : Program} {w : World} {K : PySem.W.Frag} {mg : Str → Option Value} {base : Heap} (T : TT K mg) (D_is_integer : Ld P w K mg base CX0 1 "is_integer" ["thing", "low", "high"] [] (spIsInt))   : Ld P w K mg base CX0 2 "is_usage" ["thing"] [] (spIsUsage) := by
  obtain ⟨⟨fd_is_integer, ds_is_integer, F_is_integer, b_is_integer, v_is_integer⟩, g_is_integer, k_is_integer⟩ := D_is_integer
  obtain ⟨fd, F⟩ := T.d_is_usage
  refine ⟨⟨fd, [], F.ok sc_is_usage (fun vs H Q E h => ?_) (fun cdv A outer s H vs Q E hr h => ?_), FunD.bindsN F (fun _ _ _ _ _ _ us hl => match us, hl with | [_], _ => rfl), .nil⟩, T.g_is_usage, F.kp⟩
  · obtain ⟨B, x, d, rfl, _⟩ := h
    rfl
  · obtain ⟨B, x, d, rfl, hd, q⟩ := h
    refine ⟨_, PSs.nox ((pss_one (ps_ret (pe_call F_is_integer hr (by rfl) g_is_integer k_is_integer b_is_integer v_is_integer pass0 (pa_cons (pv 0) (pa_cons pe_int (pa_cons (pe_glob rfl (T.i_MOST_USAGE).choose_spec (show RelV (.int (4294967295)) _ from ⟨_, rfl⟩)) pa_nil))))))), ?_⟩; rw [start_1_1]; try dsimp only [cxOf]
    walk_at "rl wp"
    exact ⟨B, x, d, 0, 4294967295, rfl, hd, q⟩

theorem sc_fits : FnScope ["value", "size", "is_signed"] ["value", "size", "is_signed"] (defScope (top 14)) := ⟨rfl, rfl, rfl, by decide +kernel, rfl, by decide +kernel, by decide +kernel⟩
theorem ok_fits {P : Program} {w : World} {K : PySem.W.Frag} {mg : Str → Option Value} {base : Heap} (T : TT K mg)    : Ld P w K mg base CX0 1 "fits" ["value", "size", "is_signed"] [] (spFits) := by
  obtain ⟨fd, F⟩ := T.d_fits
  refine ⟨⟨fd, [], F.ok sc_fits (fun vs H Q E h => ?_) (fun cdv A outer s H vs Q E hr h => ?_), FunD.bindsN F (fun _ _ _ _ _ _ us hl => match us, hl with | [_, _, _], _ => rfl), .nil⟩, T.g_fits, F.kp⟩
  · obtain ⟨v, lo, hi, rfl, _⟩ := h
    rfl
  · obtain ⟨v, n, s, rfl, h1, h2, q⟩ := h
    refine ⟨_, PSs.nox ((pss_cons (ps_if (pt_val (pv 2)) (pss_one (ps_ret (pe_and (pe_cmpR op_gt (pv 1) pe_int (nomark _)) (pe_one (pe_chain op_le op_lt (pe_un un_neg (pe_op op_shl pe_int (pe_op op_sub (pv 1) pe_int))) (pv 0) (pe_op op_shl pe_int (pe_op op_sub (pv 1) pe_int))))))) pss_nil) (pss_one (ps_ret (pe_chain op_le op_lt pe_int (pv 0) (pe_op op_shl pe_int (pv 1))))))), ?_⟩; rw [start_3_3]; try dsimp only [cxOf]
    have k0 : CPow 1 n := ⟨by omega, by omega, by decide⟩
    walk_at "rl wp"
    cases s with
    | true =>
      refine iteT' rfl ?_
      rw [show fitsB v n true = (decide (0 < n) && (decide (-(1 * 2 ^ (n - 1).toNat) ≤ v) && decide (v < 1 * 2 ^ (n - 1).toNat))) from if_pos rfl] at q
      walk_at "rl wp"
      refine ite_dec (fun c => ?_) (fun c => ?_)
      · have k1 : CPow 1 (n - 1) := ⟨by omega, by omega, by decide⟩
        rw [decide_eq_true c, Bool.true_and] at q
        walk_at "rl wp"
        refine ite_dec (fun c2 => ?_) (fun c2 => ?_)
        · rw [decide_eq_true c2, Bool.true_and] at q
          walk_at "rl wp"
          exact q
        · rw [decide_eq_false c2, Bool.false_and] at q
          walk_at "rl wp"
          exact q
      · rw [decide_eq_false c, Bool.false_and] at q
        walk_at "rl wp"
        exact q
    | false =>
      refine iteF' rfl ?_
      rw [show fitsB v n false = (decide (0 ≤ v) && decide (v < 1 * 2 ^ n.toNat)) from if_neg (by decide)] at q
      walk_at "rl wp"
      refine ite_dec (fun c => ?_) (fun c => ?_)
      · rw [decide_eq_true c, Bool.true_and] at q
        walk_at "rl wp"
        exact q
      · rw [decide_eq_false c, Bool.false_and] at q
        walk_at "rl wp"
        exact q

theorem sc_bad_range : FnScope ["low", "high", "size"] ["low", "high", "size"] (defScope (top 16)) := ⟨rfl, rfl, rfl, by decide +kernel, rfl, by decide +kernel, by decide +kernel⟩
theorem ok_bad_range {P : Program} {w : World} {K : PySem.W.Frag} {mg : Str → Option Value} {base : Heap} (T : TT K mg) (D_fits : Ld P w K mg base CX0 1 "fits" ["value", "size", "is_signed"] [] (spFits))   : Ld P w K mg base CX0 2 "bad_range" ["low", "high", "size"] [] (spBadRange) := by
  obtain ⟨⟨fd_fits, ds_fits, F_fits, b_fits, v_fits⟩, g_fits, k_fits⟩ := D_fits
  obtain ⟨fd, F⟩ := T.d_bad_range
  refine ⟨⟨fd, [], F.ok sc_bad_range (fun vs H Q E h => ?_) (fun cdv A outer s H vs Q E hr h => ?_), FunD.bindsN F (fun _ _ _ _ _ _ us hl => match us, hl with | [_, _, _], _ => rfl), .nil⟩, T.g_bad_range, F.kp⟩
  · obtain ⟨lo, hi, n, rfl, _⟩ := h
    rfl
  · obtain ⟨lo, hi, n, rfl, w0, w1, q⟩ := h
    refine ⟨_, PSs.nox ((pss_cons (ps_if (pt_not (pt_val (pe_call F_fits hr (by rfl) g_fits k_fits b_fits v_fits pass0 (pa_cons (pv 0) (pa_cons (pv 2) (pa_cons (pe_cmpR op_lt (pv 0) pe_int (nomark _)) pa_nil)))))) (pss_one (ps_ret pe_str)) pss_nil) (pss_one (ps_ret (pe_ifExp (PW.pt (pw_and (pt_cmpR op_le (pv 0) (pv 1) (nomark _)) (pw_and1 (pt_val (pe_call F_fits hr (by rfl) g_fits k_fits b_fits v_fits pass0 (pa_cons (pv 1) (pa_cons (pv 2) (pa_cons (pe_cmpR op_lt (pv 0) pe_int (nomark _)) pa_nil)))))))) pe_non pe_str))))), ?_⟩; rw [start_3_3]; try dsimp only [cxOf]
    walk_at "rl wp"
    refine ⟨lo, n, decide (lo < 0), rfl, w0, w1, ?_⟩
    walk_at "rl wp"
    cases hf : fitsB lo n (decide (lo < 0)) with
    | false =>
      refine iteT' rfl ?_
      rw [show badRange lo hi n = some "low" from by unfold badRange; rw [hf]; rfl] at q
      walk_at "rl wp"
      exact q
    | true =>
      refine iteF' rfl ?_
      have e : badRange lo hi n = if (decide (lo ≤ hi) && fitsB hi n (decide (lo < 0))) = true then (none : Option Str) else some ("high" : Str) := by
        unfold badRange
        rw [hf]
        rfl
      rw [e] at q
      walk_at "rl wp"
      refine ite_dec (fun c => ?_) (fun c => ?_)
      · rw [decide_eq_true c, Bool.true_and] at q
        walk_at "rl wp"
        refine ⟨hi, n, decide (lo < 0), rfl, w0, w1, ?_⟩
        cases hg : fitsB hi n (decide (lo < 0)) with
        | true =>
          rw [hg] at q
          walk_at "rl wi"
          exact q
        | false =>
          rw [hg] at q
          walk_at "rl wi"
          exact q
      · rw [decide_eq_false c, Bool.false_and] at q
        walk_at "rl wi"
        exact q

theorem start_4_4 (x0 x1 x2 x3 : Str) (v0 v1 v2 v3 : V) : L2.start [x0, x1, x2, x3] [v0, v1, v2, v3] = [some v0, some v1, some v2, some v3] := rfl
theorem sc_are_usages : FnScope ["usages", "flags", "amount", "codes"] ["usages", "flags", "amount", "codes"] (defScope (top 17)) := ⟨rfl, rfl, rfl, by decide +kernel, rfl, by decide +kernel, by decide +kernel⟩
theorem ok_are_usages {P : Program} {w : World} {K : PySem.W.Frag} {mg : Str → Option Value} {base : Heap} (T : TT K mg)    : Ld P w K mg base CX0 1 "are_usages" ["usages", "flags", "amount", "codes"] [] (spAreUs K) := by
  obtain ⟨fd, F⟩ := T.d_are_usages
  refine ⟨⟨fd, [], F.ok sc_are_usages (fun vs H Q E h => ?_) (fun cdv A outer s H vs Q E hr h => ?_), FunD.bindsN F (fun _ _ _ _ _ _ us hl => match us, hl with | [_, _, _, _], _ => rfl), .nil⟩, T.g_are_usages, F.kp⟩
  · obtain ⟨ua, f, m, c, us, ns, rfl, _⟩ := h
    rfl
  · obtain ⟨ua, f, m, c, us, ns, rfl, hu, hd, hc, hz, q⟩ := h
    refine ⟨_, PSs.nox ((pss_cons (ps_if (pt_truth (pe_op op_and (pv 1) (pe_glob rfl (T.i_CONSTANT).choose_spec (show RelV (.int (1)) _ from ⟨_, rfl⟩))) (by intro _; rfl)) (pss_one (ps_ret (pe_cmpR (op_eqD hr.units) (pv 0) (pe_tup pa_nil) (nomark _)))) pss_nil) (pss_cons (ps_if (pt_truth (pe_op op_and (pv 1) (pe_glob rfl (T.i_VARIABLE).choose_spec (show RelV (.int (2)) _ from ⟨_, rfl⟩))) (by intro _; rfl)) (pss_one (ps_ret (pe_cmpR op_eq (pe_callB call_len_seq (by rfl) T.m_len PySem.boot_len (pa_cons (pv 0) pa_nil)) (pv 2) (nomark _)))) pss_nil) (pss_one (ps_ret (pe_chain op_le op_le pe_int (pe_callB call_len_seq (by rfl) T.m_len PySem.boot_len (pa_cons (pv 0) pa_nil)) (pv 3))))))), ?_⟩; rw [start_4_4]; try dsimp only [cxOf]
    walk_at "rl wp"
    by_cases c1 : Builtin.bitAnd f 1 = 0
    · rw [show areUs us.length f m c = if Builtin.bitAnd f 2 ≠ 0 then decide ((us.length : Int) = m) else decide (1 ≤ (us.length : Int)) && decide ((us.length : Int) ≤ c) from if_neg (fun z => z c1)] at q
      refine iteF' (by rw [c1]; rfl) ?_
      walk_at "rl wp"
      by_cases c2 : Builtin.bitAnd f 2 = 0
      · rw [if_neg (fun z => z c2)] at q
        refine iteF' (by rw [c2]; rfl) ?_
        walk_at "rl wp"
        refine ite_dec (fun c3 => ?_) (fun c3 => ?_)
        · rw [decide_eq_true c3, Bool.true_and] at q
          walk_at "rl wp"
          exact q _ (Same.refl _)
        · rw [decide_eq_false c3, Bool.false_and] at q
          walk_at "rl wp"
          exact q _ (Same.refl _)
      · rw [if_pos c2] at q
        refine iteT' (by simpa using c2) ?_
        walk_at "rl wp"
        exact q _ (Same.refl _)
    · rw [show areUs us.length f m c = decide (us.length = 0) from if_pos c1] at q
      refine iteT' (by simpa using c1) ?_
      walk_at "rl wp"
      rename_i p H1 np sm hp
      refine ⟨.tuple ns, .tuple [], .tup (Same.sqT sm hu) (DpAll.sm sm hd), .tup (SqT.of hp) .nil, shaped_tup hc hz, rfl, ?_⟩
      rw [eqv_nil, DpAll.len hd]
      exact q _ sm
end T16
end
section
set_option Elab.async false
set_option linter.all false
set_option maxRecDepth 100000
set_option maxHeartbeats 1000000
namespace T16
open PySem PySem.Spec PyProof.Rows L2 L2.RL
def initP : List Str := ["self", "role", "number", "flags", "size", "amount", "low", "high", "plow", "phigh", "exponent", "unit", "usages"]
def pl1 : List (Nat × Nat) := [(0, 0), (0, 1), (2, 0), (2, 1), (2, 2), (2, 3), (2, 4), (2, 5), (2, 6), (2, 7), (2, 8), (2, 9), (2, 10)]
def ms1 (K : PySem.W.Frag) : List V := []
theorem kb1 {K : PySem.W.Frag} {mg : Str → Option Value} (T : TT K mg) {fd : FuncData} (F : FunD K "__init__" "Field.__init__" (defArgs (inClass (top 18) 0)) (defBody (inClass (top 18) 0)) (defScope (inClass (top 18) 0)) [] (([("number", .int 0), ("flags", .int 2), ("size", .int 8), ("amount", .int 1), ("low", .int 0), ("high", .int 255), ("plow", .int 0), ("phigh", .int 0), ("exponent", .int 0), ("unit", .int 0), ("usages", .adr (kdfAt ("Field", some "__init__") "usages"))] : List (Str × He.Dv)).map fun q => (q.1, q.2.v K)) (He.ma K (He.ga K "Field") "__init__") fd) :
  ∃ g, KBn K fd initP 2 ["number", "flags", "size", "amount", "low", "high", "plow", "phigh", "exponent", "unit", "usages"] g (fun vs zs => pick3 pl1 vs (ms1 K) zs) := by
  obtain ⟨mv, h⟩ := F.kbinds0 (ps := initP) 2 ["number", "flags", "size", "amount", "low", "high", "plow", "phigh", "exponent", "unit", "usages"] [] (fun us mv ws => pick3 pl1 us mv ws) (by simp) (by
    intro q hq
    cases hq) (fun r1 r2 r3 => pick3_vals _ r1 r2 r3) (by
    intro D doc pm an cdv ct us mv ws h1 h2 h3
    match us, mv, ws, h1, h2, h3 with
    | [u1, u2], [], [w0, w1, w2, w3, w4, w5, w6, w7, w8, w9, w10], _, _, _ =>
      exact by (show _ = pure _); kernel_rfl!)
  exact ⟨_, h⟩
def pl2 : List (Nat × Nat) := [(0, 0), (0, 1), (1, 0), (1, 1), (1, 2), (1, 3), (1, 4), (1, 5), (1, 6), (1, 7), (1, 8), (1, 9), (2, 0)]
def ms2 (K : PySem.W.Frag) : List V := [.int 0, .int 2, .int 8, .int 1, .int 0, .int 255, .int 0, .int 0, .int 0, .int 0]
theorem kb2 {K : PySem.W.Frag} {mg : Str → Option Value} (T : TT K mg) {fd : FuncData} (F : FunD K "__init__" "Field.__init__" (defArgs (inClass (top 18) 0)) (defBody (inClass (top 18) 0)) (defScope (inClass (top 18) 0)) [] (([("number", .int 0), ("flags", .int 2), ("size", .int 8), ("amount", .int 1), ("low", .int 0), ("high", .int 255), ("plow", .int 0), ("phigh", .int 0), ("exponent", .int 0), ("unit", .int 0), ("usages", .adr (kdfAt ("Field", some "__init__") "usages"))] : List (Str × He.Dv)).map fun q => (q.1, q.2.v K)) (He.ma K (He.ga K "Field") "__init__") fd) :
  ∃ g, KBn K fd initP 2 ["usages"] g (fun vs zs => pick3 pl2 vs (ms2 K) zs) := by
  obtain ⟨mv, h⟩ := F.kbinds0 (ps := initP) 2 ["usages"] [("number", .int 0), ("flags", .int 2), ("size", .int 8), ("amount", .int 1), ("low", .int 0), ("high", .int 255), ("plow", .int 0), ("phigh", .int 0), ("exponent", .int 0), ("unit", .int 0)] (fun us mv ws => pick3 pl2 us mv ws) (by simp) (by
    intro q hq
    simp only [List.mem_cons, List.not_mem_nil, or_false] at hq
    rcases hq with rfl | rfl | rfl | rfl | rfl | rfl | rfl | rfl | rfl | rfl <;> simp [He.Dv.v]) (fun r1 r2 r3 => pick3_vals _ r1 r2 r3) (by
    intro D doc pm an cdv ct us mv ws h1 h2 h3
    match us, mv, ws, h1, h2, h3 with
    | [u1, u2], [m0, m1, m2, m3, m4, m5, m6, m7, m8, m9], [w0], _, _, _ =>
      exact ⟨_, _, _, _, _, _, rfl, rfl, ⟨_, _, _, _, _, _, rfl, rfl, ⟨_, _, _, _, _, _, rfl, rfl, ⟨_, _, _, _, _, _, rfl, rfl, ⟨_, _, _, _, _, _, rfl, rfl, ⟨_, _, _, _, _, _, rfl, rfl, ⟨_, _, _, _, _, _, rfl, rfl, ⟨_, _, _, _, _, _, rfl, rfl, ⟨_, _, _, _, _, _, rfl, rfl, ⟨_, _, _, _, _, _, rfl, rfl, by (show _ = pure _); kernel_rfl!⟩⟩⟩⟩⟩⟩⟩⟩⟩⟩)
  exact ⟨_, h⟩
def pl3 : List (Nat × Nat) := [(0, 0), (0, 1), (1, 0), (2, 0), (2, 1), (1, 1), (1, 2), (1, 3), (1, 4), (1, 5), (1, 6), (1, 7), (1, 8)]
def ms3 (K : PySem.W.Frag) : List V := [.int 0, .int 1, .int 0, .int 255, .int 0, .int 0, .int 0, .int 0, .ref (kdfAt ("Field", some "__init__") "usages" K)]
theorem kb3 {K : PySem.W.Frag} {mg : Str → Option Value} (T : TT K mg) {fd : FuncData} (F : FunD K "__init__" "Field.__init__" (defArgs (inClass (top 18) 0)) (defBody (inClass (top 18) 0)) (defScope (inClass (top 18) 0)) [] (([("number", .int 0), ("flags", .int 2), ("size", .int 8), ("amount", .int 1), ("low", .int 0), ("high", .int 255), ("plow", .int 0), ("phigh", .int 0), ("exponent", .int 0), ("unit", .int 0), ("usages", .adr (kdfAt ("Field", some "__init__") "usages"))] : List (Str × He.Dv)).map fun q => (q.1, q.2.v K)) (He.ma K (He.ga K "Field") "__init__") fd) :
  ∃ g, KBn K fd initP 2 ["flags", "size"] g (fun vs zs => pick3 pl3 vs (ms3 K) zs) := by
  obtain ⟨mv, h⟩ := F.kbinds0 (ps := initP) 2 ["flags", "size"] [("number", .int 0), ("amount", .int 1), ("low", .int 0), ("high", .int 255), ("plow", .int 0), ("phigh", .int 0), ("exponent", .int 0), ("unit", .int 0), ("usages", .ref (kdfAt ("Field", some "__init__") "usages" K))] (fun us mv ws => pick3 pl3 us mv ws) (by simp) (by
    intro q hq
    simp only [List.mem_cons, List.not_mem_nil, or_false] at hq
    rcases hq with rfl | rfl | rfl | rfl | rfl | rfl | rfl | rfl | rfl <;> simp [He.Dv.v]) (fun r1 r2 r3 => pick3_vals _ r1 r2 r3) (by
    intro D doc pm an cdv ct us mv ws h1 h2 h3
    match us, mv, ws, h1, h2, h3 with
    | [u1, u2], [m0, m1, m2, m3, m4, m5, m6, m7, m8], [w0, w1], _, _, _ =>
      exact ⟨_, _, _, _, _, _, rfl, rfl, ⟨_, _, _, _, _, _, rfl, rfl, ⟨_, _, _, _, _, _, rfl, rfl, ⟨_, _, _, _, _, _, rfl, rfl, ⟨_, _, _, _, _, _, rfl, rfl, ⟨_, _, _, _, _, _, rfl, rfl, ⟨_, _, _, _, _, _, rfl, rfl, ⟨_, _, _, _, _, _, rfl, rfl, ⟨_, _, _, _, _, _, rfl, rfl, by (show _ = pure _); kernel_rfl!⟩⟩⟩⟩⟩⟩⟩⟩⟩)
  exact ⟨_, h⟩
end T16
end
section
set_option Elab.async false
set_option linter.all false
set_option maxRecDepth 100000
set_option maxHeartbeats 0
namespace T16
open PySem PySem.Spec PyProof.Rows L2 L2.RL
local macro_rules | `(tactic| walk_at "rl ty") => `(tactic| first
  | assumption
  | exact .base (.int _)
  | exact .base (.str _)
  | exact .base .non
  | exact .base (.bl _)
  | exact ty_sqT (by walk_at "rl hp")
  | exact ty_sqL (by walk_at "rl hp")
  | exact .base (.tup (by walk_at "rl hp"))
  | exact .base (.lst (by walk_at "rl hp"))
  | exact .base (.dK (by walk_at "rl hp")))
local macro_rules | `(tactic| walk_at "rl if") => `(tactic| first
  | with_reducible refine iteT' rfl ?_
  | with_reducible refine iteF' rfl ?_
  | (refine iteT' rfl ?_)
  | (refine iteF' rfl ?_))
local macro_rules | `(tactic| walk_at "rl side") => `(tactic| first | assumption | omega | (constructor <;> omega) | decide)
local macro_rules | `(tactic| walk_at "rl ne") => `(tactic| first
  | assumption
  | exact Ne.symm (by assumption)
  | walk_at "rl ne2"
  | exact ne_of (by assumption) (by walk_at "rl hq") (by intro z; cases z)
  | exact (ne_of (by assumption) (by walk_at "rl hq") (by intro z; cases z)).symm)
local macro_rules | `(tactic| walk_at "rl hq") => `(tactic| first
  | assumption
  | exact upd_same
  | (refine' upd_at ?rlne ?rlhq; (case rlne => walk_at "rl ne"); (case rlhq => walk_at "rl hq"))
  | (refine' Same.at ?rlsa ?rlhq; (case rlsa => assumption); (case rlhq => walk_at "rl hq"))
  | (refine' But.at ?rlbu ?rlne ?rlhq; (case rlbu => assumption); (case rlne => walk_at "rl ne"); (case rlhq => walk_at "rl hq")))
local macro_rules | `(tactic| walk_at "rl hp") => `(tactic| first
  | assumption
  | (refine' SqL.of ?rlhq; (case rlhq => walk_at "rl hq"))
  | (refine' SqT.of ?rlhq; (case rlhq => walk_at "rl hq"))
  | (refine' Same.seq ?rlsa ?rlhp; (case rlsa => assumption); (case rlhp => walk_at "rl hp"))
  | (refine' Same.sqT ?rlsa ?rlhp; (case rlsa => assumption); (case rlhp => walk_at "rl hp"))
  | walk_at "rl hp2"
  | walk_at "rl hq")
local macro_rules | `(tactic| walk_at "rl w1") => `(tactic| first
  | with_reducible refine w_seq ?_
  | ((with_reducible refine' w_var ?rlv ?_); (case rlv => exact rfl))
  | with_reducible refine w_c ?_
  | with_reducible refine w_op ?_
  | with_reducible refine w_I0 ?_
  | with_reducible refine w_asg ?_
  | ((with_reducible refine' w_gName ?_); dsimp only [List.set])
  | ((with_reducible refine' w_nxD ?rle ?_); (case rle => exact rfl))
  | ((with_reducible refine' w_rtD ?rle ?_); (case rle => exact rfl))
  | with_reducible refine w_next ?_
  | with_reducible refine w_ret ?_
  | with_reducible refine w_cons ?_
  | with_reducible refine w_nil ?_
  | with_reducible refine w_ifS ?_
  | with_reducible refine w_test ?_
  | with_reducible refine w_B ?_
  | with_reducible refine w_bl ?_
  | with_reducible refine w_bl1 ?_
  | with_reducible refine w_blR ?_
  | with_reducible refine w_eqI ?_
  | with_reducible refine w_neI ?_
  | with_reducible refine w_eqS ?_
  | with_reducible refine w_neS ?_
  | with_reducible refine w_eqB ?_
  | with_reducible refine w_neB ?_
  | with_reducible refine w_and ?_
  | with_reducible refine w_or ?_
  | with_reducible refine w_not ?_
  | with_reducible refine w_andV ?_
  | with_reducible refine w_orV ?_
  | with_reducible refine w_notV ?_
  | with_reducible refine w_if ?_
  | with_reducible refine w_chain ?_
  | with_reducible refine w_un ?_
  | with_reducible refine w_U ?_
  | ((with_reducible refine' w_I ?rlc ?_); (case rlc => walk_at "rl side"))
  | with_reducible refine w_drop ?_
  | with_reducible refine w_retN ?_
  | with_reducible refine w_par ?_
  | ((with_reducible refine' w_par2 ?_); dsimp only [List.set])
  | ((with_reducible refine' w_aug ?rla ?_); (case rla => exact rfl))
  | with_reducible refine w_ipI ?_
  | with_reducible refine w_break ?_
  | with_reducible refine w_cont ?_
  | ((with_reducible refine' w_bkD ?rle ?_); (case rle => exact rfl))
  | ((with_reducible refine' w_ctD ?rle ?_); (case rle => exact rfl))
  | with_reducible refine w_tup ?_
  | with_reducible refine w_lst ?_
  | ((with_reducible refine' w_newO ?rln ?_); (case rln => exact Nat.le_of_ble_eq_true rfl); intro _ _ _ _ _)
  | ((with_reducible refine' w_new ?rln ?_); (case rln => exact Nat.le_of_ble_eq_true rfl))
  | ((with_reducible refine' w_mk ?_); intro _ _ _ _ _)
  | ((with_reducible refine' w_gTup ?rls ?rll ?_); (case rls => walk_at "rl hp"); (case rll => exact rfl))
  | with_reducible refine w_gCons ?_
  | with_reducible refine w_gNil ?_
  | with_reducible refine w_gSub ?_
  | ((with_reducible refine' w_setL ?rls ?rlj ?_); (case rls => walk_at "rl hp"); (case rlj => exact rfl))
  | ((with_reducible refine' w_ixL ?rls ?rli ?_); (case rls => walk_at "rl hp"); (case rli => exact rfl))
  | ((with_reducible refine' w_ixT ?rls ?rli ?_); (case rls => walk_at "rl hp"); (case rli => exact rfl))
  | with_reducible refine w_call ?_
  | with_reducible refine w_trI ?_
  | with_reducible refine w_yes ?_
  | with_reducible refine w_trB ?_
  | with_reducible refine w_trN ?_
  | with_reducible refine w_cb ?_
  | with_reducible refine w_fld ?_
  | ((with_reducible refine' w_fld1 ?rlo ?rlc ?rln ?rll ?_); (case rlo => walk_at "rl hp"); (case rlc => assumption); (case rln => assumption); (case rll => exact rfl))
  | with_reducible refine w_isiO ?_
  | with_reducible refine w_isiT ?_
  | ((with_reducible refine' w_isi (r := true) ?rlt ?rlk ?_); (case rlt => walk_at "rl ty"); (case rlk => exact rfl))
  | ((with_reducible refine' w_isi (r := false) ?rlt ?rlk ?_); (case rlt => walk_at "rl ty"); (case rlk => exact rfl))
  | ((with_reducible refine' w_isi2 (r := true) ?rlT ?rlt ?rlk ?_); (case rlT => walk_at "rl hp"); (case rlt => walk_at "rl ty"); (case rlk => exact rfl))
  | ((with_reducible refine' w_isi2 (r := false) ?rlT ?rlt ?rlk ?_); (case rlT => walk_at "rl hp"); (case rlt => walk_at "rl ty"); (case rlk => exact rfl))
  | with_reducible refine w_sFld ?_
  | with_reducible refine w_itemsK ?_
  | ((with_reducible refine' w_catT ?rlha ?rlhb ?rln1 ?rln2 ?rlhl ?_); (case rlha => walk_at "rl hp"); (case rlhb => walk_at "rl hp"); (case rln1 => exact (fun z => nomatch z)); (case rln2 => exact (fun z => nomatch z)); (case rlhl => exact Nat.le_trans (Nat.le_of_ble_eq_true rfl) (show 100000 ≤ sizeLine by decide)))
  | ((with_reducible refine' w_newE ?_); intro _ _ _ _ _)
  | with_reducible refine w_makeK ?_
  | ((with_reducible refine' w_sFld1 ?rlc ?rln ?rll ?rle ?_); (case rlc => assumption); (case rln => assumption); (case rll => exact Nat.lt_of_lt_of_le (Nat.lt_succ_self _) (Nat.le_of_ble_eq_true rfl)); (case rle => exact rfl))
  | ((with_reducible refine' w_sFld0 ?rlx ?rlc ?rln ?rll ?rle ?_); (case rlx => walk_at "rl hq"); (case rlc => assumption); (case rln => assumption); (case rll => exact Nat.lt_of_lt_of_le (Nat.lt_succ_self _) (Nat.le_of_ble_eq_true rfl)); (case rle => exact rfl))
  | with_reducible refine w_rflA ?_
  | with_reducible refine w_for ?_
  | with_reducible refine w_iList ?_
  | with_reducible refine w_iTup ?_
  | ((with_reducible refine' w_overL ?rls ?_); (case rls => walk_at "rl hp"))
  | ((with_reducible refine' w_overT ?rls ?_); (case rls => walk_at "rl hp"))
  | with_reducible refine w_rng1 ?_
  | ((with_reducible refine' w_rng1a ?rl1 ?rl2 ?_); (case rl1 => omega); (case rl2 => omega))
  | with_reducible refine w_rng2 ?_
  | ((with_reducible refine' w_rng2a ?rl1 ?_); (case rl1 => omega))
  | with_reducible refine w_zip2 ?_
  | with_reducible refine w_lc ?_
  | with_reducible refine w_enS ?_
  | with_reducible refine w_callSD ?_
  | with_reducible refine w_xf ?_
  | ((with_reducible refine' w_dnew ?_); intro _ _ _ _ _)
  | ((with_reducible refine' w_disp1 ?_); intro _ _ _ _ _)
  | with_reducible refine w_bm ?_
  | ((with_reducible refine' w_tyL ?rls ?_); (case rls => walk_at "rl hp"))
  | ((with_reducible refine' w_append ?rls ?rll ?_); (case rls => walk_at "rl hq"); (case rll => exact Nat.lt_of_lt_of_le (Nat.lt_succ_self _) (Nat.le_of_ble_eq_true rfl)))
  | ((with_reducible refine' w_cat ?rls ?rlt ?rll ?_); (case rls => walk_at "rl hq"); (case rlt => walk_at "rl hq"); (case rll => exact Nat.le_of_ble_eq_true rfl); intro _ _ _ _ _)
  | with_reducible refine w_int1 ?_
  | ((with_reducible refine w_intb ?_); (try dsimp only))
  | with_reducible refine w_one ?_
  | with_reducible refine w_two ?_
  | ((with_reducible refine' w_lenL ?rls ?_); (case rls => walk_at "rl hp"))
  | ((with_reducible refine' w_lenT ?rls ?_); (case rls => walk_at "rl hp"))
  | with_reducible refine w_meth ?_
  | ((with_reducible refine' w_meth1 ?rlo ?rll ?_); (case rlo => walk_at "rl hp"); (case rll => exact rfl)))
local macro_rules | `(tactic| walk_at "rl wp") => `(tactic| (repeat walk_at "rl w1"))
local macro_rules | `(tactic| walk_at "rl but") => `(tactic| first
  | assumption
  | exact But.refl _ _
  | exact But.upd
  | exact But.of_same (by assumption)
  | (refine But.trans ?_ (But.of_same (by assumption)); walk_at "rl but")
  | (refine But.trans ?_ (by assumption : But _ _ _); walk_at "rl but")
  | (refine But.trans ?_ But.upd; walk_at "rl but"))
local macro_rules | `(tactic| walk_at "rl same") => `(tactic| first
  | assumption
  | exact Same.refl _
  | (refine Same.trans ?_ (by assumption : Same _ _); walk_at "rl same"))

local macro_rules | `(tactic| walk_at "rl wi") => `(tactic| (repeat (first
  | walk_at "rl w1"
  | ((with_reducible refine' iteF' ?rlif ?_); (case rlif => exact rfl))
  | ((with_reducible refine' iteT' ?rlif ?_); (case rlif => exact rfl)))))
local macro_rules | `(tactic| walk_at "rl ty") => `(tactic| exact .base (.dK (by assumption)))
local macro_rules | `(tactic| walk_at "rl ty") => `(tactic| exact .base (.lst (by assumption)))
local macro_rules | `(tactic| walk_at "rl ty") => `(tactic| exact .base (.tup (by assumption)))
local macro_rules | `(tactic| walk_at "rl w1") => `(tactic| first
  | with_reducible refine w_par3 ?_
  | ((with_reducible refine' w_par3a ?_); dsimp only [List.set])
  | with_reducible refine w_dget ?_
  | ((with_reducible refine' w_dgetS ?rls ?rlv ?_); (case rls => walk_at "rl hq"); (case rlv => exact rfl))
  | ((with_reducible refine' w_dgetI ?rls ?rlv ?_); (case rls => walk_at "rl hq"); (case rlv => exact rfl))
  | with_reducible refine w_dget2 ?_
  | ((with_reducible refine' w_isD ?rls ?_); (case rls => walk_at "rl hq"))
  | ((with_reducible refine' w_dget2S ?rls ?_); (case rls => walk_at "rl hq"))
  | ((with_reducible refine' w_dget2I ?rls ?_); (case rls => walk_at "rl hq"))
  | ((with_reducible refine' w_setDS ?rls ?rll ?rlm ?_); (case rls => walk_at "rl hq"); (case rll => exact Nat.lt_of_lt_of_le (Nat.lt_succ_self _) (Nat.le_of_ble_eq_true rfl)); (case rlm => exact rfl))
  | ((with_reducible refine' w_tyD ?rls ?_); (case rls => walk_at "rl hq"))
  | with_reducible refine w_jNil ?_
  | with_reducible refine w_jCons ?_
  | with_reducible refine w_prop ?_
  | with_reducible refine w_makeKS ?_
  | with_reducible refine w_pNil ?_
  | with_reducible refine w_pCons ?_
  | ((with_reducible refine' w_dispN ?_); intro _ _ _ _ _))

structure Fa where
  r : V
  n : V
  f : V
  z : V
  a : V
  l : V
  h : V
  p : V
  q : V
  e : V
  u : V
  s : V
def Fa.all (v : Fa) : List V := [v.r, v.n, v.f, v.z, v.a, v.l, v.h, v.p, v.q, v.e, v.u, v.s]
def Fa.at (v : Fa) : List (Str × V) := [("role", v.r), ("number", v.n), ("flags", v.f), ("size", v.z), ("amount", v.a), ("low", v.l), ("high", v.h), ("plow", v.p), ("phigh", v.q), ("exponent", v.e), ("unit", v.u), ("usages", v.s)]
def Fa.nums (v : Fa) : List V := [v.n, v.f, v.z, v.a, v.l, v.h, v.p, v.q, v.e, v.u]
def bnds : List (Str × Int × Int) := [("number", 0, 255), ("flags", 0, 7), ("size", 0, 32), ("amount", 0, 255), ("low", (-2147483648), 2147483647), ("high", (-2147483648), 2147483647), ("plow", (-2147483648), 2147483647), ("phigh", (-2147483648), 2147483647), ("exponent", (-8), 7), ("unit", 0, 4294967295)]
def numBad : List (Str × Int × Int) → List PyData → Option Str
  | b :: bs, d :: ds => if inI d b.2.1 b.2.2 = true then numBad bs ds else some b.1
  | _, _ => none
theorem numBad_step {bs : List (Str × Int × Int)} {ds : List PyData} {i : Nat} {b : Str × Int × Int} {d : PyData} (hb : bs[i]? = some b) (hd : ds[i]? = some d) : numBad (bs.drop i) (ds.drop i) = if inI d b.2.1 b.2.2 = true then numBad (bs.drop (i + 1)) (ds.drop (i + 1)) else some b.1 := by
  obtain ⟨h1, e1⟩ := List.getElem?_eq_some_iff.mp hb
  obtain ⟨h2, e2⟩ := List.getElem?_eq_some_iff.mp hd
  rw [List.drop_eq_getElem_cons h1, List.drop_eq_getElem_cons h2, e1, e2]
  rfl
def toI : PyData → Int
  | .int i => i
  | _ => 0
def roleOk : PyData → Bool
  | .str x => decide (x = "input") || (decide (x = "output") || decide (x = "feature"))
  | _ => false
def lastBad (f z m lo hi : Int) (k : Nat) : Option Str :=
  match (if Builtin.bitAnd f 1 ≠ 0 then (none : Option Str) else badRange lo hi z) with
  | some s => some s
  | none => if areUs k f m (hi - lo + 1) = true then none else some ("usages" : Str)
def usBad (f z m lo hi : Int) : PyData → Option Str
  | .tuple es => if (decide (es.length ≤ 256) && es.all fun d => inI d 0 4294967295) = true then lastBad f z m lo hi es.length else some ("usages" : Str)
  | _ => some ("usages" : Str)
def badName (ds : List PyData) : Option Str :=
  if roleOk (ds.getD 0 .none) = true then (match numBad bnds (ds.drop 1) with
    | some s => some s
    | none => usBad (toI (ds.getD 2 .none)) (toI (ds.getD 3 .none)) (toI (ds.getD 4 .none)) (toI (ds.getD 5 .none)) (toI (ds.getD 6 .none)) (ds.getD 11 .none)) else some ("role" : Str)
theorem inI_ex {d : PyData} {lo hi : Int} (h : inI d lo hi = true) : ∃ i, d = .int i ∧ lo ≤ i ∧ i ≤ hi := by
  cases d with
  | int i =>
    rw [inI_int, Bool.and_eq_true_iff] at h
    exact ⟨i, rfl, of_decide_eq_true h.1, of_decide_eq_true h.2⟩
  | _ => cases h
theorem numBad_ok : ∀ {bs : List (Str × Int × Int)} {ds : List PyData}, numBad bs ds = none → ∀ (i : Nat) (b : Str × Int × Int) (d : PyData), bs[i]? = some b → ds[i]? = some d → inI d b.2.1 b.2.2 = true
  | [], _, _, i, b, d, h, _ => by simp at h
  | _ :: _, [], _, i, b, d, _, h => by simp at h
  | b0 :: bs, d0 :: ds, h, i, b, d, h1, h2 => by
    have h' : (if inI d0 b0.2.1 b0.2.2 = true then numBad bs ds else some b0.1) = none := h
    by_cases c : inI d0 b0.2.1 b0.2.2 = true
    · rw [if_pos c] at h'
      cases i with
      | zero =>
        simp only [List.getElem?_cons_zero, Option.some.injEq] at h1 h2
        subst h1 h2
        exact c
      | succ i => exact numBad_ok h' i b d (by simpa using h1) (by simpa using h2)
    · rw [if_neg c] at h'
      cases h'
theorem bnds_at {i : Nat} (h : i < 10) : ∃ nm lo hi, bounds[i]? = some (.str nm, [.int lo, .int hi]) ∧ bnds[i]? = some (nm, lo, hi) := by
  match i, h with
  | 0, _ => exact ⟨_, _, _, rfl, rfl⟩
  | 1, _ => exact ⟨_, _, _, rfl, rfl⟩
  | 2, _ => exact ⟨_, _, _, rfl, rfl⟩
  | 3, _ => exact ⟨_, _, _, rfl, rfl⟩
  | 4, _ => exact ⟨_, _, _, rfl, rfl⟩
  | 5, _ => exact ⟨_, _, _, rfl, rfl⟩
  | 6, _ => exact ⟨_, _, _, rfl, rfl⟩
  | 7, _ => exact ⟨_, _, _, rfl, rfl⟩
  | 8, _ => exact ⟨_, _, _, rfl, rfl⟩
  | 9, _ => exact ⟨_, _, _, rfl, rfl⟩
theorem DqAll.drop {H : Hp} {B : Addr → Prop} : ∀ {us : List V} {ns : List PyData} (k : Nat), DqAll H B us ns → DqAll H B (us.drop k) (ns.drop k)
  | _, _, 0, h => h
  | _, _, k + 1, .nil => .nil
  | _, _, k + 1, .cons _ t => DqAll.drop k t
theorem dqR {H : Hp} {B : Addr → Prop} {x : V} {d : PyData} (h : Dq H B x d) : roleOk d = match x with | .str y => decide (y = "input") || (decide (y = "output") || decide (y = "feature")) | _ => false := by
  cases h <;> rfl
theorem inRole (y : Str) : (if false = true then !inV (.str y) [V.str "input", V.str "output", V.str "feature"] else inV (.str y) [V.str "input", V.str "output", V.str "feature"]) = roleOk (.str y) := by
  rw [if_neg (by decide)]
  show (decide _ || (decide _ || (decide _ || false))) = (decide _ || (decide _ || decide _))
  rw [Bool.or_false, decide_eq_decide.mpr (eq_comm (a := ("input" : Str))), decide_eq_decide.mpr (eq_comm (a := ("output" : Str))), decide_eq_decide.mpr (eq_comm (a := ("feature" : Str)))]
theorem inRoleN (y : Str) : (if true = true then !inV (.str y) [V.str "input", V.str "output", V.str "feature"] else inV (.str y) [V.str "input", V.str "output", V.str "feature"]) = !roleOk (.str y) := by
  have h := inRole y
  rw [if_neg (by decide)] at h
  rw [if_pos rfl, h]
theorem ints_of {H : Hp} {B : Addr → Prop} {lo hi : Int} : ∀ {us : List V} {ns : List PyData}, DqAll H B us ns → (ns.all fun d => inI d lo hi) = true → ∃ is : List Int, us = is.map V.int ∧ ns = is.map PyData.int
  | _, _, .nil, _ => ⟨[], rfl, rfl⟩
  | _, _, .cons (d := d) h t, e => by
    rw [List.all_cons, Bool.and_eq_true_iff] at e
    obtain ⟨is, e1, e2⟩ := ints_of t e.2
    obtain ⟨i, rfl, _⟩ := inI_ex e.1
    cases h
    exact ⟨i :: is, by rw [e1]; rfl, by rw [e2]; rfl⟩
theorem dpI {K : PySem.W.Frag} {H : Hp} : ∀ is : List Int, DpAll K H (is.map V.int) (is.map PyData.int)
  | [] => .nil
  | i :: is => .cons (.int i) (dpI is)
theorem layI : ∀ is : List Int, PyData.canLayAll0 (is.map PyData.int) = true
  | [] => rfl
  | i :: is => layI is
theorem depI : ∀ is : List Int, PyData.depthAll (is.map PyData.int) ≤ 10
  | [] => Nat.zero_le _
  | i :: is => Nat.max_le.mpr ⟨Nat.zero_le _, depI is⟩
def FldAt (K : PySem.W.Frag) (H : Hp) (a : Addr) (v : Fa) : Prop := ∃ dx, H a = some (.ins (He.ga K "Field") dx v.at)
def spNumbers (K : PySem.W.Frag) : Sp := fun vs H Q _ => ∃ (a : Addr) (v : Fa), vs = [.ref a] ∧ FldAt K H a v ∧ ∀ p H', Same H H' → H' p = some (.tup v.nums) → Q (.ref p) H'
structure V12 (K : PySem.W.Frag) (H : Hp) (B : Addr → Prop) (v : Fa) (ds : List PyData) : Prop where
  at_ : ∀ (i : Nat) (x : V), i < 11 → v.all[i]? = some x → ∃ d, ds[i]? = some d ∧ Dq H B x d
  us : ∃ d, ds[11]? = some d ∧ (Dq H B v.s d ∨ ∃ p, v.s = .ref p ∧ d = .tuple [] ∧ SqT K H p [])
theorem V12.of {K : PySem.W.Frag} {H : Hp} {B : Addr → Prop} {v : Fa} {ds : List PyData} (h : DqAll H B v.all ds) : V12 K H B v ds :=
  ⟨fun i x _ e => h.at e, let ⟨d, e, q⟩ := h.at (i := 11) (x := v.s) rfl; ⟨d, e, .inl q⟩⟩
def spBadName (K : PySem.W.Frag) : Sp := fun vs H Q _ => ∃ (B : Addr → Prop) (a : Addr) (v : Fa) (ds : List PyData), vs = [.ref a] ∧ FldAt K H a v ∧ V12 K H B v ds ∧ ∀ H', Same H H' → Q (oV (badName ds)) H'
theorem start_2_1 (x0 x1 : Str) (v0 : V) : L2.start [x0, x1] [v0] = [some v0, none] := rfl
theorem sc_Field_numbers : FnScope ["self", "head"] ["self"] (defScope ((inClass (top 18) 1))) := ⟨rfl, rfl, rfl, by decide +kernel, rfl, by decide +kernel, by decide +kernel⟩
theorem ok_Field_numbers {P : Program} {w : World} {K : PySem.W.Frag} {mg : Str → Option Value} {base : Heap} (T : TT K mg)    : Lm P w K mg base CX0 1 "Field" "numbers" ["self"] [] (spNumbers K) := by
  obtain ⟨fd, F⟩ := T.d_Field_numbers
  refine ⟨⟨fd, [], F.ok sc_Field_numbers (fun vs H Q E h => ?_) (fun cdv A outer s H vs Q E hr h => ?_), FunD.bindsN F (fun _ _ _ _ _ _ us hl => match us, hl with | [_], _ => rfl), .nil⟩⟩
  · obtain ⟨a, v, rfl, _⟩ := h
    rfl
  · obtain ⟨a, v, rfl, ⟨dx, ha⟩, q⟩ := h
    have c_F := T.c_Field
    have n_role := T.n_Field_role
    have n_number := T.n_Field_number
    have n_flags := T.n_Field_flags
    have n_size := T.n_Field_size
    have n_amount := T.n_Field_amount
    have n_low := T.n_Field_low
    have n_high := T.n_Field_high
    have n_plow := T.n_Field_plow
    have n_phigh := T.n_Field_phigh
    have n_exponent := T.n_Field_exponent
    have n_unit := T.n_Field_unit
    have n_usages := T.n_Field_usages
    refine ⟨_, PSs.nox ((pss_cons (ps_set (i := 1) sc_Field_numbers.nd rfl (by first | exact Or.inl rfl | exact Or.inr rfl) (pe_tup (pa_cons (pe_fld (pv 0) rfl) (pa_cons (pe_fld (pv 0) rfl) (pa_cons (pe_fld (pv 0) rfl) (pa_cons (pe_fld (pv 0) rfl) (pa_cons (pe_fld (pv 0) rfl) (pa_cons (pe_fld (pv 0) rfl) pa_nil)))))))) (pss_one (ps_ret (pe_op op_catT (pv 1) (pe_tup (pa_cons (pe_fld (pv 0) rfl) (pa_cons (pe_fld (pv 0) rfl) (pa_cons (pe_fld (pv 0) rfl) (pa_cons (pe_fld (pv 0) rfl) pa_nil)))))))))), ?_⟩; rw [start_2_1]; try dsimp only [cxOf]
    walk_at "rl wp"
    exact q _ _ (by walk_at "rl same") (by assumption)

theorem start_8_1 (x0 x1 x2 x3 x4 x5 x6 x7 : Str) (v0 : V) : L2.start [x0, x1, x2, x3, x4, x5, x6, x7] [v0] = [some v0, none, none, none, none, none, none, none] := rfl
theorem sc_Field_bad_name : FnScope ["self", "value", "name", "low", "high", "usages", "bad", "one"] ["self"] (defScope ((inClass (top 18) 2))) := ⟨rfl, rfl, rfl, by decide +kernel, rfl, by decide +kernel, by decide +kernel⟩
theorem ok_Field_bad_name {P : Program} {w : World} {K : PySem.W.Frag} {mg : Str → Option Value} {base : Heap} (T : TT K mg) (D_is_integer : Ld P w K mg base CX0 1 "is_integer" ["thing", "low", "high"] [] (spIsInt)) (D_is_usage : Ld P w K mg base CX0 2 "is_usage" ["thing"] [] (spIsUsage)) (D_bad_range : Ld P w K mg base CX0 2 "bad_range" ["low", "high", "size"] [] (spBadRange)) (D_are_usages : Ld P w K mg base CX0 1 "are_usages" ["usages", "flags", "amount", "codes"] [] (spAreUs K)) (D_Field_numbers : Lm P w K mg base CX0 1 "Field" "numbers" ["self"] [] (spNumbers K))   : Lm P w K mg base CX0 3 "Field" "bad_name" ["self"] [] (spBadName K) := by
  obtain ⟨⟨fd_is_integer, ds_is_integer, F_is_integer, b_is_integer, v_is_integer⟩, g_is_integer, k_is_integer⟩ := D_is_integer
  obtain ⟨⟨fd_is_usage, ds_is_usage, F_is_usage, b_is_usage, v_is_usage⟩, g_is_usage, k_is_usage⟩ := D_is_usage
  obtain ⟨⟨fd_bad_range, ds_bad_range, F_bad_range, b_bad_range, v_bad_range⟩, g_bad_range, k_bad_range⟩ := D_bad_range
  obtain ⟨⟨fd_are_usages, ds_are_usages, F_are_usages, b_are_usages, v_are_usages⟩, g_are_usages, k_are_usages⟩ := D_are_usages
  obtain ⟨⟨fd_Field_numbers, ds_Field_numbers, F_Field_numbers, b_Field_numbers, v_Field_numbers⟩⟩ := D_Field_numbers
  obtain ⟨fd, F⟩ := T.d_Field_bad_name
  refine ⟨⟨fd, [], F.ok sc_Field_bad_name (fun vs H Q E h => ?_) (fun cdv A outer s H vs Q E hr h => ?_), FunD.bindsN F (fun _ _ _ _ _ _ us hl => match us, hl with | [_], _ => rfl), .nil⟩⟩
  · obtain ⟨B, a, v, ds, rfl, _⟩ := h
    rfl
  · obtain ⟨B, a, v, ds, rfl, fv, hd, q⟩ := h
    obtain ⟨dx, ha⟩ := fv
    obtain ⟨x0, x1, x2, x3, x4, x5, x6, x7, x8, x9, x10, x11⟩ := v
    have fv : FldAt K H a ⟨x0, x1, x2, x3, x4, x5, x6, x7, x8, x9, x10, x11⟩ := ⟨dx, ha⟩
    have tR : SqT K H (He.ga K "ROLES") [V.str "input", V.str "output", V.str "feature"] := T.t_ROLES H
    have c_F := T.c_Field
    have n_role := T.n_Field_role
    have n_number := T.n_Field_number
    have n_flags := T.n_Field_flags
    have n_size := T.n_Field_size
    have n_amount := T.n_Field_amount
    have n_low := T.n_Field_low
    have n_high := T.n_Field_high
    have n_plow := T.n_Field_plow
    have n_phigh := T.n_Field_phigh
    have n_exponent := T.n_Field_exponent
    have n_unit := T.n_Field_unit
    have n_usages := T.n_Field_usages
    have HD0 := hd.at_ 0 x0 (by decide) rfl
    have HD2 := hd.at_ 2 x2 (by decide) rfl
    have HD3 := hd.at_ 3 x3 (by decide) rfl
    have HD4 := hd.at_ 4 x4 (by decide) rfl
    have HD5 := hd.at_ 5 x5 (by decide) rfl
    have HD6 := hd.at_ 6 x6 (by decide) rfl
    have HD11 := hd.us
    obtain ⟨kvs, hk1, hk2⟩ := T.t_BOUNDS
    have hkl : kvs.length = 10 := hk1.length.symm
    obtain ⟨d0, e0, q0⟩ := HD0
    obtain ⟨d2, e2, q2⟩ := HD2
    obtain ⟨d3, e3, q3⟩ := HD3
    obtain ⟨d4, e4, q4⟩ := HD4
    obtain ⟨d5, e5, q5⟩ := HD5
    obtain ⟨d6, e6, q6⟩ := HD6
    obtain ⟨d11, e11, q11⟩ := HD11
    have g0 : ds.getD 0 .none = d0 := by rw [List.getD_eq_getElem?_getD, e0]; rfl
    have g2 : ds.getD 2 .none = d2 := by rw [List.getD_eq_getElem?_getD, e2]; rfl
    have g3 : ds.getD 3 .none = d3 := by rw [List.getD_eq_getElem?_getD, e3]; rfl
    have g4 : ds.getD 4 .none = d4 := by rw [List.getD_eq_getElem?_getD, e4]; rfl
    have g5 : ds.getD 5 .none = d5 := by rw [List.getD_eq_getElem?_getD, e5]; rfl
    have g6 : ds.getD 6 .none = d6 := by rw [List.getD_eq_getElem?_getD, e6]; rfl
    have g11 : ds.getD 11 .none = d11 := by rw [List.getD_eq_getElem?_getD, e11]; rfl
    have er : roleOk d0 = false → badName ds = some ("role" : Str) := fun c => by
      unfold badName
      rw [g0, c]
      rfl
    have eg : roleOk d0 = true → badName ds = (match numBad bnds (ds.drop 1) with
        | some s => some s
        | none => usBad (toI d2) (toI d3) (toI d4) (toI d5) (toI d6) d11) := fun c => by
      unfold badName
      rw [g0, g2, g3, g4, g5, g6, g11, if_pos c]
    have k1 := fun i b d => numBad_ok (bs := bnds) (ds := ds.drop 1) (i := i) (b := b) (d := d)
    clear g0 g2 g3 g4 g5 g6 g11 e0
    refine ⟨_, PSs.nox ((pss_cons (ps_if (PW.pt (pw_or (pt_not (pt_val (pe_callB call_isi (by rfl) T.m_isinstance (by decide +kernel) (pa_cons (pe_fld (pv 0) rfl) (pa_cons (pe_bltn (v := .ty "str") (by rfl) T.m_str (by decide +kernel) rfl) pa_nil))))) (pw_or1 (pt_cmpR op_notIn_seq (pe_fld (pv 0) rfl) (pe_glob rfl (T.g_ROLES) (show RelV (.ref (He.ga K "ROLES")) _ from rfl)) (by rfl))))) (pss_one (ps_ret pe_str)) pss_nil) (pss_cons (ps_for PassesOwn.never rfl (pi_zip2S (by rfl) T.m_zip (pa_cons (pe_itemsK (pe_glob rfl (T.g_BOUNDS) (show RelV (.ref (He.ga K "BOUNDS")) _ from rfl))) (pa_cons (pe_meth0 (pv 0) T.c_Field T.h_Field_numbers F_Field_numbers (hr.mono (by decide)) b_Field_numbers v_Field_numbers pass0) pa_nil))) (pg_tup rfl (pgs_cons (pg_tup rfl (pgs_cons (pg_name (i := 2) sc_Field_bad_name.nd rfl (by first | exact Or.inl rfl | exact Or.inr rfl)) (pgs_cons (pg_tup rfl (pgs_cons (pg_name (i := 3) sc_Field_bad_name.nd rfl (by first | exact Or.inl rfl | exact Or.inr rfl)) (pgs_cons (pg_name (i := 4) sc_Field_bad_name.nd rfl (by first | exact Or.inl rfl | exact Or.inr rfl)) pgs_nil))) pgs_nil))) (pgs_cons (pg_name (i := 1) sc_Field_bad_name.nd rfl (by first | exact Or.inl rfl | exact Or.inr rfl)) pgs_nil))) (pss_one (ps_if (pt_not (pt_val (pe_call F_is_integer (hr.mono (by decide)) (by rfl) g_is_integer k_is_integer b_is_integer v_is_integer pass0 (pa_cons (pv 1) (pa_cons (pv 3) (pa_cons (pv 4) pa_nil)))))) (pss_one (ps_ret (pv 2))) pss_nil))) (pss_cons (ps_set (i := 5) sc_Field_bad_name.nd rfl (by first | exact Or.inl rfl | exact Or.inr rfl) (pe_fld (pv 0) rfl)) (pss_cons (ps_if (PW.pt (pw_or (pt_not (pt_val (pe_callB call_isi (by rfl) T.m_isinstance (by decide +kernel) (pa_cons (pv 5) (pa_cons (pe_bltn (v := .ty "tuple") (by rfl) T.m_tuple (by decide +kernel) rfl) pa_nil))))) (pw_or (pt_cmpR op_gt (pe_callB call_len_seq (by rfl) T.m_len PySem.boot_len (pa_cons (pv 5) pa_nil)) (pe_glob rfl (T.i_MOST_USAGES).choose_spec (show RelV (.int (256)) _ from ⟨_, rfl⟩)) (nomark _)) (pw_or1 (pt_not (pt_val (pe_callB (cr_all rfl) (by rfl) T.m_all (by decide +kernel) (pa_cons (by exact (pe_lc (own := [("one", 7)]) rfl sc_Field_bad_name.nd (pi_tup (pv 5)) (blkOk_by (own := [("one", 7)]) (N := ["self", "value", "name", "low", "high", "usages", "bad", "one"]) (sc := defScope ((inClass (top 18) 2))) (by decide +kernel)) (fun _ _ _ _ _ => by exact (pg_name (i := 7) sc_Field_bad_name.nd rfl (by first | exact Or.inl rfl | exact Or.inr rfl))) (fun _ _ _ _ _ => by exact pts_nil) (fun _ _ _ _ _ => by exact (pe_call F_is_usage hr (by rfl) g_is_usage k_is_usage b_is_usage v_is_usage pass0 (pa_cons (pv 7) pa_nil))))) pa_nil)))))))) (pss_one (ps_ret pe_str)) pss_nil) (pss_cons (ps_set (i := 6) sc_Field_bad_name.nd rfl (by first | exact Or.inl rfl | exact Or.inr rfl) (pe_ifExp (pt_truth (pe_op op_and (pe_fld (pv 0) rfl) (pe_glob rfl (T.i_CONSTANT).choose_spec (show RelV (.int (1)) _ from ⟨_, rfl⟩))) (by intro _; rfl)) pe_non (pe_call F_bad_range hr (by rfl) g_bad_range k_bad_range b_bad_range v_bad_range pass0 (pa_cons (pe_fld (pv 0) rfl) (pa_cons (pe_fld (pv 0) rfl) (pa_cons (pe_fld (pv 0) rfl) pa_nil)))))) (pss_cons (ps_if (pt_cmpR op_notN (pv 6) pe_non (nomark _)) (pss_one (ps_ret (pv 6))) pss_nil) (pss_one (ps_ret (pe_ifExp (pt_val (pe_call F_are_usages (hr.mono (by decide)) (by rfl) g_are_usages k_are_usages b_are_usages v_are_usages pass0 (pa_cons (pv 5) (pa_cons (pe_fld (pv 0) rfl) (pa_cons (pe_fld (pv 0) rfl) (pa_cons (pe_op op_add (pe_op op_sub (pe_fld (pv 0) rfl) (pe_fld (pv 0) rfl)) pe_int) pa_nil)))))) pe_non pe_str)))))))))), ?_⟩; rw [start_8_1]; try dsimp only [cxOf]
    have hx1 : ∀ (i : Nat) (x : V), i < 10 → [x1, x2, x3, x4, x5, x6, x7, x8, x9, x10, x11][i]? = some x → ∃ d, (ds.drop 1)[i]? = some d ∧ Dq H B x d := fun i x hi e => by
      rw [List.getElem?_drop, Nat.add_comm]
      exact hd.at_ (i + 1) x (by omega) e
    cases q0 with
    | str y =>
      walk_at "rl wi"
      refine w_inT tR rfl rfl ?_
      rw [inRoleN]
      cases hr0 : roleOk (.str y) with
      | false =>
        rw [er hr0] at q
        walk_at "rl wi"
        exact q _ (Same.refl _)
      | true =>
      rw [eg hr0] at q
      clear er eg
      walk_at "rl wi"
      refine w_item1 hk2 ?_
      walk_at "rl wp"
      refine ⟨a, _, rfl, ⟨dx, by walk_at "rl hq"⟩, fun pn H2 s2 hpn => ?_⟩
      walk_at "rl wp"
      refine ⟨_, _, ItI kvs, Itt K pn, rfl, .inr (.inr ⟨_, _, _, rfl, by walk_at "rl hq", hk2, rfl⟩), .inr (.inl ⟨_, _, rfl, SqT.of hpn, rfl⟩), ?_⟩
      refine w_forI 10 (fun i σ' H' => Same H2 H' ∧ numBad bnds (ds.drop 1) = numBad (bnds.drop i) ((ds.drop 1).drop i) ∧ ∃ s1 s2 s3 s4, σ' = [some (.ref a), s1, s2, s3, s4, none, none, none]) ⟨Same.refl _, rfl, _, _, _, _, rfl⟩ ?_ ?_
      · rintro i σ' H' hi ⟨sm, en, s1, s2, s3, s4, rfl⟩
        obtain ⟨nm, lo, hi', b1, b2⟩ := bnds_at hi
        obtain ⟨x, hx, hx'⟩ : ∃ x, (Fa.nums ⟨.str y, x1, x2, x3, x4, x5, x6, x7, x8, x9, x10, x11⟩)[i]? = some x ∧ [x1, x2, x3, x4, x5, x6, x7, x8, x9, x10, x11][i]? = some x := by
          rcases (show i = 0 ∨ i = 1 ∨ i = 2 ∨ i = 3 ∨ i = 4 ∨ i = 5 ∨ i = 6 ∨ i = 7 ∨ i = 8 ∨ i = 9 by omega) with rfl | rfl | rfl | rfl | rfl | rfl | rfl | rfl | rfl | rfl <;> exact ⟨_, rfl, rfl⟩
        obtain ⟨d, ed, qd⟩ := hx1 i x hi hx'
        have est := numBad_step b2 ed
        obtain ⟨⟨k, w⟩, e1, e2', b, e3', e4'⟩ := Paired.at hk1 b1
        dsimp only at e2' e3'
        subst e2' e3'
        have hpn' : SqT K H' pn (Fa.nums ⟨.str y, x1, x2, x3, x4, x5, x6, x7, x8, x9, x10, x11⟩) := SqT.of (sm _ _ hpn)
        refine ⟨zip_go (by omega) hpn' hx, fun v H3 yv => ?_⟩
        obtain ⟨T1, T2, rfl, t1, t2, sm3⟩ := zip_yld yv e1 hpn' hx
        have e4'' := e4' H3
        have sH : Same H H3 := by walk_at "rl same"
        walk_at "rl wp"
        refine ⟨_, _, _, _, _, rfl, qd.same sH, ?_⟩
        walk_at "rl wp"
        cases hI : inI d lo hi' with
        | true =>
          refine iteF' rfl ?_
          walk_at "rl wp"
          rw [hI, if_pos rfl] at est
          exact ⟨sm.trans sm3, en.trans est, _, _, _, _, rfl⟩
        | false =>
          refine iteT' rfl ?_
          walk_at "rl wp"
          rw [hI, if_neg (by decide)] at est
          rw [en, est] at q
          exact q _ sH
      rintro σ' H' ⟨sm, en, s1, s2, s3, s4, rfl⟩
      have en0 : numBad bnds (ds.drop 1) = none := by rw [en]; rfl
      rw [en0] at q
      have q : ∀ H', Same H H' → Q (oV (usBad (toI d2) (toI d3) (toI d4) (toI d5) (toI d6) d11)) H' := q
      clear en
      have ed : ∀ k : Nat, (ds.drop 1)[k]? = ds[k + 1]? := fun k => by rw [List.getElem?_drop, Nat.add_comm]
      obtain ⟨i2, rfl, _, _⟩ := inI_ex (k1 1 _ d2 en0 rfl ((ed 1).trans e2))
      obtain ⟨i3, rfl, z0, z1⟩ := inI_ex (k1 2 _ d3 en0 rfl ((ed 2).trans e3))
      obtain ⟨i4, rfl, _, _⟩ := inI_ex (k1 3 _ d4 en0 rfl ((ed 3).trans e4))
      obtain ⟨i5, rfl, l0, l1⟩ := inI_ex (k1 4 _ d5 en0 rfl ((ed 4).trans e5))
      obtain ⟨i6, rfl, l2, l3⟩ := inI_ex (k1 5 _ d6 en0 rfl ((ed 5).trans e6))
      clear k1 ed
      cases q2
      cases q3
      cases q4
      cases q5
      cases q6
      have z0' : 0 ≤ i3 := z0
      have z1' : i3 ≤ 32 := z1
      have hq' : Same H H' := by walk_at "rl same"
      have ha2 := hq' _ _ ha
      have uf : ∀ {g : Nat → Ends}, True := fun {_} => trivial
      refine ⟨zip_stop (by omega) (SqT.of (sm _ _ hpn)) (Nat.le_refl _), ?_⟩
      have q12 : (∃ pu us es, x11 = .ref pu ∧ d11 = .tuple es ∧ SqT K H pu us ∧ DqAll H B us es) ∨ (Dq H B x11 d11 ∧ ∀ es, d11 ≠ .tuple es) := by
        rcases q11 with q11 | ⟨p, e, e2, hu⟩
        · cases q11 with
          | tup te tn th => exact .inl ⟨_, _, _, rfl, rfl, SqT.of te, th⟩
          | lst te tn th => exact .inr ⟨.lst te tn th, fun _ z => nomatch z⟩
          | dk0 te tn => exact .inr ⟨.dk0 te tn, fun _ z => nomatch z⟩
          | dk1 te tn => exact .inr ⟨.dk1 te tn, fun _ z => nomatch z⟩
          | non => exact .inr ⟨.non, fun _ z => nomatch z⟩
          | bl b => exact .inr ⟨.bl b, fun _ z => nomatch z⟩
          | int b => exact .inr ⟨.int b, fun _ z => nomatch z⟩
          | str b => exact .inr ⟨.str b, fun _ z => nomatch z⟩
        · exact .inl ⟨p, [], [], e, e2, hu, .nil⟩
      clear q11
      rcases q12 with ⟨pu, us, es, rfl, rfl, hu, hes⟩ | ⟨q11, hnt⟩
      case inl =>
        have hu' : SqT K H' pu us := Same.sqT hq' hu
        have q : ∀ H', Same H H' → Q (oV (if (decide (es.length ≤ 256) && es.all fun d => inI d 0 4294967295) = true then lastBad i2 i3 i4 i5 i6 es.length else some ("usages" : Str))) H' := q
        walk_at "rl wi"
        rw [hes.len]
        refine ite_dec (fun c => ?_) (fun c => ?_)
        · rw [decide_eq_false (by omega), Bool.false_and] at q
          walk_at "rl wi"
          exact q _ hq'
        rw [decide_eq_true (by omega), Bool.true_and] at q
        walk_at "rl wp"
        refine w_lcSL (fun L i acc H2 => Same H' H2 ∧ acc = (es.take i).map fun d => V.bl (inI d 0 4294967295)) (fun L i acc H2 ⟨sm, _⟩ => seqT (Same.sqT sm hu')) (fun L n => ⟨same_upd n, rfl⟩) ?_ ?_
        · rintro L i acc x H7 nL hx eL hacc ⟨sm7, rfl⟩
          obtain ⟨dd, hdd, hx2⟩ := hes.at hx
          have hi2 : i < es.length := (List.getElem?_eq_some_iff.mp hdd).1
          have hx3 := hx2.same (hq'.trans sm7)
          walk_at "rl wp"
          refine ⟨rfl, ?_⟩
          dsimp only [wipe, List.map, List.foldl, List.set]
          walk_at "rl wi"
          refine ⟨_, _, _, rfl, hx3, lc_put (n := es.length) eL hacc hi2 (by omega) ⟨Same.updN nL sm7, take_step (f := fun d => V.bl (inI d 0 4294967295)) hdd⟩⟩
        rintro L acc H7 nL eL ⟨sm7, rfl⟩
        have ha7 := sm7 _ _ ha2
        have sH7 : Same H H7 := hq'.trans sm7
        have elt : es.take us.length = es := by rw [hes.len]; exact List.take_length
        rw [elt] at eL
        walk_at "rl wp"
        refine w_all (bs := es.map fun d => inI d 0 4294967295) (by rw [List.map_map]; exact SqL.of eL) ?_
        rw [show (es.map fun d => inI d 0 4294967295).all id = es.all fun d => inI d 0 4294967295 from by rw [List.all_map]; rfl]
        cases hall : es.all fun d => inI d 0 4294967295 with
        | false =>
          rw [hall] at q
          walk_at "rl wi"
          exact q _ sH7
        | true =>
        rw [hall, if_pos rfl] at q
        obtain ⟨is, rfl, rfl⟩ := ints_of hes hall
        have hu7 : SqT K H7 pu (is.map V.int) := Same.sqT sH7 hu
        unfold lastBad at q
        walk_at "rl wi"
        by_cases c1 : Builtin.bitAnd i2 1 = 0
        · rw [if_neg (fun z => z c1)] at q
          refine iteF' (by rw [c1]; rfl) ?_
          walk_at "rl wp"
          refine ⟨_, _, _, rfl, z0', z1', ?_⟩
          cases hb : badRange i5 i6 i3 with
          | some nm =>
            rw [hb] at q
            walk_at "rl wi"
            exact q _ sH7
          | none =>
            rw [hb] at q
            walk_at "rl wi"
            refine ⟨_, _, _, _, _, _, rfl, hu7, dpI is, layI is, depI is, fun H8 sm8 => ?_⟩
            rw [show (is.map V.int).length = (is.map PyData.int).length from by rw [List.length_map, List.length_map]]
            cases hau : areUs (is.map PyData.int).length i2 i4 (i6 - i5 + 1) with
            | true =>
              rw [hau] at q
              walk_at "rl wi"
              exact q _ (sH7.trans sm8)
            | false =>
              rw [hau] at q
              walk_at "rl wi"
              exact q _ (sH7.trans sm8)
        · rw [if_pos c1] at q
          refine iteT' (by simpa using c1) ?_
          walk_at "rl wi"
          refine ⟨_, _, _, _, _, _, rfl, hu7, dpI is, layI is, depI is, fun H8 sm8 => ?_⟩
          rw [show (is.map V.int).length = (is.map PyData.int).length from by rw [List.length_map, List.length_map]]
          cases hau : areUs (is.map PyData.int).length i2 i4 (i6 - i5 + 1) with
          | true =>
            rw [hau] at q
            walk_at "rl wi"
            exact q _ (sH7.trans sm8)
          | false =>
            rw [hau] at q
            walk_at "rl wi"
            exact q _ (sH7.trans sm8)
      case inr =>
        cases q11 with
        | tup e nb hes => exact absurd rfl (hnt _)
        | lst e nb hes => have e' := hq' _ _ e; walk_at "rl wi"; exact q _ hq'
        | dk0 e nb => have e' := hq' _ _ e; walk_at "rl wi"; exact q _ hq'
        | dk1 e nb => have e' := hq' _ _ e; walk_at "rl wi"; exact q _ hq'
        | _ => walk_at "rl wi"; exact q _ hq'
    | _ => rw [er rfl] at q; walk_at "rl wi"; exact q _ (Same.refl _)
end T16
end
section
set_option Elab.async false
set_option linter.all false
set_option maxRecDepth 100000
set_option maxHeartbeats 1000000
namespace T16
open PySem PySem.Spec PyProof.Rows L2 L2.RL
local macro_rules | `(tactic| walk_at "rl ty") => `(tactic| first
  | assumption
  | exact .base (.int _)
  | exact .base (.str _)
  | exact .base .non
  | exact .base (.bl _)
  | exact ty_sqT (by walk_at "rl hp")
  | exact ty_sqL (by walk_at "rl hp")
  | exact .base (.tup (by walk_at "rl hp"))
  | exact .base (.lst (by walk_at "rl hp"))
  | exact .base (.dK (by walk_at "rl hp")))
local macro_rules | `(tactic| walk_at "rl if") => `(tactic| first
  | with_reducible refine iteT' rfl ?_
  | with_reducible refine iteF' rfl ?_
  | (refine iteT' rfl ?_)
  | (refine iteF' rfl ?_))
local macro_rules | `(tactic| walk_at "rl side") => `(tactic| first | assumption | omega | (constructor <;> omega) | decide)
local macro_rules | `(tactic| walk_at "rl ne") => `(tactic| first
  | assumption
  | exact Ne.symm (by assumption)
  | walk_at "rl ne2"
  | exact ne_of (by assumption) (by walk_at "rl hq") (by intro z; cases z)
  | exact (ne_of (by assumption) (by walk_at "rl hq") (by intro z; cases z)).symm)
local macro_rules | `(tactic| walk_at "rl hq") => `(tactic| first
  | assumption
  | exact upd_same
  | (refine' upd_at ?rlne ?rlhq; (case rlne => walk_at "rl ne"); (case rlhq => walk_at "rl hq"))
  | (refine' Same.at ?rlsa ?rlhq; (case rlsa => assumption); (case rlhq => walk_at "rl hq"))
  | (refine' But.at ?rlbu ?rlne ?rlhq; (case rlbu => assumption); (case rlne => walk_at "rl ne"); (case rlhq => walk_at "rl hq")))
local macro_rules | `(tactic| walk_at "rl hp") => `(tactic| first
  | assumption
  | (refine' SqL.of ?rlhq; (case rlhq => walk_at "rl hq"))
  | (refine' SqT.of ?rlhq; (case rlhq => walk_at "rl hq"))
  | (refine' Same.seq ?rlsa ?rlhp; (case rlsa => assumption); (case rlhp => walk_at "rl hp"))
  | (refine' Same.sqT ?rlsa ?rlhp; (case rlsa => assumption); (case rlhp => walk_at "rl hp"))
  | walk_at "rl hp2"
  | walk_at "rl hq")
local macro_rules | `(tactic| walk_at "rl w1") => `(tactic| first
  | with_reducible refine w_seq ?_
  | ((with_reducible refine' w_var ?rlv ?_); (case rlv => exact rfl))
  | with_reducible refine w_c ?_
  | with_reducible refine w_op ?_
  | with_reducible refine w_I0 ?_
  | with_reducible refine w_asg ?_
  | ((with_reducible refine' w_gName ?_); dsimp only [List.set])
  | ((with_reducible refine' w_nxD ?rle ?_); (case rle => exact rfl))
  | ((with_reducible refine' w_rtD ?rle ?_); (case rle => exact rfl))
  | with_reducible refine w_next ?_
  | with_reducible refine w_ret ?_
  | with_reducible refine w_cons ?_
  | with_reducible refine w_nil ?_
  | with_reducible refine w_ifS ?_
  | with_reducible refine w_test ?_
  | with_reducible refine w_B ?_
  | with_reducible refine w_bl ?_
  | with_reducible refine w_bl1 ?_
  | with_reducible refine w_blR ?_
  | with_reducible refine w_eqI ?_
  | with_reducible refine w_neI ?_
  | with_reducible refine w_eqS ?_
  | with_reducible refine w_neS ?_
  | with_reducible refine w_eqB ?_
  | with_reducible refine w_neB ?_
  | with_reducible refine w_and ?_
  | with_reducible refine w_or ?_
  | with_reducible refine w_not ?_
  | with_reducible refine w_andV ?_
  | with_reducible refine w_orV ?_
  | with_reducible refine w_notV ?_
  | with_reducible refine w_if ?_
  | with_reducible refine w_chain ?_
  | with_reducible refine w_un ?_
  | with_reducible refine w_U ?_
  | ((with_reducible refine' w_I ?rlc ?_); (case rlc => walk_at "rl side"))
  | with_reducible refine w_drop ?_
  | with_reducible refine w_retN ?_
  | with_reducible refine w_par ?_
  | ((with_reducible refine' w_par2 ?_); dsimp only [List.set])
  | ((with_reducible refine' w_aug ?rla ?_); (case rla => exact rfl))
  | with_reducible refine w_ipI ?_
  | with_reducible refine w_break ?_
  | with_reducible refine w_cont ?_
  | ((with_reducible refine' w_bkD ?rle ?_); (case rle => exact rfl))
  | ((with_reducible refine' w_ctD ?rle ?_); (case rle => exact rfl))
  | with_reducible refine w_tup ?_
  | with_reducible refine w_lst ?_
  | ((with_reducible refine' w_newO ?rln ?_); (case rln => exact Nat.le_of_ble_eq_true rfl); intro _ _ _ _ _)
  | ((with_reducible refine' w_new ?rln ?_); (case rln => exact Nat.le_of_ble_eq_true rfl))
  | ((with_reducible refine' w_mk ?_); intro _ _ _ _ _)
  | ((with_reducible refine' w_gTup ?rls ?rll ?_); (case rls => walk_at "rl hp"); (case rll => exact rfl))
  | with_reducible refine w_gCons ?_
  | with_reducible refine w_gNil ?_
  | with_reducible refine w_gSub ?_
  | ((with_reducible refine' w_setL ?rls ?rlj ?_); (case rls => walk_at "rl hp"); (case rlj => exact rfl))
  | ((with_reducible refine' w_ixL ?rls ?rli ?_); (case rls => walk_at "rl hp"); (case rli => exact rfl))
  | ((with_reducible refine' w_ixT ?rls ?rli ?_); (case rls => walk_at "rl hp"); (case rli => exact rfl))
  | with_reducible refine w_call ?_
  | with_reducible refine w_trI ?_
  | with_reducible refine w_yes ?_
  | with_reducible refine w_trB ?_
  | with_reducible refine w_trN ?_
  | with_reducible refine w_cb ?_
  | with_reducible refine w_fld ?_
  | ((with_reducible refine' w_fld1 ?rlo ?rlc ?rln ?rll ?_); (case rlo => walk_at "rl hp"); (case rlc => assumption); (case rln => assumption); (case rll => exact rfl))
  | with_reducible refine w_isiO ?_
  | with_reducible refine w_isiT ?_
  | ((with_reducible refine' w_isi (r := true) ?rlt ?rlk ?_); (case rlt => walk_at "rl ty"); (case rlk => exact rfl))
  | ((with_reducible refine' w_isi (r := false) ?rlt ?rlk ?_); (case rlt => walk_at "rl ty"); (case rlk => exact rfl))
  | ((with_reducible refine' w_isi2 (r := true) ?rlT ?rlt ?rlk ?_); (case rlT => walk_at "rl hp"); (case rlt => walk_at "rl ty"); (case rlk => exact rfl))
  | ((with_reducible refine' w_isi2 (r := false) ?rlT ?rlt ?rlk ?_); (case rlT => walk_at "rl hp"); (case rlt => walk_at "rl ty"); (case rlk => exact rfl))
  | with_reducible refine w_sFld ?_
  | with_reducible refine w_itemsK ?_
  | ((with_reducible refine' w_catT ?rlha ?rlhb ?rln1 ?rln2 ?rlhl ?_); (case rlha => walk_at "rl hp"); (case rlhb => walk_at "rl hp"); (case rln1 => exact (fun z => nomatch z)); (case rln2 => exact (fun z => nomatch z)); (case rlhl => exact Nat.le_trans (Nat.le_of_ble_eq_true rfl) (show 100000 ≤ sizeLine by decide)))
  | ((with_reducible refine' w_newE ?_); intro _ _ _ _ _)
  | with_reducible refine w_makeK ?_
  | ((with_reducible refine' w_sFld1 ?rlc ?rln ?rll ?rle ?_); (case rlc => assumption); (case rln => assumption); (case rll => exact Nat.lt_of_lt_of_le (Nat.lt_succ_self _) (Nat.le_of_ble_eq_true rfl)); (case rle => exact rfl))
  | ((with_reducible refine' w_sFld0 ?rlx ?rlc ?rln ?rll ?rle ?_); (case rlx => walk_at "rl hq"); (case rlc => assumption); (case rln => assumption); (case rll => exact Nat.lt_of_lt_of_le (Nat.lt_succ_self _) (Nat.le_of_ble_eq_true rfl)); (case rle => exact rfl))
  | with_reducible refine w_rflA ?_
  | with_reducible refine w_for ?_
  | with_reducible refine w_iList ?_
  | with_reducible refine w_iTup ?_
  | ((with_reducible refine' w_overL ?rls ?_); (case rls => walk_at "rl hp"))
  | ((with_reducible refine' w_overT ?rls ?_); (case rls => walk_at "rl hp"))
  | with_reducible refine w_rng1 ?_
  | ((with_reducible refine' w_rng1a ?rl1 ?rl2 ?_); (case rl1 => omega); (case rl2 => omega))
  | with_reducible refine w_rng2 ?_
  | ((with_reducible refine' w_rng2a ?rl1 ?_); (case rl1 => omega))
  | with_reducible refine w_zip2 ?_
  | with_reducible refine w_lc ?_
  | with_reducible refine w_enS ?_
  | with_reducible refine w_callSD ?_
  | with_reducible refine w_xf ?_
  | ((with_reducible refine' w_dnew ?_); intro _ _ _ _ _)
  | ((with_reducible refine' w_disp1 ?_); intro _ _ _ _ _)
  | with_reducible refine w_bm ?_
  | ((with_reducible refine' w_tyL ?rls ?_); (case rls => walk_at "rl hp"))
  | ((with_reducible refine' w_append ?rls ?rll ?_); (case rls => walk_at "rl hq"); (case rll => exact Nat.lt_of_lt_of_le (Nat.lt_succ_self _) (Nat.le_of_ble_eq_true rfl)))
  | ((with_reducible refine' w_cat ?rls ?rlt ?rll ?_); (case rls => walk_at "rl hq"); (case rlt => walk_at "rl hq"); (case rll => exact Nat.le_of_ble_eq_true rfl); intro _ _ _ _ _)
  | with_reducible refine w_int1 ?_
  | ((with_reducible refine w_intb ?_); (try dsimp only))
  | with_reducible refine w_one ?_
  | with_reducible refine w_two ?_
  | ((with_reducible refine' w_lenL ?rls ?_); (case rls => walk_at "rl hp"))
  | ((with_reducible refine' w_lenT ?rls ?_); (case rls => walk_at "rl hp"))
  | with_reducible refine w_meth ?_
  | ((with_reducible refine' w_meth1 ?rlo ?rll ?_); (case rlo => walk_at "rl hp"); (case rll => exact rfl)))
local macro_rules | `(tactic| walk_at "rl wp") => `(tactic| (repeat walk_at "rl w1"))
local macro_rules | `(tactic| walk_at "rl but") => `(tactic| first
  | assumption
  | exact But.refl _ _
  | exact But.upd
  | exact But.of_same (by assumption)
  | (refine But.trans ?_ (But.of_same (by assumption)); walk_at "rl but")
  | (refine But.trans ?_ (by assumption : But _ _ _); walk_at "rl but")
  | (refine But.trans ?_ But.upd; walk_at "rl but"))
local macro_rules | `(tactic| walk_at "rl same") => `(tactic| first
  | assumption
  | exact Same.refl _
  | (refine Same.trans ?_ (by assumption : Same _ _); walk_at "rl same"))

local macro_rules | `(tactic| walk_at "rl wi") => `(tactic| (repeat (first
  | walk_at "rl w1"
  | ((with_reducible refine' iteF' ?rlif ?_); (case rlif => exact rfl))
  | ((with_reducible refine' iteT' ?rlif ?_); (case rlif => exact rfl)))))
local macro_rules | `(tactic| walk_at "rl ty") => `(tactic| exact .base (.dK (by assumption)))
local macro_rules | `(tactic| walk_at "rl ty") => `(tactic| exact .base (.lst (by assumption)))
local macro_rules | `(tactic| walk_at "rl ty") => `(tactic| exact .base (.tup (by assumption)))
local macro_rules | `(tactic| walk_at "rl w1") => `(tactic| first
  | with_reducible refine w_par3 ?_
  | ((with_reducible refine' w_par3a ?_); dsimp only [List.set])
  | with_reducible refine w_dget ?_
  | ((with_reducible refine' w_dgetS ?rls ?rlv ?_); (case rls => walk_at "rl hq"); (case rlv => exact rfl))
  | ((with_reducible refine' w_dgetI ?rls ?rlv ?_); (case rls => walk_at "rl hq"); (case rlv => exact rfl))
  | with_reducible refine w_dget2 ?_
  | ((with_reducible refine' w_isD ?rls ?_); (case rls => walk_at "rl hq"))
  | ((with_reducible refine' w_dget2S ?rls ?_); (case rls => walk_at "rl hq"))
  | ((with_reducible refine' w_dget2I ?rls ?_); (case rls => walk_at "rl hq"))
  | ((with_reducible refine' w_setDS ?rls ?rll ?rlm ?_); (case rls => walk_at "rl hq"); (case rll => exact Nat.lt_of_lt_of_le (Nat.lt_succ_self _) (Nat.le_of_ble_eq_true rfl)); (case rlm => exact rfl))
  | ((with_reducible refine' w_tyD ?rls ?_); (case rls => walk_at "rl hq"))
  | with_reducible refine w_jNil ?_
  | with_reducible refine w_jCons ?_
  | with_reducible refine w_prop ?_
  | with_reducible refine w_makeKS ?_
  | with_reducible refine w_pNil ?_
  | with_reducible refine w_pCons ?_
  | ((with_reducible refine' w_dispN ?_); intro _ _ _ _ _))

theorem w_fmt {σ : L2.St} {H : Hp} {Q : VK} {te : TE} (h : te σ H fun x H1 => (∃ y : Str, x = .str y ∧ y.length ≤ sizeLine ∧ Q (.str y) H1) ∨ ∃ i : Int, x = .int i ∧ i.natAbs.log2 < 1920 ∧ Q (.str (toString i)) H1) : tFmt te σ H Q := h
def nameFit (s : Str) : Bool := decide (s.length ≤ 100) && decide ((Str.empty ++ "bad argument: " ++ s : Str).length ≤ 100)
def spErrS (C : Addr) (f : Str) : Sp := fun vs H Q _ => ∃ (a : Addr) (s : Str), vs = [.ref a, .str s] ∧ nameFit s = true ∧ H a = some (exo a C none) ∧ ∀ dx H', H dx = none → dx ≠ a → H' = upd (upd H dx (exd dx [(f, .str s)])) a (exo a C (some dx)) → Q .non H'
theorem w_mkS {σ : L2.St} {H : Hp} {C : Addr} {f : Str} {ta : TA} {E : XK} (h : ta σ H fun vs H1 => ∃ s, vs = [.str s] ∧ nameFit s = true ∧ ∀ d H', H1 d = none → Same H1 H' → H' d = some (.xd [(f, .str s)]) → E (.ref C) (some d) H') (mono : ∀ {R1 R2 : List V → Hp → Prop}, ta σ H R1 → (∀ vs H1, R1 vs H1 → R2 vs H1) → ta σ H R2) : tMkO C (spErrS C f) [] ta σ H E := by
  refine mono h fun vs H1 ⟨x, e, hn, q⟩ => ?_
  subst e
  refine ⟨Nat.le_of_ble_eq_true rfl, fun a na => ⟨a, x, rfl, hn, upd_same, fun dx H' n1 n2 e => ?_⟩⟩
  subst e
  have nd : H1 dx = none := by rw [upd_ne n2] at n1; exact n1
  refine ⟨rfl, dx, [(f, .str x)], upd_same, by rw [upd_ne n2, upd_same], nd, q dx _ nd (fun b o g => ?_) upd_same⟩
  have b1 : b ≠ dx := ne_of_none g nd
  have b2 : b ≠ a := ne_of_none g na
  rw [upd_ne b1, del_ne b2, upd_ne b2, upd_ne b1, upd_ne b2]
  exact g
theorem numBad_fit : ∀ {bs : List (Str × Int × Int)} {ds : List PyData} {s : Str}, (∀ b ∈ bs, nameFit b.1 = true) → numBad bs ds = some s → nameFit s = true
  | [], _, _, _, h => by simp [numBad] at h
  | _ :: _, [], _, _, h => by simp [numBad] at h
  | b0 :: bs, d0 :: ds, s, hb, h => by
    have h' : (if inI d0 b0.2.1 b0.2.2 = true then numBad bs ds else some b0.1) = some s := h
    by_cases c : inI d0 b0.2.1 b0.2.2 = true
    · rw [if_pos c] at h'
      exact numBad_fit (fun b m => hb b (List.mem_cons_of_mem _ m)) h'
    · rw [if_neg c] at h'
      cases h'
      exact hb _ (List.mem_cons_self ..)
theorem range_fit {lo hi n : Int} {s : Str} (h : badRange lo hi n = some s) : nameFit s = true := by
  unfold badRange at h
  split at h
  · split at h
    · cases h
    · cases h
      decide +kernel
  · cases h
    decide +kernel
theorem us_fit {f z m lo hi : Int} {d : PyData} {s : Str} (h : usBad f z m lo hi d = some s) : nameFit s = true := by
  have hu : nameFit "usages" = true := by decide +kernel
  unfold usBad at h
  split at h
  · split at h
    · unfold lastBad at h
      split at h
      · rename_i e
        cases h
        split at e
        · cases e
        · exact range_fit e
      · split at h
        · cases h
        · cases h
          exact hu
    · cases h
      exact hu
  · cases h
    exact hu
theorem badName_fit {ds : List PyData} {s : Str} (h : badName ds = some s) : nameFit s = true := by
  unfold badName at h
  split at h
  · split at h
    · rename_i e
      cases h
      exact numBad_fit (by decide +kernel) e
    · exact us_fit h
  · cases h
    decide +kernel
def spIni (K : PySem.W.Frag) : Sp := fun vs H Q E => ∃ (B : Addr → Prop) (x dx : Addr) (v : Fa) (ds : List PyData), vs = .ref x :: v.all ∧ H x = some (.ins (He.ga K "Field") dx []) ∧ (∀ b, B b → b ≠ x) ∧ V12 K H B v ds ∧
  (badName ds = none → ∀ H', But x H H' → FldAt K H' x v → Q .non H') ∧ (∀ s, badName ds = some s → ∀ e H', But x H H' → H e = none → H' e = some (.xd [("name", .str s)]) → E (.ref (He.ga K "BadField")) (some e) H')
theorem V12.upd {K : PySem.W.Frag} {H : Hp} {B : Addr → Prop} {v : Fa} {ds : List PyData} {x C dx : Addr} {fs : List (Str × V)} {o : HO} (hB : ∀ b, B b → b ≠ x) (hx : H x = some (.ins C dx fs)) (h : V12 K H B v ds) : V12 K (L2.upd H x o) B v ds := by
  obtain ⟨h1, d, e, h2⟩ := h
  refine ⟨fun i y hi ey => ?_, d, e, ?_⟩
  · obtain ⟨d, ed, hd⟩ := h1 i y hi ey
    exact ⟨d, ed, Dq.keep (fun a o n e => ⟨(upd_ne (hB a n)).trans e, n⟩) _ _ hd⟩
  · rcases h2 with h2 | ⟨p, a, b, c⟩
    · exact .inl (Dq.keep (fun a o n e => ⟨(upd_ne (hB a n)).trans e, n⟩) _ _ h2)
    · exact .inr ⟨p, a, b, SqT.but But.upd hx c⟩
theorem no_new {x e : Addr} {H H1 : Hp} {o : HO} (b : But x H H1) (hx : H1 x = some o) (n : H1 e = none) : H e = none := by
  cases c : H e with
  | none => rfl
  | some u =>
    by_cases d : e = x
    · rw [d, hx] at n
      cases n
    · rw [b _ _ d c] at n
      cases n
theorem sc_BadField___init__ : FnScope ["self", "name"] ["self", "name"] (defScope ((inClass (top 2) 0))) := ⟨rfl, rfl, rfl, by decide +kernel, rfl, by decide +kernel, by decide +kernel⟩
theorem ok_BadField___init__ {P : Program} {w : World} {K : PySem.W.Frag} {mg : Str → Option Value} {base : Heap} (T : TT K mg)    : Lm P w K mg base CX0 1 "BadField" "__init__" ["self", "name"] [] (spErrS (He.ga K "BadField") "name") := by
  obtain ⟨fd, F⟩ := T.d_BadField___init__
  refine ⟨⟨fd, [], F.ok sc_BadField___init__ (fun vs H Q E h => ?_) (fun cdv A outer s H vs Q E hr h => ?_), FunD.bindsN F (fun _ _ _ _ _ _ us hl => match us, hl with | [_, _], _ => rfl), .nil⟩⟩
  · obtain ⟨a, x, rfl, _⟩ := h
    rfl
  · obtain ⟨a, x, rfl, hf, ha, q⟩ := h
    have hl : x.length ≤ sizeLine := by
      have h1 := of_decide_eq_true (Bool.and_eq_true_iff.mp hf).1
      have h2 : (100 : Nat) ≤ sizeLine := by decide
      omega
    have hj : (Str.empty ++ "bad argument: " ++ x : Str).length ≤ sizeLine := by
      have h1 := of_decide_eq_true (Bool.and_eq_true_iff.mp hf).2
      have h2 : (100 : Nat) ≤ sizeLine := by decide
      omega
    refine ⟨_, PSs.nox ((pss_cons (ps_expr (pe_binit errV rfl (by rfl) T.m_ValueError T.fc_ValueError (pa_cons (pv 0) (pa_cons (pe_joined (.cons pe_str (.cons (pe_fmt (pv 1)) .nil))) pa_nil)))) (pss_one (ps_setB errV (pv 0) (pv 1))))), ?_⟩; rw [start_2_2]; try dsimp only [cxOf]
    walk_at "rl wp"
    refine w_bi ?_
    walk_at "rl wp"
    refine ⟨_, rfl, by decide +kernel, ?_⟩
    walk_at "rl wp"
    refine w_fmt ?_
    walk_at "rl wp"
    refine .inl ⟨x, rfl, hl, x, rfl, hj, ?_⟩
    walk_at "rl wp"
    refine w_bi1 T.ob_BadField (Nat.le_of_ble_eq_true rfl) ha ?_
    walk_at "rl wp"
    refine w_setB ?_
    walk_at "rl wp"
    exact ⟨a, _, rfl, T.ob_BadField, T.xn_BadField_name, .inl ⟨ha, fun dx n1 n2 => q dx _ n1 n2 rfl⟩⟩
end T16
end
section
set_option Elab.async false
set_option linter.all false
set_option maxRecDepth 100000
set_option maxHeartbeats 1000000
namespace T16
open PySem PySem.Spec PyProof.Rows L2 L2.RL
local macro_rules | `(tactic| walk_at "rl ty") => `(tactic| first
  | assumption
  | exact .base (.int _)
  | exact .base (.str _)
  | exact .base .non
  | exact .base (.bl _)
  | exact ty_sqT (by walk_at "rl hp")
  | exact ty_sqL (by walk_at "rl hp")
  | exact .base (.tup (by walk_at "rl hp"))
  | exact .base (.lst (by walk_at "rl hp"))
  | exact .base (.dK (by walk_at "rl hp")))
local macro_rules | `(tactic| walk_at "rl if") => `(tactic| first
  | with_reducible refine iteT' rfl ?_
  | with_reducible refine iteF' rfl ?_
  | (refine iteT' rfl ?_)
  | (refine iteF' rfl ?_))
local macro_rules | `(tactic| walk_at "rl side") => `(tactic| first | assumption | omega | (constructor <;> omega) | decide)
local macro_rules | `(tactic| walk_at "rl ne") => `(tactic| first
  | assumption
  | exact Ne.symm (by assumption)
  | walk_at "rl ne2"
  | exact ne_of (by assumption) (by walk_at "rl hq") (by intro z; cases z)
  | exact (ne_of (by assumption) (by walk_at "rl hq") (by intro z; cases z)).symm)
local macro_rules | `(tactic| walk_at "rl hq") => `(tactic| first
  | assumption
  | exact upd_same
  | (refine' upd_at ?rlne ?rlhq; (case rlne => walk_at "rl ne"); (case rlhq => walk_at "rl hq"))
  | (refine' Same.at ?rlsa ?rlhq; (case rlsa => assumption); (case rlhq => walk_at "rl hq"))
  | (refine' But.at ?rlbu ?rlne ?rlhq; (case rlbu => assumption); (case rlne => walk_at "rl ne"); (case rlhq => walk_at "rl hq")))
local macro_rules | `(tactic| walk_at "rl hp") => `(tactic| first
  | assumption
  | (refine' SqL.of ?rlhq; (case rlhq => walk_at "rl hq"))
  | (refine' SqT.of ?rlhq; (case rlhq => walk_at "rl hq"))
  | (refine' Same.seq ?rlsa ?rlhp; (case rlsa => assumption); (case rlhp => walk_at "rl hp"))
  | (refine' Same.sqT ?rlsa ?rlhp; (case rlsa => assumption); (case rlhp => walk_at "rl hp"))
  | walk_at "rl hp2"
  | walk_at "rl hq")
local macro_rules | `(tactic| walk_at "rl w1") => `(tactic| first
  | with_reducible refine w_seq ?_
  | ((with_reducible refine' w_var ?rlv ?_); (case rlv => exact rfl))
  | with_reducible refine w_c ?_
  | with_reducible refine w_op ?_
  | with_reducible refine w_I0 ?_
  | with_reducible refine w_asg ?_
  | ((with_reducible refine' w_gName ?_); dsimp only [List.set])
  | ((with_reducible refine' w_nxD ?rle ?_); (case rle => exact rfl))
  | ((with_reducible refine' w_rtD ?rle ?_); (case rle => exact rfl))
  | with_reducible refine w_next ?_
  | with_reducible refine w_ret ?_
  | with_reducible refine w_cons ?_
  | with_reducible refine w_nil ?_
  | with_reducible refine w_ifS ?_
  | with_reducible refine w_test ?_
  | with_reducible refine w_B ?_
  | with_reducible refine w_bl ?_
  | with_reducible refine w_bl1 ?_
  | with_reducible refine w_blR ?_
  | with_reducible refine w_eqI ?_
  | with_reducible refine w_neI ?_
  | with_reducible refine w_eqS ?_
  | with_reducible refine w_neS ?_
  | with_reducible refine w_eqB ?_
  | with_reducible refine w_neB ?_
  | with_reducible refine w_and ?_
  | with_reducible refine w_or ?_
  | with_reducible refine w_not ?_
  | with_reducible refine w_andV ?_
  | with_reducible refine w_orV ?_
  | with_reducible refine w_notV ?_
  | with_reducible refine w_if ?_
  | with_reducible refine w_chain ?_
  | with_reducible refine w_un ?_
  | with_reducible refine w_U ?_
  | ((with_reducible refine' w_I ?rlc ?_); (case rlc => walk_at "rl side"))
  | with_reducible refine w_drop ?_
  | with_reducible refine w_retN ?_
  | with_reducible refine w_par ?_
  | ((with_reducible refine' w_par2 ?_); dsimp only [List.set])
  | ((with_reducible refine' w_aug ?rla ?_); (case rla => exact rfl))
  | with_reducible refine w_ipI ?_
  | with_reducible refine w_break ?_
  | with_reducible refine w_cont ?_
  | ((with_reducible refine' w_bkD ?rle ?_); (case rle => exact rfl))
  | ((with_reducible refine' w_ctD ?rle ?_); (case rle => exact rfl))
  | with_reducible refine w_tup ?_
  | with_reducible refine w_lst ?_
  | ((with_reducible refine' w_newO ?rln ?_); (case rln => exact Nat.le_of_ble_eq_true rfl); intro _ _ _ _ _)
  | ((with_reducible refine' w_new ?rln ?_); (case rln => exact Nat.le_of_ble_eq_true rfl))
  | ((with_reducible refine' w_mk ?_); intro _ _ _ _ _)
  | ((with_reducible refine' w_gTup ?rls ?rll ?_); (case rls => walk_at "rl hp"); (case rll => exact rfl))
  | with_reducible refine w_gCons ?_
  | with_reducible refine w_gNil ?_
  | with_reducible refine w_gSub ?_
  | ((with_reducible refine' w_setL ?rls ?rlj ?_); (case rls => walk_at "rl hp"); (case rlj => exact rfl))
  | ((with_reducible refine' w_ixL ?rls ?rli ?_); (case rls => walk_at "rl hp"); (case rli => exact rfl))
  | ((with_reducible refine' w_ixT ?rls ?rli ?_); (case rls => walk_at "rl hp"); (case rli => exact rfl))
  | with_reducible refine w_call ?_
  | with_reducible refine w_trI ?_
  | with_reducible refine w_yes ?_
  | with_reducible refine w_trB ?_
  | with_reducible refine w_trN ?_
  | with_reducible refine w_cb ?_
  | with_reducible refine w_fld ?_
  | ((with_reducible refine' w_fld1 ?rlo ?rlc ?rln ?rll ?_); (case rlo => walk_at "rl hp"); (case rlc => assumption); (case rln => assumption); (case rll => exact rfl))
  | with_reducible refine w_isiO ?_
  | with_reducible refine w_isiT ?_
  | ((with_reducible refine' w_isi (r := true) ?rlt ?rlk ?_); (case rlt => walk_at "rl ty"); (case rlk => exact rfl))
  | ((with_reducible refine' w_isi (r := false) ?rlt ?rlk ?_); (case rlt => walk_at "rl ty"); (case rlk => exact rfl))
  | ((with_reducible refine' w_isi2 (r := true) ?rlT ?rlt ?rlk ?_); (case rlT => walk_at "rl hp"); (case rlt => walk_at "rl ty"); (case rlk => exact rfl))
  | ((with_reducible refine' w_isi2 (r := false) ?rlT ?rlt ?rlk ?_); (case rlT => walk_at "rl hp"); (case rlt => walk_at "rl ty"); (case rlk => exact rfl))
  | with_reducible refine w_sFld ?_
  | with_reducible refine w_itemsK ?_
  | ((with_reducible refine' w_catT ?rlha ?rlhb ?rln1 ?rln2 ?rlhl ?_); (case rlha => walk_at "rl hp"); (case rlhb => walk_at "rl hp"); (case rln1 => exact (fun z => nomatch z)); (case rln2 => exact (fun z => nomatch z)); (case rlhl => exact Nat.le_trans (Nat.le_of_ble_eq_true rfl) (show 100000 ≤ sizeLine by decide)))
  | ((with_reducible refine' w_newE ?_); intro _ _ _ _ _)
  | with_reducible refine w_makeK ?_
  | ((with_reducible refine' w_sFld1 ?rlc ?rln ?rll ?rle ?_); (case rlc => assumption); (case rln => assumption); (case rll => exact Nat.lt_of_lt_of_le (Nat.lt_succ_self _) (Nat.le_of_ble_eq_true rfl)); (case rle => exact rfl))
  | ((with_reducible refine' w_sFld0 ?rlx ?rlc ?rln ?rll ?rle ?_); (case rlx => walk_at "rl hq"); (case rlc => assumption); (case rln => assumption); (case rll => exact Nat.lt_of_lt_of_le (Nat.lt_succ_self _) (Nat.le_of_ble_eq_true rfl)); (case rle => exact rfl))
  | with_reducible refine w_rflA ?_
  | with_reducible refine w_for ?_
  | with_reducible refine w_iList ?_
  | with_reducible refine w_iTup ?_
  | ((with_reducible refine' w_overL ?rls ?_); (case rls => walk_at "rl hp"))
  | ((with_reducible refine' w_overT ?rls ?_); (case rls => walk_at "rl hp"))
  | with_reducible refine w_rng1 ?_
  | ((with_reducible refine' w_rng1a ?rl1 ?rl2 ?_); (case rl1 => omega); (case rl2 => omega))
  | with_reducible refine w_rng2 ?_
  | ((with_reducible refine' w_rng2a ?rl1 ?_); (case rl1 => omega))
  | with_reducible refine w_zip2 ?_
  | with_reducible refine w_lc ?_
  | with_reducible refine w_enS ?_
  | with_reducible refine w_callSD ?_
  | with_reducible refine w_xf ?_
  | ((with_reducible refine' w_dnew ?_); intro _ _ _ _ _)
  | ((with_reducible refine' w_disp1 ?_); intro _ _ _ _ _)
  | with_reducible refine w_bm ?_
  | ((with_reducible refine' w_tyL ?rls ?_); (case rls => walk_at "rl hp"))
  | ((with_reducible refine' w_append ?rls ?rll ?_); (case rls => walk_at "rl hq"); (case rll => exact Nat.lt_of_lt_of_le (Nat.lt_succ_self _) (Nat.le_of_ble_eq_true rfl)))
  | ((with_reducible refine' w_cat ?rls ?rlt ?rll ?_); (case rls => walk_at "rl hq"); (case rlt => walk_at "rl hq"); (case rll => exact Nat.le_of_ble_eq_true rfl); intro _ _ _ _ _)
  | with_reducible refine w_int1 ?_
  | ((with_reducible refine w_intb ?_); (try dsimp only))
  | with_reducible refine w_one ?_
  | with_reducible refine w_two ?_
  | ((with_reducible refine' w_lenL ?rls ?_); (case rls => walk_at "rl hp"))
  | ((with_reducible refine' w_lenT ?rls ?_); (case rls => walk_at "rl hp"))
  | with_reducible refine w_meth ?_
  | ((with_reducible refine' w_meth1 ?rlo ?rll ?_); (case rlo => walk_at "rl hp"); (case rll => exact rfl)))
local macro_rules | `(tactic| walk_at "rl wp") => `(tactic| (repeat walk_at "rl w1"))
local macro_rules | `(tactic| walk_at "rl but") => `(tactic| first
  | assumption
  | exact But.refl _ _
  | exact But.upd
  | exact But.of_same (by assumption)
  | (refine But.trans ?_ (But.of_same (by assumption)); walk_at "rl but")
  | (refine But.trans ?_ (by assumption : But _ _ _); walk_at "rl but")
  | (refine But.trans ?_ But.upd; walk_at "rl but"))
local macro_rules | `(tactic| walk_at "rl same") => `(tactic| first
  | assumption
  | exact Same.refl _
  | (refine Same.trans ?_ (by assumption : Same _ _); walk_at "rl same"))

local macro_rules | `(tactic| walk_at "rl wi") => `(tactic| (repeat (first
  | walk_at "rl w1"
  | ((with_reducible refine' iteF' ?rlif ?_); (case rlif => exact rfl))
  | ((with_reducible refine' iteT' ?rlif ?_); (case rlif => exact rfl)))))
local macro_rules | `(tactic| walk_at "rl ty") => `(tactic| exact .base (.dK (by assumption)))
local macro_rules | `(tactic| walk_at "rl ty") => `(tactic| exact .base (.lst (by assumption)))
local macro_rules | `(tactic| walk_at "rl ty") => `(tactic| exact .base (.tup (by assumption)))
local macro_rules | `(tactic| walk_at "rl w1") => `(tactic| first
  | with_reducible refine w_par3 ?_
  | ((with_reducible refine' w_par3a ?_); dsimp only [List.set])
  | with_reducible refine w_dget ?_
  | ((with_reducible refine' w_dgetS ?rls ?rlv ?_); (case rls => walk_at "rl hq"); (case rlv => exact rfl))
  | ((with_reducible refine' w_dgetI ?rls ?rlv ?_); (case rls => walk_at "rl hq"); (case rlv => exact rfl))
  | with_reducible refine w_dget2 ?_
  | ((with_reducible refine' w_isD ?rls ?_); (case rls => walk_at "rl hq"))
  | ((with_reducible refine' w_dget2S ?rls ?_); (case rls => walk_at "rl hq"))
  | ((with_reducible refine' w_dget2I ?rls ?_); (case rls => walk_at "rl hq"))
  | ((with_reducible refine' w_setDS ?rls ?rll ?rlm ?_); (case rls => walk_at "rl hq"); (case rll => exact Nat.lt_of_lt_of_le (Nat.lt_succ_self _) (Nat.le_of_ble_eq_true rfl)); (case rlm => exact rfl))
  | ((with_reducible refine' w_tyD ?rls ?_); (case rls => walk_at "rl hq"))
  | with_reducible refine w_jNil ?_
  | with_reducible refine w_jCons ?_
  | with_reducible refine w_prop ?_
  | with_reducible refine w_makeKS ?_
  | with_reducible refine w_pNil ?_
  | with_reducible refine w_pCons ?_
  | ((with_reducible refine' w_dispN ?_); intro _ _ _ _ _))

structure Li (P : Program) (w : World) (K : PySem.W.Frag) (mg : Str → Option Value) (base : Heap) (CX : CXT) (k : Nat) (sp : Sp) : Prop where
  ex : ∃ fd, FnOk P w K mg base CX k (He.ma K (He.ga K "Field") "__init__") fd initP sp ∧ FunD K "__init__" "Field.__init__" (defArgs (inClass (top 18) 0)) (defBody (inClass (top 18) 0)) (defScope (inClass (top 18) 0)) [] (([("number", .int 0), ("flags", .int 2), ("size", .int 8), ("amount", .int 1), ("low", .int 0), ("high", .int 255), ("plow", .int 0), ("phigh", .int 0), ("exponent", .int 0), ("unit", .int 0), ("usages", .adr (kdfAt ("Field", some "__init__") "usages"))] : List (Str × He.Dv)).map fun q => (q.1, q.2.v K)) (He.ma K (He.ga K "Field") "__init__") fd
theorem passF {P : Program} {w : World} {X : Cx} : Passes (L2.CX P w) X (fun _ _ _ => False) := fun _ _ _ _ _ _ _ h => by
  obtain ⟨a, B, H', cls, d, z1, fl, z2, ub, z3, z4, z5, z6⟩ := h
  exact z6.elim
theorem start_14_13 (x0 x1 x2 x3 x4 x5 x6 x7 x8 x9 x10 x11 x12 x13 : Str) (v0 v1 v2 v3 v4 v5 v6 v7 v8 v9 v10 v11 v12 : V) : L2.start [x0, x1, x2, x3, x4, x5, x6, x7, x8, x9, x10, x11, x12, x13] [v0, v1, v2, v3, v4, v5, v6, v7, v8, v9, v10, v11, v12] = [some v0, some v1, some v2, some v3, some v4, some v5, some v6, some v7, some v8, some v9, some v10, some v11, some v12, none] := rfl
theorem sc_Field___init__ : FnScope ["self", "role", "number", "flags", "size", "amount", "low", "high", "plow", "phigh", "exponent", "unit", "usages", "bad"] ["self", "role", "number", "flags", "size", "amount", "low", "high", "plow", "phigh", "exponent", "unit", "usages"] (defScope ((inClass (top 18) 0))) := ⟨rfl, rfl, rfl, by decide +kernel, rfl, by decide +kernel, by decide +kernel⟩
theorem ok_Field___init__ {P : Program} {w : World} {K : PySem.W.Frag} {mg : Str → Option Value} {base : Heap} (T : TT K mg) (D_Field_bad_name : Lm P w K mg base CX0 3 "Field" "bad_name" ["self"] [] (spBadName K)) (D_BadField___init__ : Lm P w K mg base CX0 1 "BadField" "__init__" ["self", "name"] [] (spErrS (He.ga K "BadField") "name"))   : Li P w K mg base (L2.CX P w) 4 (spIni K) := by
  obtain ⟨⟨fd_Field_bad_name, ds_Field_bad_name, F_Field_bad_name, b_Field_bad_name, v_Field_bad_name⟩⟩ := D_Field_bad_name
  obtain ⟨⟨fd_BadField___init__, ds_BadField___init__, F_BadField___init__, b_BadField___init__, v_BadField___init__⟩⟩ := D_BadField___init__
  obtain ⟨fd, F⟩ := T.d_Field___init__
  refine ⟨⟨fd, F.ok sc_Field___init__ (fun vs H Q E h => ?_) (fun cdv A outer s H vs Q E hr h => ?_), F⟩⟩
  · obtain ⟨B, x, dx, v, ds, rfl, _⟩ := h
    rfl
  · obtain ⟨B, x, dx, v, ds, rfl, hx, hB, hd, q1, q2⟩ := h
    have c_F := T.c_Field
    have n_role := T.n_Field_role
    have n_number := T.n_Field_number
    have n_flags := T.n_Field_flags
    have n_size := T.n_Field_size
    have n_amount := T.n_Field_amount
    have n_low := T.n_Field_low
    have n_high := T.n_Field_high
    have n_plow := T.n_Field_plow
    have n_phigh := T.n_Field_phigh
    have n_exponent := T.n_Field_exponent
    have n_unit := T.n_Field_unit
    have n_usages := T.n_Field_usages
    obtain ⟨x0, x1, x2, x3, x4, x5, x6, x7, x8, x9, x10, x11⟩ := v
    obtain ⟨v, hv⟩ : ∃ v : Fa, v = ⟨x0, x1, x2, x3, x4, x5, x6, x7, x8, x9, x10, x11⟩ := ⟨_, rfl⟩
    refine ⟨_, (pss_cons (ps_fld (pv 0) (pv 1) rfl) (pss_cons (ps_fld (pv 0) (pv 2) rfl) (pss_cons (ps_fld (pv 0) (pv 3) rfl) (pss_cons (ps_fld (pv 0) (pv 4) rfl) (pss_cons (ps_fld (pv 0) (pv 5) rfl) (pss_cons (ps_fld (pv 0) (pv 6) rfl) (pss_cons (ps_fld (pv 0) (pv 7) rfl) (pss_cons (ps_fld (pv 0) (pv 8) rfl) (pss_cons (ps_fld (pv 0) (pv 9) rfl) (pss_cons (ps_fld (pv 0) (pv 10) rfl) (pss_cons (ps_fld (pv 0) (pv 11) rfl) (pss_cons (ps_fld (pv 0) (pv 12) rfl) (pss_cons (ps_set (i := 13) sc_Field___init__.nd rfl (by first | exact Or.inl rfl | exact Or.inr rfl) (pe_meth0 (pv 0) T.c_Field T.h_Field_bad_name F_Field_bad_name hr b_Field_bad_name v_Field_bad_name pass0)) (pss_one (ps_if (pt_cmpR op_notN (pv 13) pe_non (nomark _)) (pss_one (ps_raise rfl (takes_of rfl rfl rfl rfl) (pmk_oexB errV T.ob_BadField T.ie_BadField T.ti_BadField F_BadField___init__ (hr.mono (by decide)) b_BadField___init__ v_BadField___init__ pass0 (by rfl) T.g_BadField (pa_cons (pv 13) pa_nil)))) pss_nil))))))))))))))), ?_⟩; dsimp only [Fa.all]; rw [start_14_13]; try dsimp only [cxOf]
    walk_at "rl wp"
    rw [← hv] at hd q1
    have b : But x H (upd H x (.ins (He.ga K "Field") dx v.at)) := But.upd
    have fa : FldAt K (upd H x (.ins (He.ga K "Field") dx v.at)) x v := ⟨dx, upd_same⟩
    subst hv
    refine ⟨B, x, _, ds, rfl, fa, V12.upd hB hx hd, fun H' sm => ?_⟩
    cases hb : badName ds with
    | none =>
      walk_at "rl wi"
      exact q1 hb _ (b.trans (But.of_same sm)) ⟨dx, sm _ _ upd_same⟩
    | some s =>
      walk_at "rl wi"
      refine w_mkS ?_ (fun ⟨v, e, h⟩ k => ⟨v, e, k _ _ h⟩)
      walk_at "rl wp"
      exact ⟨s, rfl, badName_fit hb, fun d H2 n s2 e => q2 s hb d H2 (b.trans (But.of_same (sm.trans s2))) (no_new (b.trans (But.of_same sm)) (sm _ _ upd_same) n) e⟩
end T16
end
section
set_option Elab.async false
set_option linter.all false
set_option maxRecDepth 100000
set_option maxHeartbeats 1000000
namespace T16
open PySem PySem.Spec PyProof.Rows L2 L2.RL
local macro_rules | `(tactic| walk_at "rl ty") => `(tactic| first
  | assumption
  | exact .base (.int _)
  | exact .base (.str _)
  | exact .base .non
  | exact .base (.bl _)
  | exact ty_sqT (by walk_at "rl hp")
  | exact ty_sqL (by walk_at "rl hp")
  | exact .base (.tup (by walk_at "rl hp"))
  | exact .base (.lst (by walk_at "rl hp"))
  | exact .base (.dK (by walk_at "rl hp")))
local macro_rules | `(tactic| walk_at "rl if") => `(tactic| first
  | with_reducible refine iteT' rfl ?_
  | with_reducible refine iteF' rfl ?_
  | (refine iteT' rfl ?_)
  | (refine iteF' rfl ?_))
local macro_rules | `(tactic| walk_at "rl side") => `(tactic| first | assumption | omega | (constructor <;> omega) | decide)
local macro_rules | `(tactic| walk_at "rl ne") => `(tactic| first
  | assumption
  | exact Ne.symm (by assumption)
  | walk_at "rl ne2"
  | exact ne_of (by assumption) (by walk_at "rl hq") (by intro z; cases z)
  | exact (ne_of (by assumption) (by walk_at "rl hq") (by intro z; cases z)).symm)
local macro_rules | `(tactic| walk_at "rl hq") => `(tactic| first
  | assumption
  | exact upd_same
  | (refine' upd_at ?rlne ?rlhq; (case rlne => walk_at "rl ne"); (case rlhq => walk_at "rl hq"))
  | (refine' Same.at ?rlsa ?rlhq; (case rlsa => assumption); (case rlhq => walk_at "rl hq"))
  | (refine' But.at ?rlbu ?rlne ?rlhq; (case rlbu => assumption); (case rlne => walk_at "rl ne"); (case rlhq => walk_at "rl hq")))
local macro_rules | `(tactic| walk_at "rl hp") => `(tactic| first
  | assumption
  | (refine' SqL.of ?rlhq; (case rlhq => walk_at "rl hq"))
  | (refine' SqT.of ?rlhq; (case rlhq => walk_at "rl hq"))
  | (refine' Same.seq ?rlsa ?rlhp; (case rlsa => assumption); (case rlhp => walk_at "rl hp"))
  | (refine' Same.sqT ?rlsa ?rlhp; (case rlsa => assumption); (case rlhp => walk_at "rl hp"))
  | walk_at "rl hp2"
  | walk_at "rl hq")
local macro_rules | `(tactic| walk_at "rl w1") => `(tactic| first
  | with_reducible refine w_seq ?_
  | ((with_reducible refine' w_var ?rlv ?_); (case rlv => exact rfl))
  | with_reducible refine w_c ?_
  | with_reducible refine w_op ?_
  | with_reducible refine w_I0 ?_
  | with_reducible refine w_asg ?_
  | ((with_reducible refine' w_gName ?_); dsimp only [List.set])
  | ((with_reducible refine' w_nxD ?rle ?_); (case rle => exact rfl))
  | ((with_reducible refine' w_rtD ?rle ?_); (case rle => exact rfl))
  | with_reducible refine w_next ?_
  | with_reducible refine w_ret ?_
  | with_reducible refine w_cons ?_
  | with_reducible refine w_nil ?_
  | with_reducible refine w_ifS ?_
  | with_reducible refine w_test ?_
  | with_reducible refine w_B ?_
  | with_reducible refine w_bl ?_
  | with_reducible refine w_bl1 ?_
  | with_reducible refine w_blR ?_
  | with_reducible refine w_eqI ?_
  | with_reducible refine w_neI ?_
  | with_reducible refine w_eqS ?_
  | with_reducible refine w_neS ?_
  | with_reducible refine w_eqB ?_
  | with_reducible refine w_neB ?_
  | with_reducible refine w_and ?_
  | with_reducible refine w_or ?_
  | with_reducible refine w_not ?_
  | with_reducible refine w_andV ?_
  | with_reducible refine w_orV ?_
  | with_reducible refine w_notV ?_
  | with_reducible refine w_if ?_
  | with_reducible refine w_chain ?_
  | with_reducible refine w_un ?_
  | with_reducible refine w_U ?_
  | ((with_reducible refine' w_I ?rlc ?_); (case rlc => walk_at "rl side"))
  | with_reducible refine w_drop ?_
  | with_reducible refine w_retN ?_
  | with_reducible refine w_par ?_
  | ((with_reducible refine' w_par2 ?_); dsimp only [List.set])
  | ((with_reducible refine' w_aug ?rla ?_); (case rla => exact rfl))
  | with_reducible refine w_ipI ?_
  | with_reducible refine w_break ?_
  | with_reducible refine w_cont ?_
  | ((with_reducible refine' w_bkD ?rle ?_); (case rle => exact rfl))
  | ((with_reducible refine' w_ctD ?rle ?_); (case rle => exact rfl))
  | with_reducible refine w_tup ?_
  | with_reducible refine w_lst ?_
  | ((with_reducible refine' w_newO ?rln ?_); (case rln => exact Nat.le_of_ble_eq_true rfl); intro _ _ _ _ _)
  | ((with_reducible refine' w_new ?rln ?_); (case rln => exact Nat.le_of_ble_eq_true rfl))
  | ((with_reducible refine' w_mk ?_); intro _ _ _ _ _)
  | ((with_reducible refine' w_gTup ?rls ?rll ?_); (case rls => walk_at "rl hp"); (case rll => exact rfl))
  | with_reducible refine w_gCons ?_
  | with_reducible refine w_gNil ?_
  | with_reducible refine w_gSub ?_
  | ((with_reducible refine' w_setL ?rls ?rlj ?_); (case rls => walk_at "rl hp"); (case rlj => exact rfl))
  | ((with_reducible refine' w_ixL ?rls ?rli ?_); (case rls => walk_at "rl hp"); (case rli => exact rfl))
  | ((with_reducible refine' w_ixT ?rls ?rli ?_); (case rls => walk_at "rl hp"); (case rli => exact rfl))
  | with_reducible refine w_call ?_
  | with_reducible refine w_trI ?_
  | with_reducible refine w_yes ?_
  | with_reducible refine w_trB ?_
  | with_reducible refine w_trN ?_
  | with_reducible refine w_cb ?_
  | with_reducible refine w_fld ?_
  | ((with_reducible refine' w_fld1 ?rlo ?rlc ?rln ?rll ?_); (case rlo => walk_at "rl hp"); (case rlc => assumption); (case rln => assumption); (case rll => exact rfl))
  | with_reducible refine w_isiO ?_
  | with_reducible refine w_isiT ?_
  | ((with_reducible refine' w_isi (r := true) ?rlt ?rlk ?_); (case rlt => walk_at "rl ty"); (case rlk => exact rfl))
  | ((with_reducible refine' w_isi (r := false) ?rlt ?rlk ?_); (case rlt => walk_at "rl ty"); (case rlk => exact rfl))
  | ((with_reducible refine' w_isi2 (r := true) ?rlT ?rlt ?rlk ?_); (case rlT => walk_at "rl hp"); (case rlt => walk_at "rl ty"); (case rlk => exact rfl))
  | ((with_reducible refine' w_isi2 (r := false) ?rlT ?rlt ?rlk ?_); (case rlT => walk_at "rl hp"); (case rlt => walk_at "rl ty"); (case rlk => exact rfl))
  | with_reducible refine w_sFld ?_
  | with_reducible refine w_itemsK ?_
  | ((with_reducible refine' w_catT ?rlha ?rlhb ?rln1 ?rln2 ?rlhl ?_); (case rlha => walk_at "rl hp"); (case rlhb => walk_at "rl hp"); (case rln1 => exact (fun z => nomatch z)); (case rln2 => exact (fun z => nomatch z)); (case rlhl => exact Nat.le_trans (Nat.le_of_ble_eq_true rfl) (show 100000 ≤ sizeLine by decide)))
  | ((with_reducible refine' w_newE ?_); intro _ _ _ _ _)
  | with_reducible refine w_makeK ?_
  | ((with_reducible refine' w_sFld1 ?rlc ?rln ?rll ?rle ?_); (case rlc => assumption); (case rln => assumption); (case rll => exact Nat.lt_of_lt_of_le (Nat.lt_succ_self _) (Nat.le_of_ble_eq_true rfl)); (case rle => exact rfl))
  | ((with_reducible refine' w_sFld0 ?rlx ?rlc ?rln ?rll ?rle ?_); (case rlx => walk_at "rl hq"); (case rlc => assumption); (case rln => assumption); (case rll => exact Nat.lt_of_lt_of_le (Nat.lt_succ_self _) (Nat.le_of_ble_eq_true rfl)); (case rle => exact rfl))
  | with_reducible refine w_rflA ?_
  | with_reducible refine w_for ?_
  | with_reducible refine w_iList ?_
  | with_reducible refine w_iTup ?_
  | ((with_reducible refine' w_overL ?rls ?_); (case rls => walk_at "rl hp"))
  | ((with_reducible refine' w_overT ?rls ?_); (case rls => walk_at "rl hp"))
  | with_reducible refine w_rng1 ?_
  | ((with_reducible refine' w_rng1a ?rl1 ?rl2 ?_); (case rl1 => omega); (case rl2 => omega))
  | with_reducible refine w_rng2 ?_
  | ((with_reducible refine' w_rng2a ?rl1 ?_); (case rl1 => omega))
  | with_reducible refine w_zip2 ?_
  | with_reducible refine w_lc ?_
  | with_reducible refine w_enS ?_
  | with_reducible refine w_callSD ?_
  | with_reducible refine w_xf ?_
  | ((with_reducible refine' w_dnew ?_); intro _ _ _ _ _)
  | ((with_reducible refine' w_disp1 ?_); intro _ _ _ _ _)
  | with_reducible refine w_bm ?_
  | ((with_reducible refine' w_tyL ?rls ?_); (case rls => walk_at "rl hp"))
  | ((with_reducible refine' w_append ?rls ?rll ?_); (case rls => walk_at "rl hq"); (case rll => exact Nat.lt_of_lt_of_le (Nat.lt_succ_self _) (Nat.le_of_ble_eq_true rfl)))
  | ((with_reducible refine' w_cat ?rls ?rlt ?rll ?_); (case rls => walk_at "rl hq"); (case rlt => walk_at "rl hq"); (case rll => exact Nat.le_of_ble_eq_true rfl); intro _ _ _ _ _)
  | with_reducible refine w_int1 ?_
  | ((with_reducible refine w_intb ?_); (try dsimp only))
  | with_reducible refine w_one ?_
  | with_reducible refine w_two ?_
  | ((with_reducible refine' w_lenL ?rls ?_); (case rls => walk_at "rl hp"))
  | ((with_reducible refine' w_lenT ?rls ?_); (case rls => walk_at "rl hp"))
  | with_reducible refine w_meth ?_
  | ((with_reducible refine' w_meth1 ?rlo ?rll ?_); (case rlo => walk_at "rl hp"); (case rll => exact rfl)))
local macro_rules | `(tactic| walk_at "rl wp") => `(tactic| (repeat walk_at "rl w1"))
local macro_rules | `(tactic| walk_at "rl but") => `(tactic| first
  | assumption
  | exact But.refl _ _
  | exact But.upd
  | exact But.of_same (by assumption)
  | (refine But.trans ?_ (But.of_same (by assumption)); walk_at "rl but")
  | (refine But.trans ?_ (by assumption : But _ _ _); walk_at "rl but")
  | (refine But.trans ?_ But.upd; walk_at "rl but"))
local macro_rules | `(tactic| walk_at "rl same") => `(tactic| first
  | assumption
  | exact Same.refl _
  | (refine Same.trans ?_ (by assumption : Same _ _); walk_at "rl same"))

local macro_rules | `(tactic| walk_at "rl wi") => `(tactic| (repeat (first
  | walk_at "rl w1"
  | ((with_reducible refine' iteF' ?rlif ?_); (case rlif => exact rfl))
  | ((with_reducible refine' iteT' ?rlif ?_); (case rlif => exact rfl)))))
local macro_rules | `(tactic| walk_at "rl ty") => `(tactic| exact .base (.dK (by assumption)))
local macro_rules | `(tactic| walk_at "rl ty") => `(tactic| exact .base (.lst (by assumption)))
local macro_rules | `(tactic| walk_at "rl ty") => `(tactic| exact .base (.tup (by assumption)))
local macro_rules | `(tactic| walk_at "rl w1") => `(tactic| first
  | with_reducible refine w_par3 ?_
  | ((with_reducible refine' w_par3a ?_); dsimp only [List.set])
  | with_reducible refine w_dget ?_
  | ((with_reducible refine' w_dgetS ?rls ?rlv ?_); (case rls => walk_at "rl hq"); (case rlv => exact rfl))
  | ((with_reducible refine' w_dgetI ?rls ?rlv ?_); (case rls => walk_at "rl hq"); (case rlv => exact rfl))
  | with_reducible refine w_dget2 ?_
  | ((with_reducible refine' w_isD ?rls ?_); (case rls => walk_at "rl hq"))
  | ((with_reducible refine' w_dget2S ?rls ?_); (case rls => walk_at "rl hq"))
  | ((with_reducible refine' w_dget2I ?rls ?_); (case rls => walk_at "rl hq"))
  | ((with_reducible refine' w_setDS ?rls ?rll ?rlm ?_); (case rls => walk_at "rl hq"); (case rll => exact Nat.lt_of_lt_of_le (Nat.lt_succ_self _) (Nat.le_of_ble_eq_true rfl)); (case rlm => exact rfl))
  | ((with_reducible refine' w_tyD ?rls ?_); (case rls => walk_at "rl hq"))
  | with_reducible refine w_jNil ?_
  | with_reducible refine w_jCons ?_
  | with_reducible refine w_prop ?_
  | with_reducible refine w_makeKS ?_
  | with_reducible refine w_pNil ?_
  | with_reducible refine w_pCons ?_
  | ((with_reducible refine' w_dispN ?_); intro _ _ _ _ _))

def styleOf (f : Int) : Str := if Builtin.bitAnd f 1 ≠ 0 then "constant" else if Builtin.bitAnd f 2 ≠ 0 then "variable" else "array"
def spStyle (K : PySem.W.Frag) : Sp := fun vs H Q _ => ∃ (a : Addr) (v : Fa) (f : Int), vs = [.ref a] ∧ FldAt K H a v ∧ v.f = .int f ∧ Q (.str (styleOf f)) H
def spRelative (K : PySem.W.Frag) : Sp := fun vs H Q _ => ∃ (a : Addr) (v : Fa) (f : Int), vs = [.ref a] ∧ FldAt K H a v ∧ v.f = .int f ∧ Q (.bl (decide (0 < Builtin.bitAnd f 4))) H
def spSigned (K : PySem.W.Frag) : Sp := fun vs H Q _ => ∃ (a : Addr) (v : Fa) (f l : Int), vs = [.ref a] ∧ FldAt K H a v ∧ v.f = .int f ∧ v.l = .int l ∧ Q (.bl (decide (styleOf f ≠ "constant" ∧ l < 0))) H
theorem sc_Field_style : FnScope ["self"] ["self"] (defScope ((inClass (top 18) 4))) := ⟨rfl, rfl, rfl, by decide +kernel, rfl, by decide +kernel, by decide +kernel⟩
theorem ok_Field_style {P : Program} {w : World} {K : PySem.W.Frag} {mg : Str → Option Value} {base : Heap} (T : TT K mg)    : Lq P w K mg base CX0 1 "Field" "style" ["self"] [] (spStyle K) := by
  obtain ⟨fd, F⟩ := T.d_Field_style
  refine ⟨⟨fd, [], F.ok sc_Field_style (fun vs H Q E h => ?_) (fun cdv A outer s H vs Q E hr h => ?_), FunD.bindsN F (fun _ _ _ _ _ _ us hl => match us, hl with | [_], _ => rfl), .nil⟩⟩
  · obtain ⟨a, v, f, rfl, _⟩ := h
    rfl
  · obtain ⟨a, v, f, rfl, ⟨dx, ha⟩, hf, q⟩ := h
    obtain ⟨x0, x1, x2, x3, x4, x5, x6, x7, x8, x9, x10, x11⟩ := v
    obtain rfl : x2 = .int f := hf
    have c_F := T.c_Field
    have n_role := T.n_Field_role
    have n_number := T.n_Field_number
    have n_flags := T.n_Field_flags
    have n_size := T.n_Field_size
    have n_amount := T.n_Field_amount
    have n_low := T.n_Field_low
    have n_high := T.n_Field_high
    have n_plow := T.n_Field_plow
    have n_phigh := T.n_Field_phigh
    have n_exponent := T.n_Field_exponent
    have n_unit := T.n_Field_unit
    have n_usages := T.n_Field_usages
    refine ⟨_, PSs.nox ((pss_cons (ps_if (pt_truth (pe_op op_and (pe_fld (pv 0) rfl) (pe_glob rfl (T.i_CONSTANT).choose_spec (show RelV (.int (1)) _ from ⟨_, rfl⟩))) (by intro _; rfl)) (pss_one (ps_ret pe_str)) pss_nil) (pss_one (ps_ret (pe_ifExp (pt_truth (pe_op op_and (pe_fld (pv 0) rfl) (pe_glob rfl (T.i_VARIABLE).choose_spec (show RelV (.int (2)) _ from ⟨_, rfl⟩))) (by intro _; rfl)) pe_str pe_str))))), ?_⟩; rw [start_1_1]; try dsimp only [cxOf]
    walk_at "rl wp"
    unfold styleOf at q
    by_cases c1 : Builtin.bitAnd f 1 = 0
    · rw [if_neg (fun z => z c1)] at q
      refine iteF' (by rw [c1]; rfl) ?_
      walk_at "rl wp"
      by_cases c2 : Builtin.bitAnd f 2 = 0
      · rw [if_neg (fun z => z c2)] at q
        refine iteF' (by rw [c2]; rfl) ?_
        walk_at "rl wp"
        exact q
      · rw [if_pos c2] at q
        refine iteT' (by simpa using c2) ?_
        walk_at "rl wp"
        exact q
    · rw [if_pos c1] at q
      refine iteT' (by simpa using c1) ?_
      walk_at "rl wp"
      exact q

theorem sc_Field_is_relative : FnScope ["self"] ["self"] (defScope ((inClass (top 18) 5))) := ⟨rfl, rfl, rfl, by decide +kernel, rfl, by decide +kernel, by decide +kernel⟩
theorem ok_Field_is_relative {P : Program} {w : World} {K : PySem.W.Frag} {mg : Str → Option Value} {base : Heap} (T : TT K mg)    : Lq P w K mg base CX0 1 "Field" "is_relative" ["self"] [] (spRelative K) := by
  obtain ⟨fd, F⟩ := T.d_Field_is_relative
  refine ⟨⟨fd, [], F.ok sc_Field_is_relative (fun vs H Q E h => ?_) (fun cdv A outer s H vs Q E hr h => ?_), FunD.bindsN F (fun _ _ _ _ _ _ us hl => match us, hl with | [_], _ => rfl), .nil⟩⟩
  · obtain ⟨a, v, f, rfl, _⟩ := h
    rfl
  · obtain ⟨a, v, f, rfl, ⟨dx, ha⟩, hf, q⟩ := h
    obtain ⟨x0, x1, x2, x3, x4, x5, x6, x7, x8, x9, x10, x11⟩ := v
    obtain rfl : x2 = .int f := hf
    have c_F := T.c_Field
    have n_role := T.n_Field_role
    have n_number := T.n_Field_number
    have n_flags := T.n_Field_flags
    have n_size := T.n_Field_size
    have n_amount := T.n_Field_amount
    have n_low := T.n_Field_low
    have n_high := T.n_Field_high
    have n_plow := T.n_Field_plow
    have n_phigh := T.n_Field_phigh
    have n_exponent := T.n_Field_exponent
    have n_unit := T.n_Field_unit
    have n_usages := T.n_Field_usages
    refine ⟨_, PSs.nox ((pss_one (ps_ret (pe_cmpR op_gt (pe_op op_and (pe_fld (pv 0) rfl) (pe_glob rfl (T.i_RELATIVE).choose_spec (show RelV (.int (4)) _ from ⟨_, rfl⟩))) pe_int (nomark _))))), ?_⟩; rw [start_1_1]; try dsimp only [cxOf]
    walk_at "rl wp"
    exact q

theorem sc_Field_is_signed : FnScope ["self"] ["self"] (defScope ((inClass (top 18) 6))) := ⟨rfl, rfl, rfl, by decide +kernel, rfl, by decide +kernel, by decide +kernel⟩
theorem ok_Field_is_signed {P : Program} {w : World} {K : PySem.W.Frag} {mg : Str → Option Value} {base : Heap} (T : TT K mg) (D_Field_style : Lq P w K mg base CX0 1 "Field" "style" ["self"] [] (spStyle K))   : Lq P w K mg base CX0 3 "Field" "is_signed" ["self"] [] (spSigned K) := by
  obtain ⟨⟨fd_Field_style, ds_Field_style, F_Field_style, b_Field_style, v_Field_style⟩⟩ := D_Field_style
  obtain ⟨fd, F⟩ := T.d_Field_is_signed
  refine ⟨⟨fd, [], F.ok sc_Field_is_signed (fun vs H Q E h => ?_) (fun cdv A outer s H vs Q E hr h => ?_), FunD.bindsN F (fun _ _ _ _ _ _ us hl => match us, hl with | [_], _ => rfl), .nil⟩⟩
  · obtain ⟨a, v, f, l, rfl, _⟩ := h
    rfl
  · obtain ⟨a, v, f, l, rfl, ⟨dx, ha⟩, hf, hl, q⟩ := h
    obtain ⟨x0, x1, x2, x3, x4, x5, x6, x7, x8, x9, x10, x11⟩ := v
    obtain rfl : x2 = .int f := hf
    obtain rfl : x5 = .int l := hl
    have c_F := T.c_Field
    have n_role := T.n_Field_role
    have n_number := T.n_Field_number
    have n_flags := T.n_Field_flags
    have n_size := T.n_Field_size
    have n_amount := T.n_Field_amount
    have n_low := T.n_Field_low
    have n_high := T.n_Field_high
    have n_plow := T.n_Field_plow
    have n_phigh := T.n_Field_phigh
    have n_exponent := T.n_Field_exponent
    have n_unit := T.n_Field_unit
    have n_usages := T.n_Field_usages
    refine ⟨_, PSs.nox ((pss_one (ps_ret (pe_and (pe_cmpR op_ne (pe_prop (pv 0) T.c_Field T.pp_Field_style F_Field_style hr b_Field_style v_Field_style pass0 (by rfl)) pe_str (nomark _)) (pe_one (pe_cmpR op_lt (pe_fld (pv 0) rfl) pe_int (nomark _))))))), ?_⟩; rw [start_1_1]; try dsimp only [cxOf]
    walk_at "rl wp"
    refine ⟨a, dx, _, rfl, ha, a, _, f, rfl, ⟨dx, ha⟩, rfl, ?_⟩
    walk_at "rl wp"
    refine ite_ndec (fun c => ?_) (fun c => ?_)
    · rw [show decide (styleOf f ≠ "constant" ∧ l < 0) = decide (l < 0) from decide_eq_decide.mpr ⟨fun z => z.2, fun z => ⟨c, z⟩⟩] at q
      walk_at "rl wp"
      exact q
    · rw [show decide (styleOf f ≠ "constant" ∧ l < 0) = false from decide_eq_false (fun z => z.1 c)] at q
      walk_at "rl wp"
      exact q
end T16
end
section
set_option Elab.async false
set_option linter.all false
set_option maxRecDepth 100000
set_option maxHeartbeats 1000000
namespace T16
open PySem PySem.Spec PyProof.Rows L2 L2.RL
local macro_rules | `(tactic| walk_at "rl ty") => `(tactic| first
  | assumption
  | exact .base (.int _)
  | exact .base (.str _)
  | exact .base .non
  | exact .base (.bl _)
  | exact ty_sqT (by walk_at "rl hp")
  | exact ty_sqL (by walk_at "rl hp")
  | exact .base (.tup (by walk_at "rl hp"))
  | exact .base (.lst (by walk_at "rl hp"))
  | exact .base (.dK (by walk_at "rl hp")))
local macro_rules | `(tactic| walk_at "rl if") => `(tactic| first
  | with_reducible refine iteT' rfl ?_
  | with_reducible refine iteF' rfl ?_
  | (refine iteT' rfl ?_)
  | (refine iteF' rfl ?_))
local macro_rules | `(tactic| walk_at "rl side") => `(tactic| first | assumption | omega | (constructor <;> omega) | decide)
local macro_rules | `(tactic| walk_at "rl ne") => `(tactic| first
  | assumption
  | exact Ne.symm (by assumption)
  | walk_at "rl ne2"
  | exact ne_of (by assumption) (by walk_at "rl hq") (by intro z; cases z)
  | exact (ne_of (by assumption) (by walk_at "rl hq") (by intro z; cases z)).symm)
local macro_rules | `(tactic| walk_at "rl hq") => `(tactic| first
  | assumption
  | exact upd_same
  | (refine' upd_at ?rlne ?rlhq; (case rlne => walk_at "rl ne"); (case rlhq => walk_at "rl hq"))
  | (refine' Same.at ?rlsa ?rlhq; (case rlsa => assumption); (case rlhq => walk_at "rl hq"))
  | (refine' But.at ?rlbu ?rlne ?rlhq; (case rlbu => assumption); (case rlne => walk_at "rl ne"); (case rlhq => walk_at "rl hq")))
local macro_rules | `(tactic| walk_at "rl hp") => `(tactic| first
  | assumption
  | (refine' SqL.of ?rlhq; (case rlhq => walk_at "rl hq"))
  | (refine' SqT.of ?rlhq; (case rlhq => walk_at "rl hq"))
  | (refine' Same.seq ?rlsa ?rlhp; (case rlsa => assumption); (case rlhp => walk_at "rl hp"))
  | (refine' Same.sqT ?rlsa ?rlhp; (case rlsa => assumption); (case rlhp => walk_at "rl hp"))
  | walk_at "rl hp2"
  | walk_at "rl hq")
local macro_rules | `(tactic| walk_at "rl w1") => `(tactic| first
  | with_reducible refine w_seq ?_
  | ((with_reducible refine' w_var ?rlv ?_); (case rlv => exact rfl))
  | with_reducible refine w_c ?_
  | with_reducible refine w_op ?_
  | with_reducible refine w_I0 ?_
  | with_reducible refine w_asg ?_
  | ((with_reducible refine' w_gName ?_); dsimp only [List.set])
  | ((with_reducible refine' w_nxD ?rle ?_); (case rle => exact rfl))
  | ((with_reducible refine' w_rtD ?rle ?_); (case rle => exact rfl))
  | with_reducible refine w_next ?_
  | with_reducible refine w_ret ?_
  | with_reducible refine w_cons ?_
  | with_reducible refine w_nil ?_
  | with_reducible refine w_ifS ?_
  | with_reducible refine w_test ?_
  | with_reducible refine w_B ?_
  | with_reducible refine w_bl ?_
  | with_reducible refine w_bl1 ?_
  | with_reducible refine w_blR ?_
  | with_reducible refine w_eqI ?_
  | with_reducible refine w_neI ?_
  | with_reducible refine w_eqS ?_
  | with_reducible refine w_neS ?_
  | with_reducible refine w_eqB ?_
  | with_reducible refine w_neB ?_
  | with_reducible refine w_and ?_
  | with_reducible refine w_or ?_
  | with_reducible refine w_not ?_
  | with_reducible refine w_andV ?_
  | with_reducible refine w_orV ?_
  | with_reducible refine w_notV ?_
  | with_reducible refine w_if ?_
  | with_reducible refine w_chain ?_
  | with_reducible refine w_un ?_
  | with_reducible refine w_U ?_
  | ((with_reducible refine' w_I ?rlc ?_); (case rlc => walk_at "rl side"))
  | with_reducible refine w_drop ?_
  | with_reducible refine w_retN ?_
  | with_reducible refine w_par ?_
  | ((with_reducible refine' w_par2 ?_); dsimp only [List.set])
  | ((with_reducible refine' w_aug ?rla ?_); (case rla => exact rfl))
  | with_reducible refine w_ipI ?_
  | with_reducible refine w_break ?_
  | with_reducible refine w_cont ?_
  | ((with_reducible refine' w_bkD ?rle ?_); (case rle => exact rfl))
  | ((with_reducible refine' w_ctD ?rle ?_); (case rle => exact rfl))
  | with_reducible refine w_tup ?_
  | with_reducible refine w_lst ?_
  | ((with_reducible refine' w_newO ?rln ?_); (case rln => exact Nat.le_of_ble_eq_true rfl); intro _ _ _ _ _)
  | ((with_reducible refine' w_new ?rln ?_); (case rln => exact Nat.le_of_ble_eq_true rfl))
  | ((with_reducible refine' w_mk ?_); intro _ _ _ _ _)
  | ((with_reducible refine' w_gTup ?rls ?rll ?_); (case rls => walk_at "rl hp"); (case rll => exact rfl))
  | with_reducible refine w_gCons ?_
  | with_reducible refine w_gNil ?_
  | with_reducible refine w_gSub ?_
  | ((with_reducible refine' w_setL ?rls ?rlj ?_); (case rls => walk_at "rl hp"); (case rlj => exact rfl))
  | ((with_reducible refine' w_ixL ?rls ?rli ?_); (case rls => walk_at "rl hp"); (case rli => exact rfl))
  | ((with_reducible refine' w_ixT ?rls ?rli ?_); (case rls => walk_at "rl hp"); (case rli => exact rfl))
  | with_reducible refine w_call ?_
  | with_reducible refine w_trI ?_
  | with_reducible refine w_yes ?_
  | with_reducible refine w_trB ?_
  | with_reducible refine w_trN ?_
  | with_reducible refine w_cb ?_
  | with_reducible refine w_fld ?_
  | ((with_reducible refine' w_fld1 ?rlo ?rlc ?rln ?rll ?_); (case rlo => walk_at "rl hp"); (case rlc => assumption); (case rln => assumption); (case rll => exact rfl))
  | with_reducible refine w_isiO ?_
  | with_reducible refine w_isiT ?_
  | ((with_reducible refine' w_isi (r := true) ?rlt ?rlk ?_); (case rlt => walk_at "rl ty"); (case rlk => exact rfl))
  | ((with_reducible refine' w_isi (r := false) ?rlt ?rlk ?_); (case rlt => walk_at "rl ty"); (case rlk => exact rfl))
  | ((with_reducible refine' w_isi2 (r := true) ?rlT ?rlt ?rlk ?_); (case rlT => walk_at "rl hp"); (case rlt => walk_at "rl ty"); (case rlk => exact rfl))
  | ((with_reducible refine' w_isi2 (r := false) ?rlT ?rlt ?rlk ?_); (case rlT => walk_at "rl hp"); (case rlt => walk_at "rl ty"); (case rlk => exact rfl))
  | with_reducible refine w_sFld ?_
  | with_reducible refine w_itemsK ?_
  | ((with_reducible refine' w_catT ?rlha ?rlhb ?rln1 ?rln2 ?rlhl ?_); (case rlha => walk_at "rl hp"); (case rlhb => walk_at "rl hp"); (case rln1 => exact (fun z => nomatch z)); (case rln2 => exact (fun z => nomatch z)); (case rlhl => exact Nat.le_trans (Nat.le_of_ble_eq_true rfl) (show 100000 ≤ sizeLine by decide)))
  | ((with_reducible refine' w_newE ?_); intro _ _ _ _ _)
  | with_reducible refine w_makeK ?_
  | ((with_reducible refine' w_sFld1 ?rlc ?rln ?rll ?rle ?_); (case rlc => assumption); (case rln => assumption); (case rll => exact Nat.lt_of_lt_of_le (Nat.lt_succ_self _) (Nat.le_of_ble_eq_true rfl)); (case rle => exact rfl))
  | ((with_reducible refine' w_sFld0 ?rlx ?rlc ?rln ?rll ?rle ?_); (case rlx => walk_at "rl hq"); (case rlc => assumption); (case rln => assumption); (case rll => exact Nat.lt_of_lt_of_le (Nat.lt_succ_self _) (Nat.le_of_ble_eq_true rfl)); (case rle => exact rfl))
  | with_reducible refine w_rflA ?_
  | with_reducible refine w_for ?_
  | with_reducible refine w_iList ?_
  | with_reducible refine w_iTup ?_
  | ((with_reducible refine' w_overL ?rls ?_); (case rls => walk_at "rl hp"))
  | ((with_reducible refine' w_overT ?rls ?_); (case rls => walk_at "rl hp"))
  | with_reducible refine w_rng1 ?_
  | ((with_reducible refine' w_rng1a ?rl1 ?rl2 ?_); (case rl1 => omega); (case rl2 => omega))
  | with_reducible refine w_rng2 ?_
  | ((with_reducible refine' w_rng2a ?rl1 ?_); (case rl1 => omega))
  | with_reducible refine w_zip2 ?_
  | with_reducible refine w_lc ?_
  | with_reducible refine w_enS ?_
  | with_reducible refine w_callSD ?_
  | with_reducible refine w_xf ?_
  | ((with_reducible refine' w_dnew ?_); intro _ _ _ _ _)
  | ((with_reducible refine' w_disp1 ?_); intro _ _ _ _ _)
  | with_reducible refine w_bm ?_
  | ((with_reducible refine' w_tyL ?rls ?_); (case rls => walk_at "rl hp"))
  | ((with_reducible refine' w_append ?rls ?rll ?_); (case rls => walk_at "rl hq"); (case rll => exact Nat.lt_of_lt_of_le (Nat.lt_succ_self _) (Nat.le_of_ble_eq_true rfl)))
  | ((with_reducible refine' w_cat ?rls ?rlt ?rll ?_); (case rls => walk_at "rl hq"); (case rlt => walk_at "rl hq"); (case rll => exact Nat.le_of_ble_eq_true rfl); intro _ _ _ _ _)
  | with_reducible refine w_int1 ?_
  | ((with_reducible refine w_intb ?_); (try dsimp only))
  | with_reducible refine w_one ?_
  | with_reducible refine w_two ?_
  | ((with_reducible refine' w_lenL ?rls ?_); (case rls => walk_at "rl hp"))
  | ((with_reducible refine' w_lenT ?rls ?_); (case rls => walk_at "rl hp"))
  | with_reducible refine w_meth ?_
  | ((with_reducible refine' w_meth1 ?rlo ?rll ?_); (case rlo => walk_at "rl hp"); (case rll => exact rfl)))
local macro_rules | `(tactic| walk_at "rl wp") => `(tactic| (repeat walk_at "rl w1"))
local macro_rules | `(tactic| walk_at "rl but") => `(tactic| first
  | assumption
  | exact But.refl _ _
  | exact But.upd
  | exact But.of_same (by assumption)
  | (refine But.trans ?_ (But.of_same (by assumption)); walk_at "rl but")
  | (refine But.trans ?_ (by assumption : But _ _ _); walk_at "rl but")
  | (refine But.trans ?_ But.upd; walk_at "rl but"))
local macro_rules | `(tactic| walk_at "rl same") => `(tactic| first
  | assumption
  | exact Same.refl _
  | (refine Same.trans ?_ (by assumption : Same _ _); walk_at "rl same"))

local macro_rules | `(tactic| walk_at "rl wi") => `(tactic| (repeat (first
  | walk_at "rl w1"
  | ((with_reducible refine' iteF' ?rlif ?_); (case rlif => exact rfl))
  | ((with_reducible refine' iteT' ?rlif ?_); (case rlif => exact rfl)))))
local macro_rules | `(tactic| walk_at "rl ty") => `(tactic| exact .base (.dK (by assumption)))
local macro_rules | `(tactic| walk_at "rl ty") => `(tactic| exact .base (.lst (by assumption)))
local macro_rules | `(tactic| walk_at "rl ty") => `(tactic| exact .base (.tup (by assumption)))
local macro_rules | `(tactic| walk_at "rl w1") => `(tactic| first
  | with_reducible refine w_par3 ?_
  | ((with_reducible refine' w_par3a ?_); dsimp only [List.set])
  | with_reducible refine w_dget ?_
  | ((with_reducible refine' w_dgetS ?rls ?rlv ?_); (case rls => walk_at "rl hq"); (case rlv => exact rfl))
  | ((with_reducible refine' w_dgetI ?rls ?rlv ?_); (case rls => walk_at "rl hq"); (case rlv => exact rfl))
  | with_reducible refine w_dget2 ?_
  | ((with_reducible refine' w_isD ?rls ?_); (case rls => walk_at "rl hq"))
  | ((with_reducible refine' w_dget2S ?rls ?_); (case rls => walk_at "rl hq"))
  | ((with_reducible refine' w_dget2I ?rls ?_); (case rls => walk_at "rl hq"))
  | ((with_reducible refine' w_setDS ?rls ?rll ?rlm ?_); (case rls => walk_at "rl hq"); (case rll => exact Nat.lt_of_lt_of_le (Nat.lt_succ_self _) (Nat.le_of_ble_eq_true rfl)); (case rlm => exact rfl))
  | ((with_reducible refine' w_tyD ?rls ?_); (case rls => walk_at "rl hq"))
  | with_reducible refine w_jNil ?_
  | with_reducible refine w_jCons ?_
  | with_reducible refine w_prop ?_
  | with_reducible refine w_makeKS ?_
  | with_reducible refine w_pNil ?_
  | with_reducible refine w_pCons ?_
  | ((with_reducible refine' w_dispN ?_); intro _ _ _ _ _))

theorem w_cut {t u : TS} {D : Ends} {σ : L2.St} {H : Hp} (I : L2.St → Hp → Prop) (h1 : ∀ N : L2.St → Hp → Prop, (∀ σ' H', I σ' H' → N σ' H') → t { D with nx := N } σ H) (h2 : ∀ σ' H', I σ' H' → u D σ' H') : tSeq t u D σ H := h1 _ h2
theorem w_inTG {K : PySem.W.Frag} {H : Hp} {Q : VK} {x : V} {p : Addr} {xs : List V} (hs : SqT K H p xs) (fx : flatV x = true) (fs : xs.all flatV = true) (h : ∀ b : Bool, Q (.bl b) H) : rIn K false x (.ref p) H Q := w_inT hs fx fs (h _)
theorem rep7 (k : Nat) : (List.replicate k [V.int 7]).flatten = (List.replicate k (7 : Int)).map V.int := by
  induction k with
  | zero => rfl
  | succ k ih => rw [List.replicate_succ, List.flatten_cons, ih, List.replicate_succ, List.map_cons]; rfl
theorem memS {x : V} {ns : List Str} (h : x ∈ ns.map V.str) : ∃ n, x = .str n := let ⟨n, _, e⟩ := List.mem_map.mp h; ⟨n, e.symm⟩
theorem but_updN {a L : Addr} {Hc H8 : Hp} {o : HO} (nL : Hc L = none) (bt : But a Hc H8) : But a Hc (upd H8 L o) := fun b o n e => by
  rw [upd_ne (ne_of_none e nL)]
  exact bt b o n e
theorem bag_updN {a L : Addr} {H8 : Hp} {o : HO} {n : Int} (ne : L ≠ a) (h : Bag H8 a n) : Bag (upd H8 L o) a n := by
  obtain ⟨b0, b1, b2, e, r⟩ := h
  exact ⟨b0, b1, b2, by rw [upd_ne ne.symm]; exact e, r⟩
def DispEnd (p : Addr) (ps : List (V × V)) (H : Hp) (Q : VK) : Prop := H p = some (.dK []) ∧ ∃ kvs : List (Key × V), ps = kvs.map (fun kv => (kV kv.1, kv.2)) ∧ kvs.length ≤ 15 ∧ Q (.ref p) (upd H p (.dK (mergeK [] kvs)))
theorem w_dispP {σ : L2.St} {H : Hp} {Q : VK} {trs : List (TE × TE)} (h : ∀ p H1, H p = none → Same H H1 → H1 p = some (.dK []) → tPairs trs σ H1 fun ps H2 => DispEnd p ps H2 Q) : tDisp trs σ H Q :=
  fun p n => h p _ n (same_upd n) upd_same
theorem w_dispE2 {H : Hp} {Q : VK} {p : Addr} {ps : List (V × V)} (kvs m : List (Key × V)) (e : H p = some (.dK [])) (hp : ps = kvs.map (fun kv => (kV kv.1, kv.2))) (hl : kvs.length ≤ 15) (hm : mergeK [] kvs = m) (h : ∀ H3, But p H H3 → H3 p = some (.dK m) → Q (.ref p) H3) : DispEnd p ps H Q :=
  ⟨e, kvs, hp, hl, by rw [hm]; exact h _ But.upd upd_same⟩
theorem w_of {K : PySem.W.Frag} {H : Hp} {Q : VK} {E : XK} {a p : Addr} {xs : List V} {n : Int} (b : Bag H a n) (hn : n < 2 ^ 40) (hp : SqL K H p xs) (ne : p ≠ a) (l0 : 0 < xs.length) (l1 : xs.length < 1000)
    (h : ∀ x H', But a H H' → Bag H' a (n + 1) → x ∈ xs → Q x H') : spOf K ([.ref a, .ref p] ++ []) H Q E := ⟨a, p, xs, n, rfl, b, hn, ne, hp, l0, l1, h⟩
theorem memI {P : Int → Prop} {x : V} {ns : List Int} (h : x ∈ ns.map V.int) (hp : ∀ n ∈ ns, P n) : ∃ n, x = .int n ∧ P n := by
  obtain ⟨n, hn, rfl⟩ := List.mem_map.mp h
  exact ⟨n, rfl, hp n hn⟩
theorem Bag.ne1 {H : Hp} {a b : Addr} {n : Int} {o : HO} (e : H b = some o) (h : Bag H a n) (d : ∀ xs, o ≠ .lst xs) : b ≠ a := Bag.ne h e d
theorem SqT.butBag {K : PySem.W.Frag} {H H' : Hp} {a p : Addr} {n : Int} {xs : List V} (b : But a H H') (hb : Bag H a n) (h : SqT K H p xs) : SqT K H' p xs := by
  rcases h with (h | ⟨o, h⟩) | h
  · exact .inl (.inl (b _ _ (Bag.ne hb h (by intro xs z; cases z)) h))
  · exact .inl (.inr ⟨o, b _ _ (Bag.ne hb h (by intro xs z; cases z)) h⟩)
  · exact .inr h
theorem fresh_but {a p : Addr} {n : Int} {H H1 : Hp} (bt : But a H H1) (hb : Bag H1 a n) (h : H1 p = none) : H p = none := by
  cases e : H p with
  | none => rfl
  | some o =>
    by_cases c : p = a
    · subst c
      obtain ⟨_, _, _, e2, _⟩ := hb
      rw [e2] at h
      cases h
    · rw [bt _ _ c e] at h
      cases h
theorem valV_or (k : Key) : ∀ kvs : List (Key × V), valV kvs k = none ∨ ∃ kv ∈ kvs, valV kvs k = some kv.2
  | [] => .inl rfl
  | p :: r => by
    by_cases e : p.1 = k
    · exact .inr ⟨p, List.mem_cons_self .., valV_pos e⟩
    · rw [valV_neg e]
      rcases valV_or k r with h | ⟨kv, hm, h⟩
      · exact .inl h
      · exact .inr ⟨kv, List.mem_cons_of_mem _ hm, h⟩
theorem getD_or {P : V → Prop} {kvs : List (Key × V)} {k : Key} {z : V} (h : ∀ kv ∈ kvs, P kv.2) (hz : P z) : P ((valV kvs k).getD z) := by
  rcases valV_or k kvs with e | ⟨kv, hm, e⟩
  · rw [e]; exact hz
  · rw [e]; exact h kv hm
theorem Bag.butD {a p : Addr} {n : Int} {H H' : Hp} (b : But p H H') (ne : p ≠ a) (h : Bag H a n) : Bag H' a n := by
  obtain ⟨b0, b1, b2, h1, r⟩ := h
  exact ⟨b0, b1, b2, b _ _ ne.symm h1, r⟩

local macro_rules | `(tactic| walk_at "rl w1") => `(tactic| ((with_reducible refine' w_dispP ?_); intro _ _ _ _ _))
local macro_rules | `(tactic| walk_at "rl bg") => `(tactic| first | assumption | exact Bag.same (by assumption) (by walk_at "rl bg"))
local macro_rules | `(tactic| walk_at "rl ne2") => `(tactic| first
  | exact Bag.neN (by assumption) (by walk_at "rl bg")
  | exact (Bag.neN (by assumption) (by walk_at "rl bg")).symm
  | exact Bag.ne1 (by assumption) (by walk_at "rl bg") (by intro xs z; cases z))
local macro_rules | `(tactic| walk_at "rl hp2") => `(tactic| first
  | exact SqT.butBag (by assumption) (by walk_at "rl bg") (by walk_at "rl hp"))
local macro_rules | `(tactic| walk_at "rl take") => `(tactic| refine w_take (by walk_at "rl bg") (by omega) (by omega) (by omega) ?_)
local macro_rules | `(tactic| walk_at "rl of") => `(tactic| refine w_of (by walk_at "rl bg") (by omega) (by walk_at "rl hp") (by walk_at "rl ne2") (by decide) (by decide) ?_)
def Rngs (H : Hp) (a : Addr) (x : V) : Prop := ∃ (p : Addr) (xs : List V), x = .ref p ∧ H p = some (.lst xs) ∧ p ≠ a ∧ 0 < xs.length ∧ xs.length < 1000 ∧ ∀ y ∈ xs, ∃ (t : Addr) (lo hi : Int), y = .ref t ∧ H t = some (.tup [.int lo, .int hi]) ∧ lo ≤ hi ∧ -1000 ≤ lo ∧ hi ≤ 1000
theorem Rngs.same {H H' : Hp} {a : Addr} {x : V} (s : Same H H') (h : Rngs H a x) : Rngs H' a x := by
  obtain ⟨p, xs, e, hp, ne, l0, l1, hx⟩ := h
  exact ⟨p, xs, e, s _ _ hp, ne, l0, l1, fun y hy => let ⟨t, lo, hi, e, ht, r⟩ := hx y hy; ⟨t, lo, hi, e, s _ _ ht, r⟩⟩
def Ints (H : Hp) (x : V) : Prop := ∃ (p : Addr) (ns : List Int), x = .ref p ∧ H p = some (.lst (ns.map V.int)) ∧ 0 < ns.length ∧ ns.length < 100
def Fa.kv (v : Fa) : List (Key × V) := [(.inr "role", v.r), (.inr "number", v.n), (.inr "flags", v.f), (.inr "size", v.z), (.inr "amount", v.a), (.inr "low", v.l), (.inr "high", v.h), (.inr "plow", v.p), (.inr "phigh", v.q), (.inr "exponent", v.e), (.inr "unit", v.u), (.inr "usages", v.s)]
def Fnd (H : Hp) (a d : Addr) (v : Fa) (ds : List PyData) : Prop := H d = some (.dK v.kv) ∧ DqAll H (fun b => b ≠ a) v.all ds
def spPlain : Sp := fun vs H Q _ => ∃ (a : Addr) (n : Int), vs = [.ref a] ∧ Bag H a n ∧ n < 2 ^ 38 ∧ ∀ (p : Addr) (v : Fa) (ds : List PyData) H', But a H H' → Bag H' a (n + 20) → H p = none → Fnd H' a p v ds → Q (.ref p) H'
theorem dqI {H : Hp} {B : Addr → Prop} : ∀ is : List Int, DqAll H B (is.map V.int) (is.map PyData.int)
  | [] => .nil
  | i :: is => .cons (.int i) (dqI is)
theorem start_10_1 (x0 x1 x2 x3 x4 x5 x6 x7 x8 x9 : Str) (v0 : V) : L2.start [x0, x1, x2, x3, x4, x5, x6, x7, x8, x9] [v0] = [some v0, none, none, none, none, none, none, none, none, none] := rfl
theorem sc__law_plain : FnScope ["_law_bag_here", "_law_mode", "_law_bits", "_law_many", "_law_ranges", "_law_begin", "_law_end", "_law_row", "_law_found", "_law_k"] ["_law_bag_here"] (defScope (top 24)) := ⟨rfl, rfl, rfl, by decide +kernel, rfl, by decide +kernel, by decide +kernel⟩
theorem ok__law_plain {P : Program} {w : World} {K : PySem.W.Frag} {mg : Str → Option Value} {base : Heap} (T : TT K mg) (D__law_take : Ld P w K mg base CX0 1 "_law_take" ["_law_bag_here", "_law_many"] [] (spTake)) (D__law_of : Ld P w K mg base CX0 2 "_law_of" ["_law_bag_here", "_law_some"] [] (spOf K))   : Ld P w K mg base CX0 3 "_law_plain" ["_law_bag_here"] [] (spPlain) := by
  obtain ⟨⟨fd__law_take, ds__law_take, F__law_take, b__law_take, v__law_take⟩, g__law_take, k__law_take⟩ := D__law_take
  obtain ⟨⟨fd__law_of, ds__law_of, F__law_of, b__law_of, v__law_of⟩, g__law_of, k__law_of⟩ := D__law_of
  obtain ⟨fd, F⟩ := T.d__law_plain
  refine ⟨⟨fd, [], F.ok sc__law_plain (fun vs H Q E h => ?_) (fun cdv A outer s H vs Q E hr h => ?_), FunD.bindsN F (fun _ _ _ _ _ _ us hl => match us, hl with | [_], _ => rfl), .nil⟩, T.g__law_plain, F.kp⟩
  · obtain ⟨a, n, rfl, _⟩ := h
    rfl
  · obtain ⟨a, n, rfl, hb, hn, q⟩ := h
    refine ⟨_, PSs.nox ((pss_cons (ps_par3 (i := 1) (j := 2) (l := 3) (by rfl) sc__law_plain.nd rfl rfl rfl (by decide) (by decide) (by decide) rfl rfl rfl (pa_cons (pe_call F__law_of hr (by rfl) g__law_of k__law_of b__law_of v__law_of pass0 (pa_cons (pv 0) (pa_cons (pe_lst (pa_cons pe_int (pa_cons pe_int (pa_cons pe_int (pa_cons pe_int (pa_cons pe_int (pa_cons pe_int (pa_cons pe_int (pa_cons pe_int pa_nil))))))))) pa_nil))) (pa_cons (pe_call F__law_of hr (by rfl) g__law_of k__law_of b__law_of v__law_of pass0 (pa_cons (pv 0) (pa_cons (pe_lst (pa_cons pe_int (pa_cons pe_int (pa_cons pe_int (pa_cons pe_int (pa_cons pe_int pa_nil)))))) pa_nil))) (pa_cons (pe_call F__law_of hr (by rfl) g__law_of k__law_of b__law_of v__law_of pass0 (pa_cons (pv 0) (pa_cons (pe_lst (pa_cons pe_int (pa_cons pe_int (pa_cons pe_int pa_nil)))) pa_nil))) pa_nil))) (by rfl)) (pss_cons (ps_set (i := 4) sc__law_plain.nd rfl (by first | exact Or.inl rfl | exact Or.inr rfl) (pe_disp (pps_cons pe_int (pe_lst (pa_cons (pe_tup (pa_cons pe_int (pa_cons pe_int pa_nil))) pa_nil)) (pps_cons pe_int (pe_lst (pa_cons (pe_tup (pa_cons pe_int (pa_cons pe_int pa_nil))) (pa_cons (pe_tup (pa_cons (pe_un un_neg pe_int) (pa_cons pe_int pa_nil))) pa_nil))) pps_nil)) (by rfl) (by rfl) (fun z => by cases z) (by decide))) (pss_cons (ps_asg (pe_call F__law_of hr (by rfl) g__law_of k__law_of b__law_of v__law_of pass0 (pa_cons (pv 0) (pa_cons (pe_dget2 (room_u1 hr) (pv 4) (pv 2) (pe_lst (pa_cons (pe_tup (pa_cons pe_int (pa_cons pe_int pa_nil))) (pa_cons (pe_tup (pa_cons (pe_un un_neg pe_int) (pa_cons pe_int pa_nil))) (pa_cons (pe_tup (pa_cons (pe_un un_neg pe_int) (pa_cons pe_int pa_nil))) (pa_cons (pe_tup (pa_cons pe_int (pa_cons pe_int pa_nil))) pa_nil))))) ⟨by rfl, by rfl, by rfl, by rfl⟩) pa_nil))) (pg_tup rfl (pgs_cons (pg_name (i := 5) sc__law_plain.nd rfl (by first | exact Or.inl rfl | exact Or.inr rfl)) (pgs_cons (pg_name (i := 6) sc__law_plain.nd rfl (by first | exact Or.inl rfl | exact Or.inr rfl)) pgs_nil)))) (pss_cons (ps_set (i := 7) sc__law_plain.nd rfl (by first | exact Or.inl rfl | exact Or.inr rfl) (pe_callTy call_tuple_of (by rfl) T.m_tuple (by decide +kernel) (pa_cons (by exact (pe_lc (own := [("_law_k", 9)]) rfl sc__law_plain.nd (pi_range1 rfl T.m_range (pa_cons (pv 3) pa_nil)) (blkOk_by (own := [("_law_k", 9)]) (N := ["_law_bag_here", "_law_mode", "_law_bits", "_law_many", "_law_ranges", "_law_begin", "_law_end", "_law_row", "_law_found", "_law_k"]) (sc := defScope (top 24)) (by decide +kernel)) (fun _ _ _ _ _ => by exact (pg_name (i := 9) sc__law_plain.nd rfl (by first | exact Or.inl rfl | exact Or.inr rfl))) (fun _ _ _ _ _ => by exact pts_nil) (fun _ _ _ _ _ => by exact (pe_call F__law_of hr (by rfl) g__law_of k__law_of b__law_of v__law_of pass0 (pa_cons (pv 0) (pa_cons (pe_lst (pa_cons pe_int (pa_cons pe_int (pa_cons pe_int (pa_cons (pe_op op_sub (pe_op op_powG pe_int pe_int) pe_int) pa_nil))))) pa_nil)))))) pa_nil))) (pss_cons (ps_if (pt_cmpR op_in_seq (pv 1) (pe_tup (pa_cons pe_int (pa_cons pe_int (pa_cons pe_int (pa_cons pe_int pa_nil))))) (by rfl)) (pss_one (ps_set (i := 7) sc__law_plain.nd rfl (by first | exact Or.inl rfl | exact Or.inr rfl) (pe_tup pa_nil))) (pss_one (ps_if (pt_cmpR op_in_seq (pv 1) (pe_tup (pa_cons pe_int (pa_cons pe_int pa_nil))) (by rfl)) (pss_one (ps_set (i := 7) sc__law_plain.nd rfl (by first | exact Or.inl rfl | exact Or.inr rfl) (pe_op op_repTT (pe_tup (pa_cons pe_int pa_nil)) (pe_op op_add pe_int (pe_call F__law_take (hr.mono (by decide)) (by rfl) g__law_take k__law_take b__law_take v__law_take pass0 (pa_cons (pv 0) (pa_cons (pe_callB (call_min2 rfl) (by rfl) T.m_min (by decide +kernel) (pa_cons pe_int (pa_cons (pe_op op_add (pe_op op_sub (pv 6) (pv 5)) pe_int) pa_nil))) pa_nil))))))) pss_nil))) (pss_cons (ps_set (i := 8) sc__law_plain.nd rfl (by first | exact Or.inl rfl | exact Or.inr rfl) (pe_disp (pps_cons pe_str (pe_call F__law_of hr (by rfl) g__law_of k__law_of b__law_of v__law_of pass0 (pa_cons (pv 0) (pa_cons (pe_lst (pa_cons pe_str (pa_cons pe_str (pa_cons pe_str pa_nil)))) pa_nil))) (pps_cons pe_str (pe_call F__law_of hr (by rfl) g__law_of k__law_of b__law_of v__law_of pass0 (pa_cons (pv 0) (pa_cons (pe_lst (pa_cons pe_int (pa_cons pe_int (pa_cons pe_int pa_nil)))) pa_nil))) (pps_cons pe_str (pv 1) pps_nil))) (by rfl) (by rfl) (fun z => by cases z) (by decide))) (pss_cons (ps_expr (pe_bm PySem.F.plainAttrs_dict PySem.F.slot_dict_update PySem.F.type_dict_update mt_update (pv 8) (pa_cons (pe_disp (pps_cons pe_str (pv 2) (pps_cons pe_str (pv 3) (pps_cons pe_str (pv 5) (pps_cons pe_str (pv 6) (pps_cons pe_str (pe_un un_neg pe_int) (pps_cons pe_str (pe_op op_sub (pe_op op_powG pe_int pe_int) pe_int) pps_nil)))))) (by rfl) (by rfl) (fun z => by cases z) (by decide)) pa_nil))) (pss_cons (ps_expr (pe_bm PySem.F.plainAttrs_dict PySem.F.slot_dict_update PySem.F.type_dict_update mt_update (pv 8) (pa_cons (pe_disp (pps_cons pe_str (pe_call F__law_of hr (by rfl) g__law_of k__law_of b__law_of v__law_of pass0 (pa_cons (pv 0) (pa_cons (pe_lst (pa_cons (pe_un un_neg pe_int) (pa_cons pe_int (pa_cons pe_int pa_nil)))) pa_nil))) (pps_cons pe_str (pe_call F__law_of hr (by rfl) g__law_of k__law_of b__law_of v__law_of pass0 (pa_cons (pv 0) (pa_cons (pe_lst (pa_cons pe_int (pa_cons (pe_op op_sub (pe_op op_powG pe_int pe_int) pe_int) pa_nil))) pa_nil))) (pps_cons pe_str (pv 7) pps_nil))) (by rfl) (by rfl) (fun z => by cases z) (by decide)) pa_nil))) (pss_one (ps_ret (pv 8)))))))))))), ?_⟩; rw [start_10_1]; try dsimp only [cxOf]
    walk_at "rl wp"
    ((walk_at "rl of"); intro x1 H1 bt1 bg1 m1)
    obtain ⟨i1, rfl, hi1⟩ := memI (ns := [0, 2, 2, 1, 3, 4, 6, 7]) (P := fun z => 0 ≤ z ∧ z ≤ 7) m1 (by decide)
    walk_at "rl wp"
    ((walk_at "rl of"); intro x2 H2 bt2 bg2 m2)
    obtain ⟨i2, rfl, hi2⟩ := memI (ns := [0, 1, 8, 16, 32]) (P := fun z => 0 ≤ z ∧ z ≤ 32) m2 (by decide)
    walk_at "rl wp"
    ((walk_at "rl of"); intro x3 H3 bt3 bg3 m3)
    obtain ⟨i3, rfl, hi3⟩ := memI (ns := [0, 1, 3]) (P := fun z => 0 ≤ z ∧ z ≤ 3) m3 (by decide)
    clear m1 m2 m3
    walk_at "rl wp"
    rename_i D0 Ha nD sD hD t1 Hb n1 s1 h1 l1 Hc n2 s2 h2 t2 Hd n3 s3 h3 t3 He n4 s4 h4 l2 Hf n5 s5 h5
    have bgf : Bag Hf a (n + 1 + 1 + 1) := by walk_at "rl bg"
    have el1 : l1 ≠ a := by walk_at "rl ne2"
    have el2 : l2 ≠ a := by walk_at "rl ne2"
    have eD : D0 ≠ a := by walk_at "rl ne2"
    refine w_dispE2 [(.inl 0, .ref l1), (.inl 1, .ref l2)] [(.inl 0, .ref l1), (.inl 1, .ref l2)] ?dpe rfl (Nat.le_of_ble_eq_true rfl) rfl ?dpk
    case dpe => walk_at "rl hq"
    intro H4 bt4 hD4
    have r1 : Rngs H4 a (.ref l1) := ⟨l1, [.ref t1], rfl, by walk_at "rl hq", el1, Nat.zero_lt_succ _, Nat.lt_of_lt_of_le (Nat.lt_succ_self _) (Nat.le_of_ble_eq_true rfl), by
      intro y hy
      simp only [List.mem_cons, List.not_mem_nil, or_false] at hy
      subst hy
      exact ⟨t1, 0, 0, rfl, by walk_at "rl hq", by decide, by decide, by decide⟩⟩
    have r2 : Rngs H4 a (.ref l2) := ⟨l2, [.ref t2, .ref t3], rfl, by walk_at "rl hq", el2, Nat.zero_lt_succ _, Nat.lt_of_lt_of_le (Nat.lt_succ_self _) (Nat.le_of_ble_eq_true rfl), by
      intro y hy
      simp only [List.mem_cons, List.not_mem_nil, or_false] at hy
      rcases hy with rfl | rfl
      · exact ⟨t2, 0, 1, rfl, by walk_at "rl hq", by decide, by decide, by decide⟩
      · exact ⟨t3, -1, 0, rfl, by walk_at "rl hq", by decide, by decide, by decide⟩⟩
    have bg4 : Bag H4 a (n + 1 + 1 + 1) := Bag.butD bt4 eD bgf
    have b04 : But a H H4 := by
      have b03 : But a H H3 := by walk_at "rl but"
      exact But.trans b03 (But.of_same (Same.but_new nD (by walk_at "rl same") bt4))
    clear bt4 bgf h1 h2 h3 h4 h5 hD
    walk_at "rl wp"
    rename_i t4 Hg n6 s6 h6 t5 Hh n7 s7 h7 t6 Hi n8 s8 h8 t7 Hj n9 s9 h9 l3 Hk n10 s10 h10
    have r3 : Rngs Hk a (.ref l3) := ⟨l3, [.ref t4, .ref t5, .ref t6, .ref t7], rfl, h10, by walk_at "rl ne2", Nat.zero_lt_succ _, Nat.lt_of_lt_of_le (Nat.lt_succ_self _) (Nat.le_of_ble_eq_true rfl), by
      intro y hy
      simp only [List.mem_cons, List.not_mem_nil, or_false] at hy
      rcases hy with rfl | rfl | rfl | rfl
      · exact ⟨t4, 0, 9, rfl, by walk_at "rl hq", by decide, by decide, by decide⟩
      · exact ⟨t5, -5, 5, rfl, by walk_at "rl hq", by decide, by decide, by decide⟩
      · exact ⟨t6, -128, 127, rfl, by walk_at "rl hq", by decide, by decide, by decide⟩
      · exact ⟨t7, 3, 3, rfl, by walk_at "rl hq", by decide, by decide, by decide⟩⟩
    have s4k : Same H4 Hk := by walk_at "rl same"
    have bgk : Bag Hk a (n + 1 + 1 + 1) := Bag.same s4k bg4
    obtain ⟨p, xs, ep, hp, nea, l0, l1', hxs⟩ : Rngs Hk a ((valV [(.inl 0, .ref l1), (.inl 1, .ref l2)] (.inl i2)).getD (.ref l3)) := getD_or (P := Rngs Hk a) (by
      intro kv hm
      simp only [List.mem_cons, List.not_mem_nil, or_false] at hm
      rcases hm with rfl | rfl
      · exact r1.same s4k
      · exact r2.same s4k) r3
    refine ⟨_, DGet.k (k := .inl i2) (s4k _ _ hD4), ?_⟩
    rw [ep]
    walk_at "rl wp"
    refine w_of bgk (by omega) (SqL.of hp) nea l0 l1' ?_
    intro x4 H5 bt5 bg5 m4
    obtain ⟨t, lo, hi, rfl, ht, g1, g2, g3⟩ := hxs _ m4
    have ht5 : H5 t = some (.tup [.int lo, .int hi]) := bt5 _ _ (Bag.ne1 ht bgk (by intro xs z; cases z)) ht
    have b05 : But a H H5 := But.trans b04 (But.trans (But.of_same s4k) bt5)
    have kp : CPowW 2 32 := ⟨by decide, by decide, by decide⟩
    walk_at "rl wp"
    refine w_lcRL i3.toNat (fun L i acc H2 => But a H5 H2 ∧ Bag H2 a (n + 4 + i) ∧ ∃ ns : List Int, acc = ns.map V.int ∧ ns.length = i) (fun L nL => ⟨But.of_same (same_upd nL), Bag.le (Bag.same (same_upd nL) bg5) (by omega), [], rfl, rfl⟩) ?_ ?_
    · rintro L i acc H8 nL hi' eL hacc ⟨bt8, bg8, ns, rfl, hns⟩
      walk_at "rl wp"
      refine ⟨rfl, ?_⟩
      dsimp only [wipe, List.map, List.foldl, List.set]
      walk_at "rl wi"
      rename_i pl Hl np sp hpl
      have bg8' := Bag.same sp bg8
      refine w_of bg8' (by omega) (SqL.of hpl) (Bag.neN np bg8) (by decide) (by decide) ?_
      intro x H9 bt9 bg9 m5
      obtain ⟨i5, rfl, _⟩ := memI (ns := [0, 5, 65537, 2 ^ (32 : Int).toNat - 1]) (P := fun _ => True) m5 (fun _ _ => trivial)
      have neL : L ≠ a := Bag.neN nL bg5
      refine lc_put (n := i3.toNat) (bt9 _ _ neL (sp _ _ eL)) hacc hi' (by omega) ⟨but_updN nL (But.trans bt8 (But.trans (But.of_same sp) bt9)), bag_updN neL (Bag.le bg9 (by omega)), ns ++ [i5], by rw [List.map_append]; rfl, by rw [List.length_append, hns]; rfl⟩
    rintro L acc H8 nL eL ⟨bt8, bg8, ns, rfl, hns⟩
    walk_at "rl wp"
    refine ⟨L, _, rfl, .inl ⟨SqL.of eL, fun l nl => ?_⟩⟩
    obtain ⟨H9, e9⟩ : ∃ H9, H9 = upd H8 l (HO.tup (ns.map V.int)) := ⟨_, rfl⟩
    rw [← e9]
    have s9' : Same H8 H9 := by rw [e9]; exact same_upd nl
    have hl : H9 l = some (.tup (ns.map V.int)) := by rw [e9]; exact upd_same
    try dsimp only
    have b09 : But a H H9 := But.trans b05 (But.trans bt8 (But.of_same s9'))
    have bg9 : Bag H9 a (n + 7) := Bag.le (Bag.same s9' bg8) (by omega)
    clear b05 b04 bt8 s9' bt5 eL
    (with_reducible refine w_gName ?_); dsimp only [List.set]
    refine w_cut (fun σ' H' => ∃ (l : Addr) (ms : List Int) (z9 : Option V), σ' = [some (.ref a), some (.int i1), some (.int i2), some (.int i3), some (.ref D0), some (.int lo), some (.int hi), some (.ref l), none, z9] ∧ But a H H' ∧ Bag H' a (n + 9) ∧ H' l = some (.tup (ms.map V.int))) ?_ ?_
    · intro N hN
      walk_at "rl wp"
      refine w_inTG (by walk_at "rl hp") rfl rfl (fun b1 => ?_)
      cases b1 with
      | true =>
        walk_at "rl wi"
        exact hN _ _ ⟨_, [], _, rfl, by walk_at "rl but", Bag.le (by walk_at "rl bg") (by omega), by assumption⟩
      | false =>
        walk_at "rl wi"
        refine w_inTG (by walk_at "rl hp") rfl rfl (fun b2 => ?_)
        cases b2 with
        | false =>
          walk_at "rl wi"
          exact hN _ _ ⟨l, ns, _, rfl, by walk_at "rl but", Bag.le (by walk_at "rl bg") (by omega), by walk_at "rl hq"⟩
        | true =>
          walk_at "rl wi"
          rename_i pt Hp' npt spt hpt
          have hm : 0 < (if hi - lo + 1 < 4 then hi - lo + 1 else (4 : Int)) ∧ (if hi - lo + 1 < 4 then hi - lo + 1 else (4 : Int)) ≤ 4 := by split <;> omega
          have bgt : Bag Hp' a (n + 7) := by walk_at "rl bg"
          have bt0 : But a H Hp' := by walk_at "rl but"
          refine w_take bgt (by omega) hm.1 (by omega) ?_
          intro r H10 bt10 bg10 q0 q1
          have hT : SqT K H10 pt [.int 7] := SqT.of (bt10 _ _ (Bag.ne1 hpt bgt (by intro xs z; cases z)) hpt)
          walk_at "rl wp"
          by_cases h0 : r = 0
          · refine w_repT1 hT (by omega) ?_
            walk_at "rl wp"
            exact hN _ _ ⟨pt, [7], _, rfl, But.trans bt0 bt10, Bag.le bg10 (by omega), bt10 _ _ (Bag.ne1 hpt bgt (by intro xs z; cases z)) hpt⟩
          · refine w_repTN hT (fun z => nomatch z) (by omega) (by omega) (by decide) (fun l9 H11 nl9 sl9 hl9 => ?_)
            walk_at "rl wp"
            exact hN _ _ ⟨l9, List.replicate (1 + r).toNat 7, _, rfl, But.trans bt0 (But.trans bt10 (But.of_same sl9)), Bag.le (Bag.same sl9 bg10) (by omega), by rw [hl9, rep7]⟩
    have kp31 : CPowW 2 31 := ⟨by decide, by decide, by decide⟩
    rintro σ' Hc0 ⟨l, ms, z9, rfl, b0, bg, hl⟩
    walk_at "rl wp"
    rename_i P G1 np sp hp0 pr G2 npr spr hpr
    ((walk_at "rl of"); intro xr G3 btr bgr mr)
    obtain ⟨sr, rfl⟩ := memS (ns := ["input", "output", "feature"]) mr
    walk_at "rl wp"
    rename_i pn G4 npn spn hpn
    ((walk_at "rl of"); intro xn G5 btn bgn mn)
    obtain ⟨jn, rfl, _⟩ := memI (ns := [0, 1, 255]) (P := fun _ => True) mn (fun _ _ => trivial)
    walk_at "rl wp"
    have neP : P ≠ a := Bag.neN np bg
    have hP5 : G5 P = some (.dK []) := by walk_at "rl hq"
    have bP5 : But a Hc0 G5 := by walk_at "rl but"
    refine w_dispE2 [(.inr "role", .str sr), (.inr "number", .int jn), (.inr "flags", .int i1)] [(.inr "role", .str sr), (.inr "number", .int jn), (.inr "flags", .int i1)] ?dpe2 rfl (Nat.le_of_ble_eq_true rfl) rfl ?dpk2
    case dpe2 => exact hP5
    intro G6 bt6 h6
    have b6 : But a Hc0 G6 := But.but_new np bP5 bt6
    have bg6 : Bag G6 a (n + 11) := Bag.butD bt6 neP (Bag.le bgn (by omega))
    clear bP5 hP5 bt6 hpn hpr hp0
    walk_at "rl wp"
    rename_i P2 G7 np2 sp2 h7
    refine w_dispE2 [(.inr "size", .int i2), (.inr "amount", .int i3), (.inr "low", .int lo), (.inr "high", .int hi), (.inr "plow", .int (-7)), (.inr "phigh", .int (2 ^ (31 : Int).toNat - 1))] [(.inr "size", .int i2), (.inr "amount", .int i3), (.inr "low", .int lo), (.inr "high", .int hi), (.inr "plow", .int (-7)), (.inr "phigh", .int (2 ^ (31 : Int).toNat - 1))] ?dpe3 rfl (Nat.le_of_ble_eq_true rfl) rfl ?dpk3
    case dpe3 => exact h7
    intro G8 bt8 h8
    have ne2 : P ≠ P2 := ne_of_none h6 np2
    have h68 : G8 P = some (.dK [(.inr "role", .str sr), (.inr "number", .int jn), (.inr "flags", .int i1)]) := bt8 _ _ ne2 (sp2 _ _ h6)
    have np2' : Hc0 P2 = none := fresh_but b6 bg6 np2
    have b8 : But a Hc0 G8 := But.but_new np2' (But.trans b6 (But.of_same sp2)) bt8
    have bg8 : Bag G8 a (n + 11) := Bag.butD bt8 (Bag.neN np2 bg6) (Bag.same sp2 bg6)
    clear bt8 sp2 b6 h7 h6
    walk_at "rl wp"
    refine w_update (m := [(.inr "role", .str sr), (.inr "number", .int jn), (.inr "flags", .int i1), (.inr "size", .int i2), (.inr "amount", .int i3), (.inr "low", .int lo), (.inr "high", .int hi), (.inr "plow", .int (-7)), (.inr "phigh", .int (2 ^ (31 : Int).toNat - 1))]) h68 h8 ne2 (Nat.le_of_ble_eq_true rfl) rfl ?_
    obtain ⟨G9, e9⟩ : ∃ G9, G9 = upd G8 P (HO.dK [(.inr "role", .str sr), (.inr "number", .int jn), (.inr "flags", .int i1), (.inr "size", .int i2), (.inr "amount", .int i3), (.inr "low", .int lo), (.inr "high", .int hi), (.inr "plow", .int (-7)), (.inr "phigh", .int (2 ^ (31 : Int).toNat - 1))]) := ⟨_, rfl⟩
    rw [← e9]
    have h9P : G9 P = some (.dK [(.inr "role", .str sr), (.inr "number", .int jn), (.inr "flags", .int i1), (.inr "size", .int i2), (.inr "amount", .int i3), (.inr "low", .int lo), (.inr "high", .int hi), (.inr "plow", .int (-7)), (.inr "phigh", .int (2 ^ (31 : Int).toNat - 1))]) := by rw [e9]; exact upd_same
    have b9 : But a Hc0 G9 := But.but_new np b8 (by rw [e9]; exact But.upd)
    have bg9 : Bag G9 a (n + 11) := Bag.butD (by rw [e9]; exact But.upd) neP bg8
    clear e9 b8 bg8 h68 h8 ne2
    walk_at "rl wp"
    rename_i P3 G10 np3 sp3 h10 pe G11 npe spe hpe
    ((walk_at "rl of"); intro xe G12 bte bge me)
    obtain ⟨je, rfl, _⟩ := memI (ns := [-8, 0, 7]) (P := fun _ => True) me (fun _ _ => trivial)
    walk_at "rl wp"
    rename_i pu G13 npu spu hpu
    ((walk_at "rl of"); intro xu G14 btu bgu mu)
    obtain ⟨ju, rfl, _⟩ := memI (ns := [0, 2 ^ (32 : Int).toNat - 1]) (P := fun _ => True) mu (fun _ _ => trivial)
    walk_at "rl wp"
    have hP3 : G14 P3 = some (.dK []) := by walk_at "rl hq"
    have b914 : But a G9 G14 := by walk_at "rl but"
    refine w_dispE2 [(.inr "exponent", .int je), (.inr "unit", .int ju), (.inr "usages", .ref l)] [(.inr "exponent", .int je), (.inr "unit", .int ju), (.inr "usages", .ref l)] ?dpe4 rfl (Nat.le_of_ble_eq_true rfl) rfl ?dpk4
    case dpe4 => exact hP3
    intro G15 bt15 h15
    have ne3 : P ≠ P3 := ne_of_none h9P np3
    have h15P : G15 P = some (.dK [(.inr "role", .str sr), (.inr "number", .int jn), (.inr "flags", .int i1), (.inr "size", .int i2), (.inr "amount", .int i3), (.inr "low", .int lo), (.inr "high", .int hi), (.inr "plow", .int (-7)), (.inr "phigh", .int (2 ^ (31 : Int).toNat - 1))]) := bt15 _ _ ne3 (b914 _ _ neP h9P)
    have np3' : Hc0 P3 = none := fresh_but b9 bg9 np3
    have b15 : But a Hc0 G15 := But.but_new np3' (But.trans b9 b914) bt15
    have bg15 : Bag G15 a (n + 13) := Bag.butD bt15 (Bag.neN np3 bg9) (Bag.le bgu (by omega))
    walk_at "rl wp"
    refine w_update (m := [(.inr "role", .str sr), (.inr "number", .int jn), (.inr "flags", .int i1), (.inr "size", .int i2), (.inr "amount", .int i3), (.inr "low", .int lo), (.inr "high", .int hi), (.inr "plow", .int (-7)), (.inr "phigh", .int (2 ^ (31 : Int).toNat - 1)), (.inr "exponent", .int je), (.inr "unit", .int ju), (.inr "usages", .ref l)]) h15P h15 ne3 (Nat.le_of_ble_eq_true rfl) rfl ?_
    obtain ⟨G16, e16⟩ : ∃ G16, G16 = upd G15 P (HO.dK [(.inr "role", .str sr), (.inr "number", .int jn), (.inr "flags", .int i1), (.inr "size", .int i2), (.inr "amount", .int i3), (.inr "low", .int lo), (.inr "high", .int hi), (.inr "plow", .int (-7)), (.inr "phigh", .int (2 ^ (31 : Int).toNat - 1)), (.inr "exponent", .int je), (.inr "unit", .int ju), (.inr "usages", .ref l)]) := ⟨_, rfl⟩
    rw [← e16]
    have h16P : G16 P = some (.dK [(.inr "role", .str sr), (.inr "number", .int jn), (.inr "flags", .int i1), (.inr "size", .int i2), (.inr "amount", .int i3), (.inr "low", .int lo), (.inr "high", .int hi), (.inr "plow", .int (-7)), (.inr "phigh", .int (2 ^ (31 : Int).toNat - 1)), (.inr "exponent", .int je), (.inr "unit", .int ju), (.inr "usages", .ref l)]) := by rw [e16]; exact upd_same
    have b16 : But a Hc0 G16 := But.but_new np b15 (by rw [e16]; exact But.upd)
    have bg16 : Bag G16 a (n + 20) := Bag.le (Bag.butD (by rw [e16]; exact But.upd) neP bg15) (by omega)
    have nel : l ≠ a := Bag.ne1 hl bg (by intro xs z; cases z)
    have hl16 : G16 l = some (.tup (ms.map V.int)) := b16 _ _ nel hl
    clear e16
    walk_at "rl wp"
    exact q P ⟨.str sr, .int jn, .int i1, .int i2, .int i3, .int lo, .int hi, .int (-7), .int (2 ^ (31 : Int).toNat - 1), .int je, .int ju, .ref l⟩ [.str sr, .int jn, .int i1, .int i2, .int i3, .int lo, .int hi, .int (-7), .int (2 ^ (31 : Int).toNat - 1), .int je, .int ju, .tuple (ms.map PyData.int)] G16 (But.trans b0 b16) bg16 (fresh_but b0 bg np) ⟨h16P, .cons (.str _) (.cons (.int _) (.cons (.int _) (.cons (.int _) (.cons (.int _) (.cons (.int _) (.cons (.int _) (.cons (.int _) (.cons (.int _) (.cons (.int _) (.cons (.int _) (.cons (.tup hl16 nel (dqI ms)) .nil)))))))))))⟩
end T16
end
section
set_option Elab.async false
set_option linter.all false
set_option maxRecDepth 100000
set_option maxHeartbeats 1000000
namespace T16
open PySem PySem.Spec PyProof.Rows L2 L2.RL
local macro_rules | `(tactic| walk_at "rl ty") => `(tactic| first
  | assumption
  | exact .base (.int _)
  | exact .base (.str _)
  | exact .base .non
  | exact .base (.bl _)
  | exact ty_sqT (by walk_at "rl hp")
  | exact ty_sqL (by walk_at "rl hp")
  | exact .base (.tup (by walk_at "rl hp"))
  | exact .base (.lst (by walk_at "rl hp"))
  | exact .base (.dK (by walk_at "rl hp")))
local macro_rules | `(tactic| walk_at "rl if") => `(tactic| first
  | with_reducible refine iteT' rfl ?_
  | with_reducible refine iteF' rfl ?_
  | (refine iteT' rfl ?_)
  | (refine iteF' rfl ?_))
local macro_rules | `(tactic| walk_at "rl side") => `(tactic| first | assumption | omega | (constructor <;> omega) | decide)
local macro_rules | `(tactic| walk_at "rl ne") => `(tactic| first
  | assumption
  | exact Ne.symm (by assumption)
  | walk_at "rl ne2"
  | exact ne_of (by assumption) (by walk_at "rl hq") (by intro z; cases z)
  | exact (ne_of (by assumption) (by walk_at "rl hq") (by intro z; cases z)).symm)
local macro_rules | `(tactic| walk_at "rl hq") => `(tactic| first
  | assumption
  | exact upd_same
  | (refine' upd_at ?rlne ?rlhq; (case rlne => walk_at "rl ne"); (case rlhq => walk_at "rl hq"))
  | (refine' Same.at ?rlsa ?rlhq; (case rlsa => assumption); (case rlhq => walk_at "rl hq"))
  | (refine' But.at ?rlbu ?rlne ?rlhq; (case rlbu => assumption); (case rlne => walk_at "rl ne"); (case rlhq => walk_at "rl hq")))
local macro_rules | `(tactic| walk_at "rl hp") => `(tactic| first
  | assumption
  | (refine' SqL.of ?rlhq; (case rlhq => walk_at "rl hq"))
  | (refine' SqT.of ?rlhq; (case rlhq => walk_at "rl hq"))
  | (refine' Same.seq ?rlsa ?rlhp; (case rlsa => assumption); (case rlhp => walk_at "rl hp"))
  | (refine' Same.sqT ?rlsa ?rlhp; (case rlsa => assumption); (case rlhp => walk_at "rl hp"))
  | walk_at "rl hp2"
  | walk_at "rl hq")
local macro_rules | `(tactic| walk_at "rl w1") => `(tactic| first
  | with_reducible refine w_seq ?_
  | ((with_reducible refine' w_var ?rlv ?_); (case rlv => exact rfl))
  | with_reducible refine w_c ?_
  | with_reducible refine w_op ?_
  | with_reducible refine w_I0 ?_
  | with_reducible refine w_asg ?_
  | ((with_reducible refine' w_gName ?_); dsimp only [List.set])
  | ((with_reducible refine' w_nxD ?rle ?_); (case rle => exact rfl))
  | ((with_reducible refine' w_rtD ?rle ?_); (case rle => exact rfl))
  | with_reducible refine w_next ?_
  | with_reducible refine w_ret ?_
  | with_reducible refine w_cons ?_
  | with_reducible refine w_nil ?_
  | with_reducible refine w_ifS ?_
  | with_reducible refine w_test ?_
  | with_reducible refine w_B ?_
  | with_reducible refine w_bl ?_
  | with_reducible refine w_bl1 ?_
  | with_reducible refine w_blR ?_
  | with_reducible refine w_eqI ?_
  | with_reducible refine w_neI ?_
  | with_reducible refine w_eqS ?_
  | with_reducible refine w_neS ?_
  | with_reducible refine w_eqB ?_
  | with_reducible refine w_neB ?_
  | with_reducible refine w_and ?_
  | with_reducible refine w_or ?_
  | with_reducible refine w_not ?_
  | with_reducible refine w_andV ?_
  | with_reducible refine w_orV ?_
  | with_reducible refine w_notV ?_
  | with_reducible refine w_if ?_
  | with_reducible refine w_chain ?_
  | with_reducible refine w_un ?_
  | with_reducible refine w_U ?_
  | ((with_reducible refine' w_I ?rlc ?_); (case rlc => walk_at "rl side"))
  | with_reducible refine w_drop ?_
  | with_reducible refine w_retN ?_
  | with_reducible refine w_par ?_
  | ((with_reducible refine' w_par2 ?_); dsimp only [List.set])
  | ((with_reducible refine' w_aug ?rla ?_); (case rla => exact rfl))
  | with_reducible refine w_ipI ?_
  | with_reducible refine w_break ?_
  | with_reducible refine w_cont ?_
  | ((with_reducible refine' w_bkD ?rle ?_); (case rle => exact rfl))
  | ((with_reducible refine' w_ctD ?rle ?_); (case rle => exact rfl))
  | with_reducible refine w_tup ?_
  | with_reducible refine w_lst ?_
  | ((with_reducible refine' w_newO ?rln ?_); (case rln => exact Nat.le_of_ble_eq_true rfl); intro _ _ _ _ _)
  | ((with_reducible refine' w_new ?rln ?_); (case rln => exact Nat.le_of_ble_eq_true rfl))
  | ((with_reducible refine' w_mk ?_); intro _ _ _ _ _)
  | ((with_reducible refine' w_gTup ?rls ?rll ?_); (case rls => walk_at "rl hp"); (case rll => exact rfl))
  | with_reducible refine w_gCons ?_
  | with_reducible refine w_gNil ?_
  | with_reducible refine w_gSub ?_
  | ((with_reducible refine' w_setL ?rls ?rlj ?_); (case rls => walk_at "rl hp"); (case rlj => exact rfl))
  | ((with_reducible refine' w_ixL ?rls ?rli ?_); (case rls => walk_at "rl hp"); (case rli => exact rfl))
  | ((with_reducible refine' w_ixT ?rls ?rli ?_); (case rls => walk_at "rl hp"); (case rli => exact rfl))
  | with_reducible refine w_call ?_
  | with_reducible refine w_trI ?_
  | with_reducible refine w_yes ?_
  | with_reducible refine w_trB ?_
  | with_reducible refine w_trN ?_
  | with_reducible refine w_cb ?_
  | with_reducible refine w_fld ?_
  | ((with_reducible refine' w_fld1 ?rlo ?rlc ?rln ?rll ?_); (case rlo => walk_at "rl hp"); (case rlc => assumption); (case rln => assumption); (case rll => exact rfl))
  | with_reducible refine w_isiO ?_
  | with_reducible refine w_isiT ?_
  | ((with_reducible refine' w_isi (r := true) ?rlt ?rlk ?_); (case rlt => walk_at "rl ty"); (case rlk => exact rfl))
  | ((with_reducible refine' w_isi (r := false) ?rlt ?rlk ?_); (case rlt => walk_at "rl ty"); (case rlk => exact rfl))
  | ((with_reducible refine' w_isi2 (r := true) ?rlT ?rlt ?rlk ?_); (case rlT => walk_at "rl hp"); (case rlt => walk_at "rl ty"); (case rlk => exact rfl))
  | ((with_reducible refine' w_isi2 (r := false) ?rlT ?rlt ?rlk ?_); (case rlT => walk_at "rl hp"); (case rlt => walk_at "rl ty"); (case rlk => exact rfl))
  | with_reducible refine w_sFld ?_
  | with_reducible refine w_itemsK ?_
  | ((with_reducible refine' w_catT ?rlha ?rlhb ?rln1 ?rln2 ?rlhl ?_); (case rlha => walk_at "rl hp"); (case rlhb => walk_at "rl hp"); (case rln1 => exact (fun z => nomatch z)); (case rln2 => exact (fun z => nomatch z)); (case rlhl => exact Nat.le_trans (Nat.le_of_ble_eq_true rfl) (show 100000 ≤ sizeLine by decide)))
  | ((with_reducible refine' w_newE ?_); intro _ _ _ _ _)
  | with_reducible refine w_makeK ?_
  | ((with_reducible refine' w_sFld1 ?rlc ?rln ?rll ?rle ?_); (case rlc => assumption); (case rln => assumption); (case rll => exact Nat.lt_of_lt_of_le (Nat.lt_succ_self _) (Nat.le_of_ble_eq_true rfl)); (case rle => exact rfl))
  | ((with_reducible refine' w_sFld0 ?rlx ?rlc ?rln ?rll ?rle ?_); (case rlx => walk_at "rl hq"); (case rlc => assumption); (case rln => assumption); (case rll => exact Nat.lt_of_lt_of_le (Nat.lt_succ_self _) (Nat.le_of_ble_eq_true rfl)); (case rle => exact rfl))
  | with_reducible refine w_rflA ?_
  | with_reducible refine w_for ?_
  | with_reducible refine w_iList ?_
  | with_reducible refine w_iTup ?_
  | ((with_reducible refine' w_overL ?rls ?_); (case rls => walk_at "rl hp"))
  | ((with_reducible refine' w_overT ?rls ?_); (case rls => walk_at "rl hp"))
  | with_reducible refine w_rng1 ?_
  | ((with_reducible refine' w_rng1a ?rl1 ?rl2 ?_); (case rl1 => omega); (case rl2 => omega))
  | with_reducible refine w_rng2 ?_
  | ((with_reducible refine' w_rng2a ?rl1 ?_); (case rl1 => omega))
  | with_reducible refine w_zip2 ?_
  | with_reducible refine w_lc ?_
  | with_reducible refine w_enS ?_
  | with_reducible refine w_callSD ?_
  | with_reducible refine w_xf ?_
  | ((with_reducible refine' w_dnew ?_); intro _ _ _ _ _)
  | ((with_reducible refine' w_disp1 ?_); intro _ _ _ _ _)
  | with_reducible refine w_bm ?_
  | ((with_reducible refine' w_tyL ?rls ?_); (case rls => walk_at "rl hp"))
  | ((with_reducible refine' w_append ?rls ?rll ?_); (case rls => walk_at "rl hq"); (case rll => exact Nat.lt_of_lt_of_le (Nat.lt_succ_self _) (Nat.le_of_ble_eq_true rfl)))
  | ((with_reducible refine' w_cat ?rls ?rlt ?rll ?_); (case rls => walk_at "rl hq"); (case rlt => walk_at "rl hq"); (case rll => exact Nat.le_of_ble_eq_true rfl); intro _ _ _ _ _)
  | with_reducible refine w_int1 ?_
  | ((with_reducible refine w_intb ?_); (try dsimp only))
  | with_reducible refine w_one ?_
  | with_reducible refine w_two ?_
  | ((with_reducible refine' w_lenL ?rls ?_); (case rls => walk_at "rl hp"))
  | ((with_reducible refine' w_lenT ?rls ?_); (case rls => walk_at "rl hp"))
  | with_reducible refine w_meth ?_
  | ((with_reducible refine' w_meth1 ?rlo ?rll ?_); (case rlo => walk_at "rl hp"); (case rll => exact rfl)))
local macro_rules | `(tactic| walk_at "rl wp") => `(tactic| (repeat walk_at "rl w1"))
local macro_rules | `(tactic| walk_at "rl but") => `(tactic| first
  | assumption
  | exact But.refl _ _
  | exact But.upd
  | exact But.of_same (by assumption)
  | (refine But.trans ?_ (But.of_same (by assumption)); walk_at "rl but")
  | (refine But.trans ?_ (by assumption : But _ _ _); walk_at "rl but")
  | (refine But.trans ?_ But.upd; walk_at "rl but"))
local macro_rules | `(tactic| walk_at "rl same") => `(tactic| first
  | assumption
  | exact Same.refl _
  | (refine Same.trans ?_ (by assumption : Same _ _); walk_at "rl same"))

local macro_rules | `(tactic| walk_at "rl wi") => `(tactic| (repeat (first
  | walk_at "rl w1"
  | ((with_reducible refine' iteF' ?rlif ?_); (case rlif => exact rfl))
  | ((with_reducible refine' iteT' ?rlif ?_); (case rlif => exact rfl)))))
local macro_rules | `(tactic| walk_at "rl ty") => `(tactic| exact .base (.dK (by assumption)))
local macro_rules | `(tactic| walk_at "rl ty") => `(tactic| exact .base (.lst (by assumption)))
local macro_rules | `(tactic| walk_at "rl ty") => `(tactic| exact .base (.tup (by assumption)))
local macro_rules | `(tactic| walk_at "rl w1") => `(tactic| first
  | with_reducible refine w_par3 ?_
  | ((with_reducible refine' w_par3a ?_); dsimp only [List.set])
  | with_reducible refine w_dget ?_
  | ((with_reducible refine' w_dgetS ?rls ?rlv ?_); (case rls => walk_at "rl hq"); (case rlv => exact rfl))
  | ((with_reducible refine' w_dgetI ?rls ?rlv ?_); (case rls => walk_at "rl hq"); (case rlv => exact rfl))
  | with_reducible refine w_dget2 ?_
  | ((with_reducible refine' w_isD ?rls ?_); (case rls => walk_at "rl hq"))
  | ((with_reducible refine' w_dget2S ?rls ?_); (case rls => walk_at "rl hq"))
  | ((with_reducible refine' w_dget2I ?rls ?_); (case rls => walk_at "rl hq"))
  | ((with_reducible refine' w_setDS ?rls ?rll ?rlm ?_); (case rls => walk_at "rl hq"); (case rll => exact Nat.lt_of_lt_of_le (Nat.lt_succ_self _) (Nat.le_of_ble_eq_true rfl)); (case rlm => exact rfl))
  | ((with_reducible refine' w_tyD ?rls ?_); (case rls => walk_at "rl hq"))
  | with_reducible refine w_jNil ?_
  | with_reducible refine w_jCons ?_
  | with_reducible refine w_prop ?_
  | with_reducible refine w_makeKS ?_
  | with_reducible refine w_pNil ?_
  | with_reducible refine w_pCons ?_
  | ((with_reducible refine' w_dispN ?_); intro _ _ _ _ _))

local macro_rules | `(tactic| walk_at "rl w1") => `(tactic| ((with_reducible refine' w_dispP ?_); intro _ _ _ _ _))
local macro_rules | `(tactic| walk_at "rl bg") => `(tactic| first | assumption | exact Bag.same (by assumption) (by walk_at "rl bg"))
local macro_rules | `(tactic| walk_at "rl ne2") => `(tactic| first
  | exact Bag.neN (by assumption) (by walk_at "rl bg")
  | exact (Bag.neN (by assumption) (by walk_at "rl bg")).symm
  | exact Bag.ne1 (by assumption) (by walk_at "rl bg") (by intro xs z; cases z))
local macro_rules | `(tactic| walk_at "rl hp2") => `(tactic| first
  | exact SqT.butBag (by assumption) (by walk_at "rl bg") (by walk_at "rl hp"))
local macro_rules | `(tactic| walk_at "rl take") => `(tactic| refine w_take (by walk_at "rl bg") (by omega) (by omega) (by omega) ?_)
local macro_rules | `(tactic| walk_at "rl of") => `(tactic| refine w_of (by walk_at "rl bg") (by omega) (by walk_at "rl hp") (by walk_at "rl ne2") (by decide) (by decide) ?_)

def LstI (H : Hp) (x : V) : Prop := ∃ (p : Addr) (ns : List Int), x = .ref p ∧ H p = some (.lst (ns.map V.int)) ∧ ns.length ≤ 10
theorem LstI.same {H H' : Hp} {x : V} (s : Same H H') (h : LstI H x) : LstI H' x := let ⟨p, ns, e, hp, l⟩ := h; ⟨p, ns, e, s _ _ hp, l⟩
theorem DqAll.mem {H : Hp} {B : Addr → Prop} {xs : List V} {ds : List PyData} (h : DqAll H B xs ds) {x : V} (m : x ∈ xs) : ∃ d, Dq H B x d := by
  obtain ⟨i, hi, e⟩ := List.mem_iff_getElem.mp m
  obtain ⟨d, _, hd⟩ := h.at (i := i) (x := x) (by rw [List.getElem?_eq_getElem hi, e])
  exact ⟨d, hd⟩
theorem repI (i : Int) (k : Nat) : (List.replicate k [V.int i]).flatten = (List.replicate k i).map V.int := by
  induction k with
  | zero => rfl
  | succ k ih => rw [List.replicate_succ, List.flatten_cons, ih, List.replicate_succ, List.map_cons]; rfl
theorem dqR1 {H : Hp} {B : Addr → Prop} (k : Nat) : DqAll H B (List.replicate k [V.int 1]).flatten ((List.replicate k (1 : Int)).map PyData.int) := by
  rw [repI]
  exact dqI _
def spOdd : Sp := fun vs H Q _ => ∃ (a : Addr) (nm : Str) (n : Int), vs = [.ref a, .str nm] ∧ Bag H a n ∧ n < 2 ^ 38 ∧ ∀ x d H', But a H H' → Bag H' a (n + 2) → Dq H' (fun b => b ≠ a) x d → Q x H'
theorem w_ofD {K : PySem.W.Frag} {H : Hp} {Q : VK} {E : XK} {a p : Addr} {xs : List V} {ds : List PyData} {n : Int} (b : Bag H a n) (hn : n < 2 ^ 40) (hp : H p = some (.lst xs)) (ne : p ≠ a) (l0 : 0 < xs.length) (l1 : xs.length < 1000) (hd : DqAll H (fun b => b ≠ a) xs ds)
    (h : ∀ x d H', But a H H' → Bag H' a (n + 1) → Dq H' (fun b => b ≠ a) x d → Q x H') : spOf K ([.ref a, .ref p] ++ []) H Q E :=
  w_of b hn (SqL.of hp) ne l0 l1 fun x H' bt bg m =>
    let ⟨d, hx⟩ := DqAll.mem hd m
    h x d H' bt bg (Dq.keep (fun b o n e => ⟨bt _ _ n e, n⟩) d x hx)
theorem sc__law_odd : FnScope ["_law_bag_here", "_law_name", "_law_edges", "_law_some"] ["_law_bag_here", "_law_name"] (defScope (top 25)) := ⟨rfl, rfl, rfl, by decide +kernel, rfl, by decide +kernel, by decide +kernel⟩
theorem ok__law_odd {P : Program} {w : World} {K : PySem.W.Frag} {mg : Str → Option Value} {base : Heap} (T : TT K mg) (D__law_of : Ld P w K mg base CX0 2 "_law_of" ["_law_bag_here", "_law_some"] [] (spOf K))   : Ld P w K mg base CX0 3 "_law_odd" ["_law_bag_here", "_law_name"] [] (spOdd) := by
  obtain ⟨⟨fd__law_of, ds__law_of, F__law_of, b__law_of, v__law_of⟩, g__law_of, k__law_of⟩ := D__law_of
  obtain ⟨fd, F⟩ := T.d__law_odd
  refine ⟨⟨fd, [], F.ok sc__law_odd (fun vs H Q E h => ?_) (fun cdv A outer s H vs Q E hr h => ?_), FunD.bindsN F (fun _ _ _ _ _ _ us hl => match us, hl with | [_, _], _ => rfl), .nil⟩, T.g__law_odd, F.kp⟩
  · obtain ⟨a, nm, n, rfl, _⟩ := h
    rfl
  · obtain ⟨a, nm, n, rfl, hb, hn, q⟩ := h
    have kp31 : CPowW 2 31 := ⟨by decide, by decide, by decide⟩
    have kp32 : CPowW 2 32 := ⟨by decide, by decide, by decide⟩
    refine ⟨_, PSs.nox ((pss_cons (ps_set (i := 2) sc__law_odd.nd rfl (by first | exact Or.inl rfl | exact Or.inr rfl) (pe_disp (pps_cons pe_str (pe_lst (pa_cons pe_int (pa_cons (pe_un un_neg pe_int) pa_nil))) (pps_cons pe_str (pe_lst (pa_cons pe_int (pa_cons (pe_un un_neg pe_int) pa_nil))) (pps_cons pe_str (pe_lst (pa_cons pe_int (pa_cons (pe_un un_neg pe_int) pa_nil))) (pps_cons pe_str (pe_lst (pa_cons pe_int (pa_cons (pe_un un_neg pe_int) pa_nil))) (pps_cons pe_str (pe_lst (pa_cons pe_int (pa_cons (pe_un un_neg pe_int) pa_nil))) pps_nil))))) (by rfl) (by rfl) (fun z => by cases z) (by decide))) (pss_cons (ps_set (i := 3) sc__law_odd.nd rfl (by first | exact Or.inl rfl | exact Or.inr rfl) (pe_op op_cat (pe_dget2 (room_u1 hr) (pv 2) (pv 1) (pe_lst (pa_cons (pe_op op_powG pe_int pe_int) (pa_cons (pe_op op_sub (pe_un un_neg (pe_op op_powG pe_int pe_int)) pe_int) (pa_cons (pe_op op_powG pe_int pe_int) pa_nil)))) ⟨by rfl, by rfl, by rfl, by rfl⟩) (pe_lst (pa_cons pe_non (pa_cons pe_bl (pa_cons pe_str (pa_cons (pe_tup (pa_cons pe_int pa_nil)) (pa_cons (pe_lst pa_nil) (pa_cons pe_int (pa_cons pe_int (pa_cons pe_int (pa_cons pe_int pa_nil)))))))))))) (pss_cons (ps_if (pt_cmpR op_eq (pv 1) pe_str (nomark _)) (pss_one (ps_set (i := 3) sc__law_odd.nd rfl (by first | exact Or.inl rfl | exact Or.inr rfl) (pe_lst (pa_cons pe_str (pa_cons pe_str (pa_cons pe_non (pa_cons pe_int (pa_cons (pe_tup (pa_cons pe_str pa_nil)) (pa_cons pe_str (pa_cons pe_str pa_nil)))))))))) pss_nil) (pss_cons (ps_if (pt_cmpR op_eq (pv 1) pe_str (nomark _)) (pss_one (ps_set (i := 3) sc__law_odd.nd rfl (by first | exact Or.inl rfl | exact Or.inr rfl) (pe_lst (pa_cons (pe_lst pa_nil) (pa_cons (pe_tup (pa_cons pe_non pa_nil)) (pa_cons (pe_tup (pa_cons pe_bl pa_nil)) (pa_cons (pe_tup (pa_cons (pe_un un_neg pe_int) pa_nil)) (pa_cons (pe_tup (pa_cons (pe_op op_powG pe_int pe_int) pa_nil)) (pa_cons (pe_op op_repTT (pe_tup (pa_cons pe_int pa_nil)) pe_int) (pa_cons (pe_op op_repTT (pe_tup (pa_cons pe_int pa_nil)) pe_int) (pa_cons (pe_tup pa_nil) (pa_cons (pe_tup (pa_cons pe_int pa_nil)) (pa_cons (pe_tup (pa_cons pe_int (pa_cons pe_int pa_nil))) (pa_cons pe_str (pa_cons pe_non (pa_cons (pe_tup (pa_cons (pe_tup (pa_cons pe_int pa_nil)) pa_nil)) pa_nil)))))))))))))))) pss_nil) (pss_one (ps_ret (pe_call F__law_of hr (by rfl) g__law_of k__law_of b__law_of v__law_of pass0 (pa_cons (pv 0) (pa_cons (pv 3) pa_nil)))))))))), ?_⟩; rw [start_4_2]; try dsimp only [cxOf]

    walk_at "rl wp"
    rename_i D Ha nD sD hD L1 Hb n1 s1 h1 L2 Hc n2 s2 h2 L3 Hd n3 s3 h3 L4 He n4 s4 h4 L5 Hf n5 s5 h5
    refine w_dispE2 [(.inr "number", .ref L1), (.inr "flags", .ref L2), (.inr "size", .ref L3), (.inr "amount", .ref L4), (.inr "exponent", .ref L5)] [(.inr "number", .ref L1), (.inr "flags", .ref L2), (.inr "size", .ref L3), (.inr "amount", .ref L4), (.inr "exponent", .ref L5)] ?dpe rfl (Nat.le_of_ble_eq_true rfl) rfl ?dpk
    case dpe => walk_at "rl hq"
    intro H4 bt4 hD4
    have e1 : LstI H4 (.ref L1) := ⟨L1, [256, -1], rfl, by walk_at "rl hq", by decide⟩
    have e2 : LstI H4 (.ref L2) := ⟨L2, [8, -1], rfl, by walk_at "rl hq", by decide⟩
    have e3 : LstI H4 (.ref L3) := ⟨L3, [33, -1], rfl, by walk_at "rl hq", by decide⟩
    have e4 : LstI H4 (.ref L4) := ⟨L4, [256, -1], rfl, by walk_at "rl hq", by decide⟩
    have e5 : LstI H4 (.ref L5) := ⟨L5, [8, -9], rfl, by walk_at "rl hq", by decide⟩
    have sH4 : Same H H4 := Same.but_new nD (by walk_at "rl same") bt4
    clear bt4 h1 h2 h3 h4 h5 hD s1 s2 s3 s4 s5 sD n1 n2 n3 n4 n5 nD
    walk_at "rl wp"
    rename_i Ld Hg n6 s6 h6
    have gg : LstI Hg ((valV ([(.inr "number", .ref L1), (.inr "flags", .ref L2), (.inr "size", .ref L3), (.inr "amount", .ref L4), (.inr "exponent", .ref L5)] : List (Key × V)) (.inr nm)).getD (.ref Ld)) := getD_or (P := LstI Hg) (by
      intro kv hm
      simp only [List.mem_cons, List.not_mem_nil, or_false] at hm
      rcases hm with rfl | rfl | rfl | rfl | rfl
      · exact e1.same s6
      · exact e2.same s6
      · exact e3.same s6
      · exact e4.same s6
      · exact e5.same s6) ⟨Ld, [2 ^ (31 : Int).toNat, -(2 ^ (31 : Int).toNat) - 1, 2 ^ (32 : Int).toNat], rfl, h6, by decide⟩
    obtain ⟨p, ns, ep, hp, hl⟩ := gg
    refine ⟨_, DGet.k (k := .inr nm) (s6 _ _ hD4), ?_⟩
    rw [ep]
    walk_at "rl wp"
    rename_i T1 Hh n7 s7 h7 L6 Hi n8 s8 h8 L7 Hj n9 s9 h9
    have hpj : Hj p = some (.lst (ns.map V.int)) := by walk_at "rl hq"
    refine w_cat hpj h9 (by rw [List.length_map]; simp only [List.length_cons, List.length_nil]; omega) ?cat
    intro S0 Hk nS sS hS

    have dqS : DqAll Hk (fun b => b ≠ a) (ns.map V.int ++ [.non, .bl true, .str "1", .ref T1, .ref L6, .int 1, .int 0, .int 255, .int 7]) (ns.map PyData.int ++ [.none, .bool true, .str "1", .tuple [.int 1], .list [], .int 1, .int 0, .int 255, .int 7]) :=
      (dqI ns).app (.cons .non (.cons (.bl _) (.cons (.str _) (.cons (.tup (by walk_at "rl hq") (by walk_at "rl ne2") (.cons (.int _) .nil)) (.cons (.lst (by walk_at "rl hq") (by walk_at "rl ne2") .nil) (.cons (.int _) (.cons (.int _) (.cons (.int _) (.cons (.int _) .nil)))))))))
    have s0 : Same H Hj := by walk_at "rl same"
    have bgj : Bag Hj a n := Bag.same s0 hb
    have s0k : Same H Hk := s0.trans sS
    have bgk : Bag Hk a n := Bag.same s0k hb
    have neS : S0 ≠ a := Bag.neN nS bgj
    clear h6 h7 h8 h9 s6 s7 s8 s9 sS hpj hp e1 e2 e3 e4 e5 sH4 s0 hD4
    walk_at "rl wp"
    by_cases c1 : nm = "role"
    · subst c1
      refine iteT' rfl ?_
      walk_at "rl wp"
      rename_i T2 Hm n10 s10 h10 L8 Hn n11 s11 h11
      refine iteF' rfl ?_
      walk_at "rl wp"
      exact w_ofD (xs := [.str "Input", .str "", .non, .int 0, .ref T2, .str "feature", .str "open"]) (ds := [.str "Input", .str "", .none, .int 0, .tuple [.str "input"], .str "feature", .str "open"]) (by walk_at "rl bg") (by omega) h11 (by walk_at "rl ne2") (Nat.zero_lt_succ _) (Nat.lt_of_lt_of_le (Nat.lt_succ_self _) (Nat.le_of_ble_eq_true rfl)) (.cons (.str _) (.cons (.str _) (.cons .non (.cons (.int _) (.cons (.tup (by walk_at "rl hq") (by walk_at "rl ne2") (.cons (.str _) .nil)) (.cons (.str _) (.cons (.str _) .nil)))))))
        fun x d H' bt bg hx => q x d H' (But.trans (But.of_same (s0k.trans (s10.trans s11))) bt) (Bag.le bg (by omega)) hx
    refine iteF' (decide_eq_false c1) ?_
    walk_at "rl wp"
    by_cases c2 : nm = "usages"
    · subst c2
      refine iteT' rfl ?_
      walk_at "rl wp"
      refine w_repTN (xs := [.int 1]) ?r1 (fun z => nomatch z) (by decide) (by decide) (by decide) ?r1k
      case r1 => walk_at "rl hp"
      intro T7 Hu nu su hu
      walk_at "rl wp"
      refine w_repTN (xs := [.int 1]) ?r2 (fun z => nomatch z) (by decide) (by decide) (by decide) ?r2k
      case r2 => walk_at "rl hp"
      intro T9 Hv nv sv hv
      walk_at "rl wp"
      rename_i Sx Hz nz sz hz
      refine' w_ofD (n := n) ?wb ?wlt hz ?wne (Nat.zero_lt_succ _) (Nat.lt_of_lt_of_le (Nat.lt_succ_self _) (Nat.le_of_ble_eq_true rfl)) ?hdS ?wk
      case wlt => omega
      case hdS => exact (.cons (.lst (by walk_at "rl hq") (by walk_at "rl ne2") .nil) (.cons (.tup (by walk_at "rl hq") (by walk_at "rl ne2") (.cons .non .nil)) (.cons (.tup (by walk_at "rl hq") (by walk_at "rl ne2") (.cons (.bl _) .nil)) (.cons (.tup (by walk_at "rl hq") (by walk_at "rl ne2") (.cons (.int _) .nil)) (.cons (.tup (by walk_at "rl hq") (by walk_at "rl ne2") (.cons (.int _) .nil)) (.cons (.tup (by walk_at "rl hq") (by walk_at "rl ne2") (dqR1 _)) (.cons (.tup (by walk_at "rl hq") (by walk_at "rl ne2") (dqR1 _)) (.cons (.tup (by walk_at "rl hq") (by walk_at "rl ne2") .nil) (.cons (.tup (by walk_at "rl hq") (by walk_at "rl ne2") (.cons (.int _) .nil)) (.cons (.tup (by walk_at "rl hq") (by walk_at "rl ne2") (.cons (.int _) (.cons (.int _) .nil))) (.cons (.str _) (.cons .non (.cons (.tup (by walk_at "rl hq") (by walk_at "rl ne2") (.cons (.tup (by walk_at "rl hq") (by walk_at "rl ne2") (.cons (.int _) .nil)) .nil)) .nil)))))))))))))
      case wb => walk_at "rl bg"
      case wne => walk_at "rl ne2"
      intro x d H' bt bg hx
      exact q x d H' (But.trans (by walk_at "rl but") bt) (Bag.le bg (by omega)) hx
    refine iteF' (decide_eq_false c2) ?_
    walk_at "rl wp"
    exact w_ofD bgk (by omega) hS neS (by rw [List.length_append]; simp only [List.length_cons]; omega) (by rw [List.length_append, List.length_map]; simp only [List.length_cons, List.length_nil]; omega) dqS fun x d H' bt bg hx => q x d H' (But.trans (But.of_same s0k) bt) (Bag.le bg (by omega)) hx
end T16
end
section
set_option Elab.async false
set_option linter.all false
set_option maxRecDepth 100000
set_option maxHeartbeats 1000000
namespace T16
open PySem PySem.Spec PyProof.Rows L2 L2.RL
local macro_rules | `(tactic| walk_at "rl ty") => `(tactic| first
  | assumption
  | exact .base (.int _)
  | exact .base (.str _)
  | exact .base .non
  | exact .base (.bl _)
  | exact ty_sqT (by walk_at "rl hp")
  | exact ty_sqL (by walk_at "rl hp")
  | exact .base (.tup (by walk_at "rl hp"))
  | exact .base (.lst (by walk_at "rl hp"))
  | exact .base (.dK (by walk_at "rl hp")))
local macro_rules | `(tactic| walk_at "rl if") => `(tactic| first
  | with_reducible refine iteT' rfl ?_
  | with_reducible refine iteF' rfl ?_
  | (refine iteT' rfl ?_)
  | (refine iteF' rfl ?_))
local macro_rules | `(tactic| walk_at "rl side") => `(tactic| first | assumption | omega | (constructor <;> omega) | decide)
local macro_rules | `(tactic| walk_at "rl ne") => `(tactic| first
  | assumption
  | exact Ne.symm (by assumption)
  | walk_at "rl ne2"
  | exact ne_of (by assumption) (by walk_at "rl hq") (by intro z; cases z)
  | exact (ne_of (by assumption) (by walk_at "rl hq") (by intro z; cases z)).symm)
local macro_rules | `(tactic| walk_at "rl hq") => `(tactic| first
  | assumption
  | exact upd_same
  | (refine' upd_at ?rlne ?rlhq; (case rlne => walk_at "rl ne"); (case rlhq => walk_at "rl hq"))
  | (refine' Same.at ?rlsa ?rlhq; (case rlsa => assumption); (case rlhq => walk_at "rl hq"))
  | (refine' But.at ?rlbu ?rlne ?rlhq; (case rlbu => assumption); (case rlne => walk_at "rl ne"); (case rlhq => walk_at "rl hq")))
local macro_rules | `(tactic| walk_at "rl hp") => `(tactic| first
  | assumption
  | (refine' SqL.of ?rlhq; (case rlhq => walk_at "rl hq"))
  | (refine' SqT.of ?rlhq; (case rlhq => walk_at "rl hq"))
  | (refine' Same.seq ?rlsa ?rlhp; (case rlsa => assumption); (case rlhp => walk_at "rl hp"))
  | (refine' Same.sqT ?rlsa ?rlhp; (case rlsa => assumption); (case rlhp => walk_at "rl hp"))
  | walk_at "rl hp2"
  | walk_at "rl hq")
local macro_rules | `(tactic| walk_at "rl w1") => `(tactic| first
  | with_reducible refine w_seq ?_
  | ((with_reducible refine' w_var ?rlv ?_); (case rlv => exact rfl))
  | with_reducible refine w_c ?_
  | with_reducible refine w_op ?_
  | with_reducible refine w_I0 ?_
  | with_reducible refine w_asg ?_
  | ((with_reducible refine' w_gName ?_); dsimp only [List.set])
  | ((with_reducible refine' w_nxD ?rle ?_); (case rle => exact rfl))
  | ((with_reducible refine' w_rtD ?rle ?_); (case rle => exact rfl))
  | with_reducible refine w_next ?_
  | with_reducible refine w_ret ?_
  | with_reducible refine w_cons ?_
  | with_reducible refine w_nil ?_
  | with_reducible refine w_ifS ?_
  | with_reducible refine w_test ?_
  | with_reducible refine w_B ?_
  | with_reducible refine w_bl ?_
  | with_reducible refine w_bl1 ?_
  | with_reducible refine w_blR ?_
  | with_reducible refine w_eqI ?_
  | with_reducible refine w_neI ?_
  | with_reducible refine w_eqS ?_
  | with_reducible refine w_neS ?_
  | with_reducible refine w_eqB ?_
  | with_reducible refine w_neB ?_
  | with_reducible refine w_and ?_
  | with_reducible refine w_or ?_
  | with_reducible refine w_not ?_
  | with_reducible refine w_andV ?_
  | with_reducible refine w_orV ?_
  | with_reducible refine w_notV ?_
  | with_reducible refine w_if ?_
  | with_reducible refine w_chain ?_
  | with_reducible refine w_un ?_
  | with_reducible refine w_U ?_
  | ((with_reducible refine' w_I ?rlc ?_); (case rlc => walk_at "rl side"))
  | with_reducible refine w_drop ?_
  | with_reducible refine w_retN ?_
  | with_reducible refine w_par ?_
  | ((with_reducible refine' w_par2 ?_); dsimp only [List.set])
  | ((with_reducible refine' w_aug ?rla ?_); (case rla => exact rfl))
  | with_reducible refine w_ipI ?_
  | with_reducible refine w_break ?_
  | with_reducible refine w_cont ?_
  | ((with_reducible refine' w_bkD ?rle ?_); (case rle => exact rfl))
  | ((with_reducible refine' w_ctD ?rle ?_); (case rle => exact rfl))
  | with_reducible refine w_tup ?_
  | with_reducible refine w_lst ?_
  | ((with_reducible refine' w_newO ?rln ?_); (case rln => exact Nat.le_of_ble_eq_true rfl); intro _ _ _ _ _)
  | ((with_reducible refine' w_new ?rln ?_); (case rln => exact Nat.le_of_ble_eq_true rfl))
  | ((with_reducible refine' w_mk ?_); intro _ _ _ _ _)
  | ((with_reducible refine' w_gTup ?rls ?rll ?_); (case rls => walk_at "rl hp"); (case rll => exact rfl))
  | with_reducible refine w_gCons ?_
  | with_reducible refine w_gNil ?_
  | with_reducible refine w_gSub ?_
  | ((with_reducible refine' w_setL ?rls ?rlj ?_); (case rls => walk_at "rl hp"); (case rlj => exact rfl))
  | ((with_reducible refine' w_ixL ?rls ?rli ?_); (case rls => walk_at "rl hp"); (case rli => exact rfl))
  | ((with_reducible refine' w_ixT ?rls ?rli ?_); (case rls => walk_at "rl hp"); (case rli => exact rfl))
  | with_reducible refine w_call ?_
  | with_reducible refine w_trI ?_
  | with_reducible refine w_yes ?_
  | with_reducible refine w_trB ?_
  | with_reducible refine w_trN ?_
  | with_reducible refine w_cb ?_
  | with_reducible refine w_fld ?_
  | ((with_reducible refine' w_fld1 ?rlo ?rlc ?rln ?rll ?_); (case rlo => walk_at "rl hp"); (case rlc => assumption); (case rln => assumption); (case rll => exact rfl))
  | with_reducible refine w_isiO ?_
  | with_reducible refine w_isiT ?_
  | ((with_reducible refine' w_isi (r := true) ?rlt ?rlk ?_); (case rlt => walk_at "rl ty"); (case rlk => exact rfl))
  | ((with_reducible refine' w_isi (r := false) ?rlt ?rlk ?_); (case rlt => walk_at "rl ty"); (case rlk => exact rfl))
  | ((with_reducible refine' w_isi2 (r := true) ?rlT ?rlt ?rlk ?_); (case rlT => walk_at "rl hp"); (case rlt => walk_at "rl ty"); (case rlk => exact rfl))
  | ((with_reducible refine' w_isi2 (r := false) ?rlT ?rlt ?rlk ?_); (case rlT => walk_at "rl hp"); (case rlt => walk_at "rl ty"); (case rlk => exact rfl))
  | with_reducible refine w_sFld ?_
  | with_reducible refine w_itemsK ?_
  | ((with_reducible refine' w_catT ?rlha ?rlhb ?rln1 ?rln2 ?rlhl ?_); (case rlha => walk_at "rl hp"); (case rlhb => walk_at "rl hp"); (case rln1 => exact (fun z => nomatch z)); (case rln2 => exact (fun z => nomatch z)); (case rlhl => exact Nat.le_trans (Nat.le_of_ble_eq_true rfl) (show 100000 ≤ sizeLine by decide)))
  | ((with_reducible refine' w_newE ?_); intro _ _ _ _ _)
  | with_reducible refine w_makeK ?_
  | ((with_reducible refine' w_sFld1 ?rlc ?rln ?rll ?rle ?_); (case rlc => assumption); (case rln => assumption); (case rll => exact Nat.lt_of_lt_of_le (Nat.lt_succ_self _) (Nat.le_of_ble_eq_true rfl)); (case rle => exact rfl))
  | ((with_reducible refine' w_sFld0 ?rlx ?rlc ?rln ?rll ?rle ?_); (case rlx => walk_at "rl hq"); (case rlc => assumption); (case rln => assumption); (case rll => exact Nat.lt_of_lt_of_le (Nat.lt_succ_self _) (Nat.le_of_ble_eq_true rfl)); (case rle => exact rfl))
  | with_reducible refine w_rflA ?_
  | with_reducible refine w_for ?_
  | with_reducible refine w_iList ?_
  | with_reducible refine w_iTup ?_
  | ((with_reducible refine' w_overL ?rls ?_); (case rls => walk_at "rl hp"))
  | ((with_reducible refine' w_overT ?rls ?_); (case rls => walk_at "rl hp"))
  | with_reducible refine w_rng1 ?_
  | ((with_reducible refine' w_rng1a ?rl1 ?rl2 ?_); (case rl1 => omega); (case rl2 => omega))
  | with_reducible refine w_rng2 ?_
  | ((with_reducible refine' w_rng2a ?rl1 ?_); (case rl1 => omega))
  | with_reducible refine w_zip2 ?_
  | with_reducible refine w_lc ?_
  | with_reducible refine w_enS ?_
  | with_reducible refine w_callSD ?_
  | with_reducible refine w_xf ?_
  | ((with_reducible refine' w_dnew ?_); intro _ _ _ _ _)
  | ((with_reducible refine' w_disp1 ?_); intro _ _ _ _ _)
  | with_reducible refine w_bm ?_
  | ((with_reducible refine' w_tyL ?rls ?_); (case rls => walk_at "rl hp"))
  | ((with_reducible refine' w_append ?rls ?rll ?_); (case rls => walk_at "rl hq"); (case rll => exact Nat.lt_of_lt_of_le (Nat.lt_succ_self _) (Nat.le_of_ble_eq_true rfl)))
  | ((with_reducible refine' w_cat ?rls ?rlt ?rll ?_); (case rls => walk_at "rl hq"); (case rlt => walk_at "rl hq"); (case rll => exact Nat.le_of_ble_eq_true rfl); intro _ _ _ _ _)
  | with_reducible refine w_int1 ?_
  | ((with_reducible refine w_intb ?_); (try dsimp only))
  | with_reducible refine w_one ?_
  | with_reducible refine w_two ?_
  | ((with_reducible refine' w_lenL ?rls ?_); (case rls => walk_at "rl hp"))
  | ((with_reducible refine' w_lenT ?rls ?_); (case rls => walk_at "rl hp"))
  | with_reducible refine w_meth ?_
  | ((with_reducible refine' w_meth1 ?rlo ?rll ?_); (case rlo => walk_at "rl hp"); (case rll => exact rfl)))
local macro_rules | `(tactic| walk_at "rl wp") => `(tactic| (repeat walk_at "rl w1"))
local macro_rules | `(tactic| walk_at "rl but") => `(tactic| first
  | assumption
  | exact But.refl _ _
  | exact But.upd
  | exact But.of_same (by assumption)
  | (refine But.trans ?_ (But.of_same (by assumption)); walk_at "rl but")
  | (refine But.trans ?_ (by assumption : But _ _ _); walk_at "rl but")
  | (refine But.trans ?_ But.upd; walk_at "rl but"))
local macro_rules | `(tactic| walk_at "rl same") => `(tactic| first
  | assumption
  | exact Same.refl _
  | (refine Same.trans ?_ (by assumption : Same _ _); walk_at "rl same"))

local macro_rules | `(tactic| walk_at "rl wi") => `(tactic| (repeat (first
  | walk_at "rl w1"
  | ((with_reducible refine' iteF' ?rlif ?_); (case rlif => exact rfl))
  | ((with_reducible refine' iteT' ?rlif ?_); (case rlif => exact rfl)))))
local macro_rules | `(tactic| walk_at "rl ty") => `(tactic| exact .base (.dK (by assumption)))
local macro_rules | `(tactic| walk_at "rl ty") => `(tactic| exact .base (.lst (by assumption)))
local macro_rules | `(tactic| walk_at "rl ty") => `(tactic| exact .base (.tup (by assumption)))
local macro_rules | `(tactic| walk_at "rl w1") => `(tactic| first
  | with_reducible refine w_par3 ?_
  | ((with_reducible refine' w_par3a ?_); dsimp only [List.set])
  | with_reducible refine w_dget ?_
  | ((with_reducible refine' w_dgetS ?rls ?rlv ?_); (case rls => walk_at "rl hq"); (case rlv => exact rfl))
  | ((with_reducible refine' w_dgetI ?rls ?rlv ?_); (case rls => walk_at "rl hq"); (case rlv => exact rfl))
  | with_reducible refine w_dget2 ?_
  | ((with_reducible refine' w_isD ?rls ?_); (case rls => walk_at "rl hq"))
  | ((with_reducible refine' w_dget2S ?rls ?_); (case rls => walk_at "rl hq"))
  | ((with_reducible refine' w_dget2I ?rls ?_); (case rls => walk_at "rl hq"))
  | ((with_reducible refine' w_setDS ?rls ?rll ?rlm ?_); (case rls => walk_at "rl hq"); (case rll => exact Nat.lt_of_lt_of_le (Nat.lt_succ_self _) (Nat.le_of_ble_eq_true rfl)); (case rlm => exact rfl))
  | ((with_reducible refine' w_tyD ?rls ?_); (case rls => walk_at "rl hq"))
  | with_reducible refine w_jNil ?_
  | with_reducible refine w_jCons ?_
  | with_reducible refine w_prop ?_
  | with_reducible refine w_makeKS ?_
  | with_reducible refine w_pNil ?_
  | with_reducible refine w_pCons ?_
  | ((with_reducible refine' w_dispN ?_); intro _ _ _ _ _))

theorem w_dgS {H : Hp} {R : V → Prop} {a : Addr} {kvs : List (Key × V)} {i : Str} {v : V} (e : H a = some (.dK kvs)) (hv : valV kvs (.inr i) = some v) (h : R v) : ∃ a' v', V.ref a = .ref a' ∧ DGet H a' (.str i) (some v') ∧ R v' := ⟨a, v, rfl, by rw [← hv]; exact DGet.k (k := .inr i) e, h⟩
def tIfT (tc ta tb : L2.TT) : L2.TT := fun σ H Q => tc σ H fun k H1 => if k = true then ta σ H1 Q else tb σ H1 Q
theorem pt_ifT {X : Cx} {c a b : Expr} {pos : Pos} {tc ta tb : L2.TT} (hc : PT X c tc) (ha : PT X a ta) (hb : PT X b tb) : PT X (.IfExp c a b pos) (tIfT tc ta tb) := by
  refine ⟨fun pins s σ H Q I h => ?_⟩
  rw [PySem.isTrue]
  refine wpAny_bind (thn (hc.run pins s σ H _ I h) fun k s1 ⟨H1, I1, q1⟩ => ?_)
  cases k with
  | true =>
    rw [if_pos rfl] at q1 ⊢
    exact ha.run pins s1 σ H1 Q I1 q1
  | false =>
    rw [if_neg (by decide)] at q1 ⊢
    exact hb.run pins s1 σ H1 Q I1 q1
theorem w_ifT {σ : L2.St} {H : Hp} {tc ta tb : L2.TT} {R : Bool → Hp → Prop} (h : tc σ H fun k H1 => if k = true then ta σ H1 R else tb σ H1 R) : tIfT tc ta tb σ H R := h
theorem fresh_same {p : Addr} {H H1 : Hp} (s : Same H H1) (h : H1 p = none) : H p = none := by
  cases e : H p with
  | none => rfl
  | some o =>
    rw [s _ _ e] at h
    cases h
theorem w_noPart {σ : L2.St} {H : Hp} {R : Option Int → Hp → Prop} (h : R none H) : tNoPart σ H R := h
theorem w_part {σ : L2.St} {H : Hp} {te : TE} {R : Option Int → Hp → Prop} (h : te σ H fun x H1 => ∃ i, x = .int i ∧ R (some i) H1) : tPart te σ H R := h
theorem lastBad_still {f z m lo hi : Int} {k : Nat} (c : ¬ Builtin.bitAnd f 1 = 0) : lastBad f z m lo hi k = if k = 0 then none else some ("usages" : Str) := by
  unfold lastBad areUs
  rw [if_pos c, if_pos c]
  by_cases h : k = 0
  · rw [if_pos (decide_eq_true h), if_pos h]
  · rw [if_neg (by simpa using h), if_neg h]
theorem lastBad_rng {f z m lo hi : Int} {k : Nat} {s : Str} (c : Builtin.bitAnd f 1 = 0) (h : badRange lo hi z = some s) : lastBad f z m lo hi k = some s := by
  unfold lastBad
  rw [if_neg (fun z => z c), h]
theorem areUs_var {k : Nat} {f m c : Int} (c1 : Builtin.bitAnd f 1 = 0) (c2 : ¬ Builtin.bitAnd f 2 = 0) : areUs k f m c = decide ((k : Int) = m) := by
  unfold areUs
  rw [if_neg (fun z => z c1), if_pos c2]
theorem areUs_arr {k : Nat} {f m c : Int} (c1 : Builtin.bitAnd f 1 = 0) (c2 : Builtin.bitAnd f 2 = 0) : areUs k f m c = (decide (1 ≤ (k : Int)) && decide ((k : Int) ≤ c)) := by
  unfold areUs
  rw [if_neg (fun z => z c1), if_neg (fun z => z c2)]
theorem lastBad_go {f z m lo hi : Int} {k : Nat} (c : Builtin.bitAnd f 1 = 0) (h : badRange lo hi z = none) : lastBad f z m lo hi k = if areUs k f m (hi - lo + 1) = true then none else some ("usages" : Str) := by
  unfold lastBad
  rw [if_neg (fun z => z c), h]
theorem lastBad_var {f z m lo hi : Int} {k : Nat} (c : Builtin.bitAnd f 1 = 0) (h : badRange lo hi z = none) (c2 : ¬ Builtin.bitAnd f 2 = 0) : lastBad f z m lo hi k = if decide ((k : Int) = m) = true then none else some ("usages" : Str) := by
  rw [lastBad_go c h, areUs_var c c2]
theorem neg_text (b : Bool) : (if (!b) = true then ("usages" : Str) else "") = ((if b = true then none else some ("usages" : Str)).getD "") := by cases b <;> rfl
theorem lastBad_arr {f z m lo hi : Int} {k : Nat} (c : Builtin.bitAnd f 1 = 0) (h : badRange lo hi z = none) (c2 : Builtin.bitAnd f 2 = 0) : lastBad f z m lo hi k = if (decide (1 ≤ (k : Int)) && decide ((k : Int) ≤ hi - lo + 1)) = true then none else some ("usages" : Str) := by
  rw [lastBad_go c h, areUs_arr c c2]
def spFirst : Sp := fun vs H Q _ => ∃ (B : Addr → Prop) (d : Addr) (v : Fa) (ds : List PyData), vs = [.ref d] ∧ H d = some (.dK v.kv) ∧ DqAll H B v.all ds ∧ ∀ H', Same H H' → Q (.str ((badName ds).getD "")) H'
theorem pow_two {n : Int} (h : 0 < n) (h2 : n ≤ 32) : (1 : Int) * 2 ^ n.toNat = 2 * (1 * 2 ^ (n - 1).toNat) ∧ 1 ≤ (1 : Int) * 2 ^ (n - 1).toNat := by
  obtain ⟨k, rfl⟩ : ∃ k : Nat, n = k + 1 := ⟨(n - 1).toNat, by omega⟩
  have e1 : ((k : Int) + 1 - 1).toNat = k := by omega
  have e2 : ((k : Int) + 1).toNat = k + 1 := by omega
  rw [e1, e2, Int.pow_succ]
  have p0 : (0 : Int) < 2 ^ k := Int.pow_pos (by decide)
  omega
theorem pow_zero_ {n : Int} (h : n = 0) : (1 : Int) * 2 ^ n.toNat = 1 := by rw [h]; rfl
theorem low_bad {lo hi n M : Int} (h0 : 0 ≤ n) (h1 : n ≤ 32) (hM : M = 1 * 2 ^ n.toNat) (h : M ≤ lo ∨ (lo < 0 ∧ (M = 1 ∨ 2 * lo < -M))) : badRange lo hi n = some ("low" : Str) := by
  have e : fitsB lo n (decide (lo < 0)) = false := by
    by_cases c : lo < 0
    · unfold fitsB
      rw [decide_eq_true c, if_pos rfl]
      by_cases z : 0 < n
      · obtain ⟨a1, a2⟩ := pow_two z h1
        rw [decide_eq_false (show ¬ -(1 * 2 ^ (n - 1).toNat) ≤ lo by omega), Bool.false_and, Bool.and_false]
      · rw [decide_eq_false z, Bool.false_and]
    · unfold fitsB
      rw [decide_eq_false c, if_neg (by decide), decide_eq_false (show ¬ lo < 1 * 2 ^ n.toNat by omega), Bool.and_false]
  unfold badRange
  rw [e]
  rfl
theorem low_ok {lo n M : Int} (h0 : 0 ≤ n) (h1 : n ≤ 32) (hM : M = 1 * 2 ^ n.toNat) (h : ¬ (M ≤ lo ∨ (lo < 0 ∧ (M = 1 ∨ 2 * lo < -M)))) : fitsB lo n (decide (lo < 0)) = true := by
  by_cases c : lo < 0
  · unfold fitsB
    rw [decide_eq_true c, if_pos rfl]
    by_cases z : 0 < n
    · obtain ⟨a1, a2⟩ := pow_two z h1
      rw [decide_eq_true z, decide_eq_true (show -(1 * 2 ^ (n - 1).toNat) ≤ lo by omega), decide_eq_true (show lo < 1 * 2 ^ (n - 1).toNat by omega)]
      rfl
    · have e := pow_zero_ (show n = 0 by omega)
      omega
  · unfold fitsB
    rw [decide_eq_false c, if_neg (by decide), decide_eq_true (show lo < 1 * 2 ^ n.toNat by omega), decide_eq_true (show 0 ≤ lo by omega)]
    rfl
theorem high_bad {lo hi n M : Int} (h0 : 0 ≤ n) (h1 : n ≤ 32) (hM : M = 1 * 2 ^ n.toNat) (h : ¬ (M ≤ lo ∨ (lo < 0 ∧ (M = 1 ∨ 2 * lo < -M)))) (g : hi < lo ∨ (lo < 0 ∧ M ≤ 2 * hi) ∨ (¬ lo < 0 ∧ M ≤ hi)) : badRange lo hi n = some ("high" : Str) := by
  have e : (decide (lo ≤ hi) && fitsB hi n (decide (lo < 0))) = false := by
    by_cases d : lo ≤ hi
    · rw [decide_eq_true d, Bool.true_and]
      by_cases c : lo < 0
      · unfold fitsB
        rw [decide_eq_true c, if_pos rfl]
        by_cases z : 0 < n
        · obtain ⟨a1, a2⟩ := pow_two z h1
          rw [decide_eq_false (show ¬ hi < 1 * 2 ^ (n - 1).toNat by omega), Bool.and_false, Bool.and_false]
        · rw [decide_eq_false z, Bool.false_and]
      · unfold fitsB
        rw [decide_eq_false c, if_neg (by decide), decide_eq_false (show ¬ hi < 1 * 2 ^ n.toNat by omega), Bool.and_false]
    · rw [decide_eq_false d, Bool.false_and]
  unfold badRange
  rw [low_ok h0 h1 hM h, e]
  rfl
theorem range_good {lo hi n M : Int} (h0 : 0 ≤ n) (h1 : n ≤ 32) (hM : M = 1 * 2 ^ n.toNat) (h : ¬ (M ≤ lo ∨ (lo < 0 ∧ (M = 1 ∨ 2 * lo < -M)))) (g : ¬ (hi < lo ∨ (lo < 0 ∧ M ≤ 2 * hi) ∨ (¬ lo < 0 ∧ M ≤ hi))) : badRange lo hi n = none := by
  have e : (decide (lo ≤ hi) && fitsB hi n (decide (lo < 0))) = true := by
    rw [decide_eq_true (show lo ≤ hi by omega), Bool.true_and]
    by_cases c : lo < 0
    · unfold fitsB
      rw [decide_eq_true c, if_pos rfl]
      by_cases z : 0 < n
      · obtain ⟨a1, a2⟩ := pow_two z h1
        rw [decide_eq_true z, decide_eq_true (show hi < 1 * 2 ^ (n - 1).toNat by omega), decide_eq_true (show -(1 * 2 ^ (n - 1).toNat) ≤ hi by omega)]
        rfl
      · have e := pow_zero_ (show n = 0 by omega)
        omega
    · unfold fitsB
      rw [decide_eq_false c, if_neg (by decide), decide_eq_true (show hi < 1 * 2 ^ n.toNat by omega), decide_eq_true (show 0 ≤ hi by omega)]
      rfl
  unfold badRange
  rw [low_ok h0 h1 hM h, e]
  rfl
theorem still_in {f : Int} (h0 : 0 ≤ f) (h1 : f ≤ 7) : (if false = true then !inV (.int f) [V.int 1, V.int 3, V.int 5, V.int 7] else inV (.int f) [V.int 1, V.int 3, V.int 5, V.int 7]) = decide (Builtin.bitAnd f 1 ≠ 0) := by
  rcases (show f = 0 ∨ f = 1 ∨ f = 2 ∨ f = 3 ∨ f = 4 ∨ f = 5 ∨ f = 6 ∨ f = 7 by omega) with rfl | rfl | rfl | rfl | rfl | rfl | rfl | rfl <;> decide +kernel
theorem var_in {f : Int} (h0 : 0 ≤ f) (h1 : f ≤ 7) (h : Builtin.bitAnd f 1 = 0) : (if false = true then !inV (.int f) [V.int 2, V.int 6] else inV (.int f) [V.int 2, V.int 6]) = decide (Builtin.bitAnd f 2 ≠ 0) := by
  rcases (show f = 0 ∨ f = 1 ∨ f = 2 ∨ f = 3 ∨ f = 4 ∨ f = 5 ∨ f = 6 ∨ f = 7 by omega) with rfl | rfl | rfl | rfl | rfl | rfl | rfl | rfl <;> first | decide +kernel | exact absurd h (by decide +kernel)
theorem w_slL {K : PySem.W.Frag} {σ : L2.St} {H : Hp} {Q : VK} {te : TE} {tl th : TO} (h : te σ H fun x H1 => tl σ H1 fun l H2 => th σ H2 fun u H3 => rSlL K x l u H3 Q) : tSl (rSlL K) te tl th σ H Q := h
theorem us_text (b : Bool) : (repS "usages" (if b = true then (1 : Int) else 0).toNat : Str) = if b = true then ("usages" : Str) else "" := by cases b <;> decide +kernel
theorem DqAll.sameA {H H' : Hp} {B : Addr → Prop} {xs : List V} {ds : List PyData} (s : Same H H') (h : DqAll H B xs ds) : DqAll H' B xs ds := Dq.keepAll (fun b o n e => ⟨s _ _ e, n⟩) _ _ h
theorem sc__law_is_from : FnScope ["_law_thing", "_law_begin", "_law_end"] ["_law_thing", "_law_begin", "_law_end"] (defScope (top 26)) := ⟨rfl, rfl, rfl, by decide +kernel, rfl, by decide +kernel, by decide +kernel⟩
theorem ok__law_is_from {P : Program} {w : World} {K : PySem.W.Frag} {mg : Str → Option Value} {base : Heap} (T : TT K mg)    : Ld P w K mg base CX0 1 "_law_is_from" ["_law_thing", "_law_begin", "_law_end"] [] (spIsInt) := by
  obtain ⟨fd, F⟩ := T.d__law_is_from
  refine ⟨⟨fd, [], F.ok sc__law_is_from (fun vs H Q E h => ?_) (fun cdv A outer s H vs Q E hr h => ?_), FunD.bindsN F (fun _ _ _ _ _ _ us hl => match us, hl with | [_, _, _], _ => rfl), .nil⟩, T.g__law_is_from, F.kp⟩
  · obtain ⟨B, x, d, lo, hi, rfl, _⟩ := h
    rfl
  · obtain ⟨B, x, d, lo, hi, rfl, hd, q⟩ := h
    refine ⟨_, PSs.nox ((pss_one (ps_ret (pe_and (pe_callB call_isi (by rfl) T.m_isinstance (by decide +kernel) (pa_cons (pv 0) (pa_cons (pe_bltn (v := .ty "int") (by rfl) T.m_int (by decide +kernel) rfl) pa_nil))) (pe_and (pe_not (pe_callB call_isi (by rfl) T.m_isinstance (by decide +kernel) (pa_cons (pv 0) (pa_cons (pe_bltn (v := .ty "bool") (by rfl) T.m_bool (by decide +kernel) rfl) pa_nil)))) (pe_one (pe_chain op_le op_le (pv 1) (pv 0) (pv 2)))))))), ?_⟩; rw [start_3_3]; try dsimp only [cxOf]
    cases hd with
    | int i =>
      walk_at "rl wi"
      refine ite_dec (fun c => ?_) (fun c => ?_)
      · walk_at "rl wi"
        rw [show inI (.int i) lo hi = decide (i ≤ hi) from by rw [inI_int, decide_eq_true c]; rfl] at q
        exact q
      · walk_at "rl wi"
        rw [show inI (.int i) lo hi = false from by rw [inI_int, decide_eq_false c]; rfl] at q
        exact q
    | _ => walk_at "rl wi"; exact q
end T16
end
section
set_option Elab.async false
set_option linter.all false
set_option maxRecDepth 100000
set_option maxHeartbeats 1000000
namespace T16
open PySem PySem.Spec PyProof.Rows L2 L2.RL
local macro_rules | `(tactic| walk_at "rl ty") => `(tactic| first
  | assumption
  | exact .base (.int _)
  | exact .base (.str _)
  | exact .base .non
  | exact .base (.bl _)
  | exact ty_sqT (by walk_at "rl hp")
  | exact ty_sqL (by walk_at "rl hp")
  | exact .base (.tup (by walk_at "rl hp"))
  | exact .base (.lst (by walk_at "rl hp"))
  | exact .base (.dK (by walk_at "rl hp")))
local macro_rules | `(tactic| walk_at "rl if") => `(tactic| first
  | with_reducible refine iteT' rfl ?_
  | with_reducible refine iteF' rfl ?_
  | (refine iteT' rfl ?_)
  | (refine iteF' rfl ?_))
local macro_rules | `(tactic| walk_at "rl side") => `(tactic| first | assumption | omega | (constructor <;> omega) | decide)
local macro_rules | `(tactic| walk_at "rl ne") => `(tactic| first
  | assumption
  | exact Ne.symm (by assumption)
  | walk_at "rl ne2"
  | exact ne_of (by assumption) (by walk_at "rl hq") (by intro z; cases z)
  | exact (ne_of (by assumption) (by walk_at "rl hq") (by intro z; cases z)).symm)
local macro_rules | `(tactic| walk_at "rl hq") => `(tactic| first
  | assumption
  | exact upd_same
  | (refine' upd_at ?rlne ?rlhq; (case rlne => walk_at "rl ne"); (case rlhq => walk_at "rl hq"))
  | (refine' Same.at ?rlsa ?rlhq; (case rlsa => assumption); (case rlhq => walk_at "rl hq"))
  | (refine' But.at ?rlbu ?rlne ?rlhq; (case rlbu => assumption); (case rlne => walk_at "rl ne"); (case rlhq => walk_at "rl hq")))
local macro_rules | `(tactic| walk_at "rl hp") => `(tactic| first
  | assumption
  | (refine' SqL.of ?rlhq; (case rlhq => walk_at "rl hq"))
  | (refine' SqT.of ?rlhq; (case rlhq => walk_at "rl hq"))
  | (refine' Same.seq ?rlsa ?rlhp; (case rlsa => assumption); (case rlhp => walk_at "rl hp"))
  | (refine' Same.sqT ?rlsa ?rlhp; (case rlsa => assumption); (case rlhp => walk_at "rl hp"))
  | walk_at "rl hp2"
  | walk_at "rl hq")
local macro_rules | `(tactic| walk_at "rl w1") => `(tactic| first
  | with_reducible refine w_seq ?_
  | ((with_reducible refine' w_var ?rlv ?_); (case rlv => exact rfl))
  | with_reducible refine w_c ?_
  | with_reducible refine w_op ?_
  | with_reducible refine w_I0 ?_
  | with_reducible refine w_asg ?_
  | ((with_reducible refine' w_gName ?_); dsimp only [List.set])
  | ((with_reducible refine' w_nxD ?rle ?_); (case rle => exact rfl))
  | ((with_reducible refine' w_rtD ?rle ?_); (case rle => exact rfl))
  | with_reducible refine w_next ?_
  | with_reducible refine w_ret ?_
  | with_reducible refine w_cons ?_
  | with_reducible refine w_nil ?_
  | with_reducible refine w_ifS ?_
  | with_reducible refine w_test ?_
  | with_reducible refine w_B ?_
  | with_reducible refine w_bl ?_
  | with_reducible refine w_bl1 ?_
  | with_reducible refine w_blR ?_
  | with_reducible refine w_eqI ?_
  | with_reducible refine w_neI ?_
  | with_reducible refine w_eqS ?_
  | with_reducible refine w_neS ?_
  | with_reducible refine w_eqB ?_
  | with_reducible refine w_neB ?_
  | with_reducible refine w_and ?_
  | with_reducible refine w_or ?_
  | with_reducible refine w_not ?_
  | with_reducible refine w_andV ?_
  | with_reducible refine w_orV ?_
  | with_reducible refine w_notV ?_
  | with_reducible refine w_if ?_
  | with_reducible refine w_chain ?_
  | with_reducible refine w_un ?_
  | with_reducible refine w_U ?_
  | ((with_reducible refine' w_I ?rlc ?_); (case rlc => walk_at "rl side"))
  | with_reducible refine w_drop ?_
  | with_reducible refine w_retN ?_
  | with_reducible refine w_par ?_
  | ((with_reducible refine' w_par2 ?_); dsimp only [List.set])
  | ((with_reducible refine' w_aug ?rla ?_); (case rla => exact rfl))
  | with_reducible refine w_ipI ?_
  | with_reducible refine w_break ?_
  | with_reducible refine w_cont ?_
  | ((with_reducible refine' w_bkD ?rle ?_); (case rle => exact rfl))
  | ((with_reducible refine' w_ctD ?rle ?_); (case rle => exact rfl))
  | with_reducible refine w_tup ?_
  | with_reducible refine w_lst ?_
  | ((with_reducible refine' w_newO ?rln ?_); (case rln => exact Nat.le_of_ble_eq_true rfl); intro _ _ _ _ _)
  | ((with_reducible refine' w_new ?rln ?_); (case rln => exact Nat.le_of_ble_eq_true rfl))
  | ((with_reducible refine' w_mk ?_); intro _ _ _ _ _)
  | ((with_reducible refine' w_gTup ?rls ?rll ?_); (case rls => walk_at "rl hp"); (case rll => exact rfl))
  | with_reducible refine w_gCons ?_
  | with_reducible refine w_gNil ?_
  | with_reducible refine w_gSub ?_
  | ((with_reducible refine' w_setL ?rls ?rlj ?_); (case rls => walk_at "rl hp"); (case rlj => exact rfl))
  | ((with_reducible refine' w_ixL ?rls ?rli ?_); (case rls => walk_at "rl hp"); (case rli => exact rfl))
  | ((with_reducible refine' w_ixT ?rls ?rli ?_); (case rls => walk_at "rl hp"); (case rli => exact rfl))
  | with_reducible refine w_call ?_
  | with_reducible refine w_trI ?_
  | with_reducible refine w_yes ?_
  | with_reducible refine w_trB ?_
  | with_reducible refine w_trN ?_
  | with_reducible refine w_cb ?_
  | with_reducible refine w_fld ?_
  | ((with_reducible refine' w_fld1 ?rlo ?rlc ?rln ?rll ?_); (case rlo => walk_at "rl hp"); (case rlc => assumption); (case rln => assumption); (case rll => exact rfl))
  | with_reducible refine w_isiO ?_
  | with_reducible refine w_isiT ?_
  | ((with_reducible refine' w_isi (r := true) ?rlt ?rlk ?_); (case rlt => walk_at "rl ty"); (case rlk => exact rfl))
  | ((with_reducible refine' w_isi (r := false) ?rlt ?rlk ?_); (case rlt => walk_at "rl ty"); (case rlk => exact rfl))
  | ((with_reducible refine' w_isi2 (r := true) ?rlT ?rlt ?rlk ?_); (case rlT => walk_at "rl hp"); (case rlt => walk_at "rl ty"); (case rlk => exact rfl))
  | ((with_reducible refine' w_isi2 (r := false) ?rlT ?rlt ?rlk ?_); (case rlT => walk_at "rl hp"); (case rlt => walk_at "rl ty"); (case rlk => exact rfl))
  | with_reducible refine w_sFld ?_
  | with_reducible refine w_itemsK ?_
  | ((with_reducible refine' w_catT ?rlha ?rlhb ?rln1 ?rln2 ?rlhl ?_); (case rlha => walk_at "rl hp"); (case rlhb => walk_at "rl hp"); (case rln1 => exact (fun z => nomatch z)); (case rln2 => exact (fun z => nomatch z)); (case rlhl => exact Nat.le_trans (Nat.le_of_ble_eq_true rfl) (show 100000 ≤ sizeLine by decide)))
  | ((with_reducible refine' w_newE ?_); intro _ _ _ _ _)
  | with_reducible refine w_makeK ?_
  | ((with_reducible refine' w_sFld1 ?rlc ?rln ?rll ?rle ?_); (case rlc => assumption); (case rln => assumption); (case rll => exact Nat.lt_of_lt_of_le (Nat.lt_succ_self _) (Nat.le_of_ble_eq_true rfl)); (case rle => exact rfl))
  | ((with_reducible refine' w_sFld0 ?rlx ?rlc ?rln ?rll ?rle ?_); (case rlx => walk_at "rl hq"); (case rlc => assumption); (case rln => assumption); (case rll => exact Nat.lt_of_lt_of_le (Nat.lt_succ_self _) (Nat.le_of_ble_eq_true rfl)); (case rle => exact rfl))
  | with_reducible refine w_rflA ?_
  | with_reducible refine w_for ?_
  | with_reducible refine w_iList ?_
  | with_reducible refine w_iTup ?_
  | ((with_reducible refine' w_overL ?rls ?_); (case rls => walk_at "rl hp"))
  | ((with_reducible refine' w_overT ?rls ?_); (case rls => walk_at "rl hp"))
  | with_reducible refine w_rng1 ?_
  | ((with_reducible refine' w_rng1a ?rl1 ?rl2 ?_); (case rl1 => omega); (case rl2 => omega))
  | with_reducible refine w_rng2 ?_
  | ((with_reducible refine' w_rng2a ?rl1 ?_); (case rl1 => omega))
  | with_reducible refine w_zip2 ?_
  | with_reducible refine w_lc ?_
  | with_reducible refine w_enS ?_
  | with_reducible refine w_callSD ?_
  | with_reducible refine w_xf ?_
  | ((with_reducible refine' w_dnew ?_); intro _ _ _ _ _)
  | ((with_reducible refine' w_disp1 ?_); intro _ _ _ _ _)
  | with_reducible refine w_bm ?_
  | ((with_reducible refine' w_tyL ?rls ?_); (case rls => walk_at "rl hp"))
  | ((with_reducible refine' w_append ?rls ?rll ?_); (case rls => walk_at "rl hq"); (case rll => exact Nat.lt_of_lt_of_le (Nat.lt_succ_self _) (Nat.le_of_ble_eq_true rfl)))
  | ((with_reducible refine' w_cat ?rls ?rlt ?rll ?_); (case rls => walk_at "rl hq"); (case rlt => walk_at "rl hq"); (case rll => exact Nat.le_of_ble_eq_true rfl); intro _ _ _ _ _)
  | with_reducible refine w_int1 ?_
  | ((with_reducible refine w_intb ?_); (try dsimp only))
  | with_reducible refine w_one ?_
  | with_reducible refine w_two ?_
  | ((with_reducible refine' w_lenL ?rls ?_); (case rls => walk_at "rl hp"))
  | ((with_reducible refine' w_lenT ?rls ?_); (case rls => walk_at "rl hp"))
  | with_reducible refine w_meth ?_
  | ((with_reducible refine' w_meth1 ?rlo ?rll ?_); (case rlo => walk_at "rl hp"); (case rll => exact rfl)))
local macro_rules | `(tactic| walk_at "rl wp") => `(tactic| (repeat walk_at "rl w1"))
local macro_rules | `(tactic| walk_at "rl but") => `(tactic| first
  | assumption
  | exact But.refl _ _
  | exact But.upd
  | exact But.of_same (by assumption)
  | (refine But.trans ?_ (But.of_same (by assumption)); walk_at "rl but")
  | (refine But.trans ?_ (by assumption : But _ _ _); walk_at "rl but")
  | (refine But.trans ?_ But.upd; walk_at "rl but"))
local macro_rules | `(tactic| walk_at "rl same") => `(tactic| first
  | assumption
  | exact Same.refl _
  | (refine Same.trans ?_ (by assumption : Same _ _); walk_at "rl same"))

local macro_rules | `(tactic| walk_at "rl wi") => `(tactic| (repeat (first
  | walk_at "rl w1"
  | ((with_reducible refine' iteF' ?rlif ?_); (case rlif => exact rfl))
  | ((with_reducible refine' iteT' ?rlif ?_); (case rlif => exact rfl)))))
local macro_rules | `(tactic| walk_at "rl ty") => `(tactic| exact .base (.dK (by assumption)))
local macro_rules | `(tactic| walk_at "rl ty") => `(tactic| exact .base (.lst (by assumption)))
local macro_rules | `(tactic| walk_at "rl ty") => `(tactic| exact .base (.tup (by assumption)))
local macro_rules | `(tactic| walk_at "rl w1") => `(tactic| first
  | with_reducible refine w_par3 ?_
  | ((with_reducible refine' w_par3a ?_); dsimp only [List.set])
  | with_reducible refine w_dget ?_
  | ((with_reducible refine' w_dgetS ?rls ?rlv ?_); (case rls => walk_at "rl hq"); (case rlv => exact rfl))
  | ((with_reducible refine' w_dgetI ?rls ?rlv ?_); (case rls => walk_at "rl hq"); (case rlv => exact rfl))
  | with_reducible refine w_dget2 ?_
  | ((with_reducible refine' w_isD ?rls ?_); (case rls => walk_at "rl hq"))
  | ((with_reducible refine' w_dget2S ?rls ?_); (case rls => walk_at "rl hq"))
  | ((with_reducible refine' w_dget2I ?rls ?_); (case rls => walk_at "rl hq"))
  | ((with_reducible refine' w_setDS ?rls ?rll ?rlm ?_); (case rls => walk_at "rl hq"); (case rll => exact Nat.lt_of_lt_of_le (Nat.lt_succ_self _) (Nat.le_of_ble_eq_true rfl)); (case rlm => exact rfl))
  | ((with_reducible refine' w_tyD ?rls ?_); (case rls => walk_at "rl hq"))
  | with_reducible refine w_jNil ?_
  | with_reducible refine w_jCons ?_
  | with_reducible refine w_prop ?_
  | with_reducible refine w_makeKS ?_
  | with_reducible refine w_pNil ?_
  | with_reducible refine w_pCons ?_
  | ((with_reducible refine' w_dispN ?_); intro _ _ _ _ _))

local macro_rules | `(tactic| walk_at "rl w1") => `(tactic| with_reducible refine w_ifT ?_)
local macro_rules | `(tactic| walk_at "rl w1") => `(tactic| ((with_reducible refine' w_dispP ?_); intro _ _ _ _ _))
local macro_rules | `(tactic| walk_at "rl w1") => `(tactic| ((with_reducible refine' w_dgS ?rls ?rlv ?_); (case rls => walk_at "rl hq"); (case rlv => exact rfl)))

def spTold (K : PySem.W.Frag) : Sp := fun vs H Q _ => ∃ (B : Addr → Prop) (d : Addr) (v : Fa) (ds : List PyData), vs = [.ref d] ∧ H d = some (.dK v.kv) ∧ DqAll H B v.all ds ∧ (badName ds = none → ∀ f H', Same H H' → FldAt K H' f v → Q (.ref f) H') ∧ (∀ s, badName ds = some s → ∀ H', Same H H' → Q (.str s) H')
theorem sc__law_told_field : FnScope ["_law_found", "e"] ["_law_found"] (defScope (top 28)) := ⟨rfl, rfl, rfl, by decide +kernel, rfl, by decide +kernel, by decide +kernel⟩
theorem ok__law_told_field {P : Program} {w : World} {K : PySem.W.Frag} {mg : Str → Option Value} {base : Heap} (T : TT K mg) (D_mk_Field : Li P w K mg base (L2.CX P w) 4 (spIni K))   : Ld P w K mg base CX0 6 "_law_told_field" ["_law_found"] [] (spTold K) := by
  obtain ⟨fd_Field, F_Field, FD_Field⟩ := D_mk_Field.ex
  obtain ⟨g1_Field, b1_Field⟩ := kb1 T FD_Field
  obtain ⟨g2_Field, b2_Field⟩ := kb2 T FD_Field
  obtain ⟨g3_Field, b3_Field⟩ := kb3 T FD_Field
  obtain ⟨fd, F⟩ := T.d__law_told_field
  refine ⟨⟨fd, [], F.ok sc__law_told_field (fun vs H Q E h => ?_) (fun cdv A outer s H vs Q E hr h => ?_), FunD.bindsN F (fun _ _ _ _ _ _ us hl => match us, hl with | [_], _ => rfl), .nil⟩, T.g__law_told_field, F.kp⟩
  · obtain ⟨B, d, v, ds, rfl, _⟩ := h
    rfl
  · obtain ⟨B, d, v, ds, rfl, hd, hq, q1, q2⟩ := h
    obtain ⟨x0, x1, x2, x3, x4, x5, x6, x7, x8, x9, x10, x11⟩ := v
    refine ⟨_, PSs.nox ((pss_one (ps_try_as (i := 1) rfl rfl sc__law_told_field.nd rfl rfl ⟨by rfl, by decide, .inl T.g_BadField⟩ takes0 (fun W pn xe tk _ => (pss_one (ps_ret (pe_makeKS (E := WE W) T.mk_Field F_Field hr (by rfl) T.g_Field b1_Field (fun σ => passAt tk σ) (pa_cons (pe_dget (room_u1 hr) (pv 0) pe_str (fun _ _ => rfl)) pa_nil) (pk_cons (pe_dget (room_u1 hr) (pv 0) pe_str (fun _ _ => rfl)) (pk_cons (pe_dget (room_u1 hr) (pv 0) pe_str (fun _ _ => rfl)) (pk_cons (pe_dget (room_u1 hr) (pv 0) pe_str (fun _ _ => rfl)) (pk_cons (pe_dget (room_u1 hr) (pv 0) pe_str (fun _ _ => rfl)) (pk_cons (pe_dget (room_u1 hr) (pv 0) pe_str (fun _ _ => rfl)) (pk_cons (pe_dget (room_u1 hr) (pv 0) pe_str (fun _ _ => rfl)) (pk_cons (pe_dget (room_u1 hr) (pv 0) pe_str (fun _ _ => rfl)) (pk_cons (pe_dget (room_u1 hr) (pv 0) pe_str (fun _ _ => rfl)) (pk_cons (pe_dget (room_u1 hr) (pv 0) pe_str (fun _ _ => rfl)) (pk_cons (pe_dget (room_u1 hr) (pv 0) pe_str (fun _ _ => rfl)) (pk_cons (pe_dget (room_u1 hr) (pv 0) pe_str (fun _ _ => rfl)) pk_nil))))))))))))))) (fun a oe cls d pn hz hf => (pss_one (ps_ret (pe_ifExp (PW.pt (pw_and (pt_val (pe_callB (call_isX T.xi_BadField hz hf) (by rfl) T.m_isinstance (by decide +kernel) (pa_cons (pv 1) (pa_cons (pe_bltn (v := .ty "ValueError") (by rfl) T.m_ValueError (by decide +kernel) rfl) pa_nil)))) (pw_and1 (pt_not (pt_val (pe_callB (call_isX T.xi_BadField hz hf) (by rfl) T.m_isinstance (by decide +kernel) (pa_cons (pv 1) (pa_cons (pe_glob rfl (T.g_BadEntry) (show RelV (.ref (He.ga K "BadEntry")) _ from rfl)) pa_nil)))))))) (pe_xf T.xf_BadField T.xn_BadField_name hz hf (pv 1)) pe_str))))))), ?_⟩; rw [start_2_1]; try dsimp only [cxOf]
    walk_at "rl wp"
    refine ⟨rfl, rfl, fun x dx nx ndx ne => ?_⟩
    refine ⟨fun b => H b ≠ none, x, dx, ⟨x0, x1, x2, x3, x4, x5, x6, x7, x8, x9, x10, x11⟩, ds, rfl, upd_same, fun b hb e => hb (by rw [e]; exact nx), V12.of (Dq.keepAll (fun a o n e => ⟨by rw [upd_ne (ne_of_none e nx), upd_ne (ne_of_none e ndx)]; exact e, by rw [e]; exact fun z => nomatch z⟩) _ _ hq), fun hb H' b fa => ?_, fun s hb e H' b ne2 he => ?_⟩
    · refine ⟨rfl, ?_⟩
      walk_at "rl wp"
      exact q1 hb x H' (make_same nx ndx b) fa
    refine ⟨true, T.em_BadField, fun _ e0 ne' => ?_, fun z => nomatch z⟩
    walk_at "rl wp"
    refine ⟨_, _, true, e, _, rfl, rfl, rfl, he, fun u r => r, T.ki_BadField, ?_⟩
    dsimp only [List.set]
    walk_at "rl wi"
    refine ⟨_, _, false, e, _, rfl, rfl, rfl, he, fun u r => r, T.nk_BadField_BadEntry, ?_⟩
    walk_at "rl wi"
    refine ⟨rfl, e, _, _, rfl, he, rfl, ?_⟩
    walk_at "rl wp"
    exact q2 s hb _ (make_same nx ndx b)
end T16
end
section
set_option Elab.async false
set_option linter.all false
set_option maxRecDepth 100000
set_option maxHeartbeats 1000000
namespace T16
open PySem PySem.Spec PyProof.Rows L2 L2.RL
local macro_rules | `(tactic| walk_at "rl ty") => `(tactic| first
  | assumption
  | exact .base (.int _)
  | exact .base (.str _)
  | exact .base .non
  | exact .base (.bl _)
  | exact ty_sqT (by walk_at "rl hp")
  | exact ty_sqL (by walk_at "rl hp")
  | exact .base (.tup (by walk_at "rl hp"))
  | exact .base (.lst (by walk_at "rl hp"))
  | exact .base (.dK (by walk_at "rl hp")))
local macro_rules | `(tactic| walk_at "rl if") => `(tactic| first
  | with_reducible refine iteT' rfl ?_
  | with_reducible refine iteF' rfl ?_
  | (refine iteT' rfl ?_)
  | (refine iteF' rfl ?_))
local macro_rules | `(tactic| walk_at "rl side") => `(tactic| first | assumption | omega | (constructor <;> omega) | decide)
local macro_rules | `(tactic| walk_at "rl ne") => `(tactic| first
  | assumption
  | exact Ne.symm (by assumption)
  | walk_at "rl ne2"
  | exact ne_of (by assumption) (by walk_at "rl hq") (by intro z; cases z)
  | exact (ne_of (by assumption) (by walk_at "rl hq") (by intro z; cases z)).symm)
local macro_rules | `(tactic| walk_at "rl hq") => `(tactic| first
  | assumption
  | exact upd_same
  | (refine' upd_at ?rlne ?rlhq; (case rlne => walk_at "rl ne"); (case rlhq => walk_at "rl hq"))
  | (refine' Same.at ?rlsa ?rlhq; (case rlsa => assumption); (case rlhq => walk_at "rl hq"))
  | (refine' But.at ?rlbu ?rlne ?rlhq; (case rlbu => assumption); (case rlne => walk_at "rl ne"); (case rlhq => walk_at "rl hq")))
local macro_rules | `(tactic| walk_at "rl hp") => `(tactic| first
  | assumption
  | (refine' SqL.of ?rlhq; (case rlhq => walk_at "rl hq"))
  | (refine' SqT.of ?rlhq; (case rlhq => walk_at "rl hq"))
  | (refine' Same.seq ?rlsa ?rlhp; (case rlsa => assumption); (case rlhp => walk_at "rl hp"))
  | (refine' Same.sqT ?rlsa ?rlhp; (case rlsa => assumption); (case rlhp => walk_at "rl hp"))
  | walk_at "rl hp2"
  | walk_at "rl hq")
local macro_rules | `(tactic| walk_at "rl w1") => `(tactic| first
  | with_reducible refine w_seq ?_
  | ((with_reducible refine' w_var ?rlv ?_); (case rlv => exact rfl))
  | with_reducible refine w_c ?_
  | with_reducible refine w_op ?_
  | with_reducible refine w_I0 ?_
  | with_reducible refine w_asg ?_
  | ((with_reducible refine' w_gName ?_); dsimp only [List.set])
  | ((with_reducible refine' w_nxD ?rle ?_); (case rle => exact rfl))
  | ((with_reducible refine' w_rtD ?rle ?_); (case rle => exact rfl))
  | with_reducible refine w_next ?_
  | with_reducible refine w_ret ?_
  | with_reducible refine w_cons ?_
  | with_reducible refine w_nil ?_
  | with_reducible refine w_ifS ?_
  | with_reducible refine w_test ?_
  | with_reducible refine w_B ?_
  | with_reducible refine w_bl ?_
  | with_reducible refine w_bl1 ?_
  | with_reducible refine w_blR ?_
  | with_reducible refine w_eqI ?_
  | with_reducible refine w_neI ?_
  | with_reducible refine w_eqS ?_
  | with_reducible refine w_neS ?_
  | with_reducible refine w_eqB ?_
  | with_reducible refine w_neB ?_
  | with_reducible refine w_and ?_
  | with_reducible refine w_or ?_
  | with_reducible refine w_not ?_
  | with_reducible refine w_andV ?_
  | with_reducible refine w_orV ?_
  | with_reducible refine w_notV ?_
  | with_reducible refine w_if ?_
  | with_reducible refine w_chain ?_
  | with_reducible refine w_un ?_
  | with_reducible refine w_U ?_
  | ((with_reducible refine' w_I ?rlc ?_); (case rlc => walk_at "rl side"))
  | with_reducible refine w_drop ?_
  | with_reducible refine w_retN ?_
  | with_reducible refine w_par ?_
  | ((with_reducible refine' w_par2 ?_); dsimp only [List.set])
  | ((with_reducible refine' w_aug ?rla ?_); (case rla => exact rfl))
  | with_reducible refine w_ipI ?_
  | with_reducible refine w_break ?_
  | with_reducible refine w_cont ?_
  | ((with_reducible refine' w_bkD ?rle ?_); (case rle => exact rfl))
  | ((with_reducible refine' w_ctD ?rle ?_); (case rle => exact rfl))
  | with_reducible refine w_tup ?_
  | with_reducible refine w_lst ?_
  | ((with_reducible refine' w_newO ?rln ?_); (case rln => exact Nat.le_of_ble_eq_true rfl); intro _ _ _ _ _)
  | ((with_reducible refine' w_new ?rln ?_); (case rln => exact Nat.le_of_ble_eq_true rfl))
  | ((with_reducible refine' w_mk ?_); intro _ _ _ _ _)
  | ((with_reducible refine' w_gTup ?rls ?rll ?_); (case rls => walk_at "rl hp"); (case rll => exact rfl))
  | with_reducible refine w_gCons ?_
  | with_reducible refine w_gNil ?_
  | with_reducible refine w_gSub ?_
  | ((with_reducible refine' w_setL ?rls ?rlj ?_); (case rls => walk_at "rl hp"); (case rlj => exact rfl))
  | ((with_reducible refine' w_ixL ?rls ?rli ?_); (case rls => walk_at "rl hp"); (case rli => exact rfl))
  | ((with_reducible refine' w_ixT ?rls ?rli ?_); (case rls => walk_at "rl hp"); (case rli => exact rfl))
  | with_reducible refine w_call ?_
  | with_reducible refine w_trI ?_
  | with_reducible refine w_yes ?_
  | with_reducible refine w_trB ?_
  | with_reducible refine w_trN ?_
  | with_reducible refine w_cb ?_
  | with_reducible refine w_fld ?_
  | ((with_reducible refine' w_fld1 ?rlo ?rlc ?rln ?rll ?_); (case rlo => walk_at "rl hp"); (case rlc => assumption); (case rln => assumption); (case rll => exact rfl))
  | with_reducible refine w_isiO ?_
  | with_reducible refine w_isiT ?_
  | ((with_reducible refine' w_isi (r := true) ?rlt ?rlk ?_); (case rlt => walk_at "rl ty"); (case rlk => exact rfl))
  | ((with_reducible refine' w_isi (r := false) ?rlt ?rlk ?_); (case rlt => walk_at "rl ty"); (case rlk => exact rfl))
  | ((with_reducible refine' w_isi2 (r := true) ?rlT ?rlt ?rlk ?_); (case rlT => walk_at "rl hp"); (case rlt => walk_at "rl ty"); (case rlk => exact rfl))
  | ((with_reducible refine' w_isi2 (r := false) ?rlT ?rlt ?rlk ?_); (case rlT => walk_at "rl hp"); (case rlt => walk_at "rl ty"); (case rlk => exact rfl))
  | with_reducible refine w_sFld ?_
  | with_reducible refine w_itemsK ?_
  | ((with_reducible refine' w_catT ?rlha ?rlhb ?rln1 ?rln2 ?rlhl ?_); (case rlha => walk_at "rl hp"); (case rlhb => walk_at "rl hp"); (case rln1 => exact (fun z => nomatch z)); (case rln2 => exact (fun z => nomatch z)); (case rlhl => exact Nat.le_trans (Nat.le_of_ble_eq_true rfl) (show 100000 ≤ sizeLine by decide)))
  | ((with_reducible refine' w_newE ?_); intro _ _ _ _ _)
  | with_reducible refine w_makeK ?_
  | ((with_reducible refine' w_sFld1 ?rlc ?rln ?rll ?rle ?_); (case rlc => assumption); (case rln => assumption); (case rll => exact Nat.lt_of_lt_of_le (Nat.lt_succ_self _) (Nat.le_of_ble_eq_true rfl)); (case rle => exact rfl))
  | ((with_reducible refine' w_sFld0 ?rlx ?rlc ?rln ?rll ?rle ?_); (case rlx => walk_at "rl hq"); (case rlc => assumption); (case rln => assumption); (case rll => exact Nat.lt_of_lt_of_le (Nat.lt_succ_self _) (Nat.le_of_ble_eq_true rfl)); (case rle => exact rfl))
  | with_reducible refine w_rflA ?_
  | with_reducible refine w_for ?_
  | with_reducible refine w_iList ?_
  | with_reducible refine w_iTup ?_
  | ((with_reducible refine' w_overL ?rls ?_); (case rls => walk_at "rl hp"))
  | ((with_reducible refine' w_overT ?rls ?_); (case rls => walk_at "rl hp"))
  | with_reducible refine w_rng1 ?_
  | ((with_reducible refine' w_rng1a ?rl1 ?rl2 ?_); (case rl1 => omega); (case rl2 => omega))
  | with_reducible refine w_rng2 ?_
  | ((with_reducible refine' w_rng2a ?rl1 ?_); (case rl1 => omega))
  | with_reducible refine w_zip2 ?_
  | with_reducible refine w_lc ?_
  | with_reducible refine w_enS ?_
  | with_reducible refine w_callSD ?_
  | with_reducible refine w_xf ?_
  | ((with_reducible refine' w_dnew ?_); intro _ _ _ _ _)
  | ((with_reducible refine' w_disp1 ?_); intro _ _ _ _ _)
  | with_reducible refine w_bm ?_
  | ((with_reducible refine' w_tyL ?rls ?_); (case rls => walk_at "rl hp"))
  | ((with_reducible refine' w_append ?rls ?rll ?_); (case rls => walk_at "rl hq"); (case rll => exact Nat.lt_of_lt_of_le (Nat.lt_succ_self _) (Nat.le_of_ble_eq_true rfl)))
  | ((with_reducible refine' w_cat ?rls ?rlt ?rll ?_); (case rls => walk_at "rl hq"); (case rlt => walk_at "rl hq"); (case rll => exact Nat.le_of_ble_eq_true rfl); intro _ _ _ _ _)
  | with_reducible refine w_int1 ?_
  | ((with_reducible refine w_intb ?_); (try dsimp only))
  | with_reducible refine w_one ?_
  | with_reducible refine w_two ?_
  | ((with_reducible refine' w_lenL ?rls ?_); (case rls => walk_at "rl hp"))
  | ((with_reducible refine' w_lenT ?rls ?_); (case rls => walk_at "rl hp"))
  | with_reducible refine w_meth ?_
  | ((with_reducible refine' w_meth1 ?rlo ?rll ?_); (case rlo => walk_at "rl hp"); (case rll => exact rfl)))
local macro_rules | `(tactic| walk_at "rl wp") => `(tactic| (repeat walk_at "rl w1"))
local macro_rules | `(tactic| walk_at "rl but") => `(tactic| first
  | assumption
  | exact But.refl _ _
  | exact But.upd
  | exact But.of_same (by assumption)
  | (refine But.trans ?_ (But.of_same (by assumption)); walk_at "rl but")
  | (refine But.trans ?_ (by assumption : But _ _ _); walk_at "rl but")
  | (refine But.trans ?_ But.upd; walk_at "rl but"))
local macro_rules | `(tactic| walk_at "rl same") => `(tactic| first
  | assumption
  | exact Same.refl _
  | (refine Same.trans ?_ (by assumption : Same _ _); walk_at "rl same"))

local macro_rules | `(tactic| walk_at "rl wi") => `(tactic| (repeat (first
  | walk_at "rl w1"
  | ((with_reducible refine' iteF' ?rlif ?_); (case rlif => exact rfl))
  | ((with_reducible refine' iteT' ?rlif ?_); (case rlif => exact rfl)))))
local macro_rules | `(tactic| walk_at "rl ty") => `(tactic| exact .base (.dK (by assumption)))
local macro_rules | `(tactic| walk_at "rl ty") => `(tactic| exact .base (.lst (by assumption)))
local macro_rules | `(tactic| walk_at "rl ty") => `(tactic| exact .base (.tup (by assumption)))
local macro_rules | `(tactic| walk_at "rl w1") => `(tactic| first
  | with_reducible refine w_par3 ?_
  | ((with_reducible refine' w_par3a ?_); dsimp only [List.set])
  | with_reducible refine w_dget ?_
  | ((with_reducible refine' w_dgetS ?rls ?rlv ?_); (case rls => walk_at "rl hq"); (case rlv => exact rfl))
  | ((with_reducible refine' w_dgetI ?rls ?rlv ?_); (case rls => walk_at "rl hq"); (case rlv => exact rfl))
  | with_reducible refine w_dget2 ?_
  | ((with_reducible refine' w_isD ?rls ?_); (case rls => walk_at "rl hq"))
  | ((with_reducible refine' w_dget2S ?rls ?_); (case rls => walk_at "rl hq"))
  | ((with_reducible refine' w_dget2I ?rls ?_); (case rls => walk_at "rl hq"))
  | ((with_reducible refine' w_setDS ?rls ?rll ?rlm ?_); (case rls => walk_at "rl hq"); (case rll => exact Nat.lt_of_lt_of_le (Nat.lt_succ_self _) (Nat.le_of_ble_eq_true rfl)); (case rlm => exact rfl))
  | ((with_reducible refine' w_tyD ?rls ?_); (case rls => walk_at "rl hq"))
  | with_reducible refine w_jNil ?_
  | with_reducible refine w_jCons ?_
  | with_reducible refine w_prop ?_
  | with_reducible refine w_makeKS ?_
  | with_reducible refine w_pNil ?_
  | with_reducible refine w_pCons ?_
  | ((with_reducible refine' w_dispN ?_); intro _ _ _ _ _))

local macro_rules | `(tactic| walk_at "rl w1") => `(tactic| with_reducible refine w_ifT ?_)
local macro_rules | `(tactic| walk_at "rl w1") => `(tactic| ((with_reducible refine' w_dispP ?_); intro _ _ _ _ _))
local macro_rules | `(tactic| walk_at "rl w1") => `(tactic| ((with_reducible refine' w_dgS ?rls ?rlv ?_); (case rls => walk_at "rl hq"); (case rlv => exact rfl)))

theorem canL5 {y : Str} {a b c d : Int} (h : (PyData.str y).canLay0 = true) : (PyData.list [.str y, .int a, .int b, .int c, .int d]).canLay0 = true := by
  show (PyData.canLay0 (.str y) && _) = true
  rw [h]
  rfl
theorem take_stepV {xs : List V} {i : Nat} {x : V} (h : xs[i]? = some x) : xs.take i ++ [x] = xs.take (i + 1) := by
  rw [List.take_add_one, h]
  rfl
theorem canL3 {a b : Int} {ns : List PyData} (h : PyData.canLayAll0 ns = true) : (PyData.tuple [.int a, .int b, .tuple ns]).canLay0 = true := by
  show (PyData.canLayAll0 ns && true) = true
  rw [h]
  rfl
theorem depL3 {a b : Int} {ns : List PyData} (h : PyData.depthAll ns ≤ 10) : (PyData.tuple [.int a, .int b, .tuple ns]).depth ≤ 64 := by
  have e : (PyData.tuple [.int a, .int b, .tuple ns]).depth = (max 0 (max 0 (max (PyData.depthAll ns + 1) 0))) + 1 := rfl
  omega
theorem intsD {lo hi : Int} : ∀ {ns : List PyData}, (ns.all fun d => inI d lo hi) = true → ∃ is : List Int, ns = is.map PyData.int
  | [], _ => ⟨[], rfl⟩
  | d :: ns, e => by
    rw [List.all_cons, Bool.and_eq_true_iff] at e
    obtain ⟨is, e1⟩ := intsD e.2
    obtain ⟨i, rfl, _⟩ := inI_ex e.1
    exact ⟨i :: is, by rw [e1]; rfl⟩
theorem vals_of {H : Hp} {B : Addr → Prop} : ∀ {is : List Int} {us : List V}, DqAll H B us (is.map PyData.int) → us = is.map V.int
  | [], _, .nil => rfl
  | _ :: _, _, .cons (.int _) t => by rw [vals_of t]; rfl
theorem badName_ok {ds : List PyData} (h : badName ds = none) (l : ds.length = 12) : ∃ (y : Str) (i1 i2 i3 i4 i5 i6 i7 i8 i9 i10 : Int) (is : List Int), ds = [.str y, .int i1, .int i2, .int i3, .int i4, .int i5, .int i6, .int i7, .int i8, .int i9, .int i10, .tuple (is.map PyData.int)] ∧ (y = "input" ∨ y = "output" ∨ y = "feature") ∧ 0 ≤ i2 ∧ i2 ≤ 7 := by
  match ds, l with
  | [d0, d1, d2, d3, d4, d5, d6, d7, d8, d9, d10, d11], _ =>
    unfold badName at h
    split at h
    · rename_i hr
      split at h
      · cases h
      · rename_i hn
        have k := fun i b d => numBad_ok (bs := bnds) (ds := [d1, d2, d3, d4, d5, d6, d7, d8, d9, d10, d11]) (i := i) (b := b) (d := d) hn
        obtain ⟨i1, rfl, _, _⟩ := inI_ex (k 0 _ d1 rfl rfl)
        obtain ⟨i2, rfl, a0, a1⟩ := inI_ex (k 1 _ d2 rfl rfl)
        obtain ⟨i3, rfl, _, _⟩ := inI_ex (k 2 _ d3 rfl rfl)
        obtain ⟨i4, rfl, _, _⟩ := inI_ex (k 3 _ d4 rfl rfl)
        obtain ⟨i5, rfl, _, _⟩ := inI_ex (k 4 _ d5 rfl rfl)
        obtain ⟨i6, rfl, _, _⟩ := inI_ex (k 5 _ d6 rfl rfl)
        obtain ⟨i7, rfl, _, _⟩ := inI_ex (k 6 _ d7 rfl rfl)
        obtain ⟨i8, rfl, _, _⟩ := inI_ex (k 7 _ d8 rfl rfl)
        obtain ⟨i9, rfl, _, _⟩ := inI_ex (k 8 _ d9 rfl rfl)
        obtain ⟨i10, rfl, _, _⟩ := inI_ex (k 9 _ d10 rfl rfl)
        have h' : usBad i2 i3 i4 i5 i6 d11 = none := h
        cases d11 with
        | tuple es =>
          have h2 : (if (decide (es.length ≤ 256) && es.all fun d => inI d 0 4294967295) = true then lastBad i2 i3 i4 i5 i6 es.length else some ("usages" : Str)) = none := h'
          have ha : (es.all fun d => inI d 0 4294967295) = true := by
            by_cases c : (decide (es.length ≤ 256) && es.all fun d => inI d 0 4294967295) = true
            · exact (Bool.and_eq_true_iff.mp c).2
            · rw [if_neg c] at h2
              cases h2
          obtain ⟨is, rfl⟩ := intsD ha
          have hr' : roleOk d0 = true := hr
          cases d0 with
          | str y =>
            refine ⟨y, i1, i2, i3, i4, i5, i6, i7, i8, i9, i10, is, rfl, ?_, a0, a1⟩
            have z : (decide (y = "input") || (decide (y = "output") || decide (y = "feature"))) = true := hr'
            rcases Bool.or_eq_true_iff.mp z with z | z
            · exact .inl (of_decide_eq_true z)
            · rcases Bool.or_eq_true_iff.mp z with z | z
              · exact .inr (.inl (of_decide_eq_true z))
              · exact .inr (.inr (of_decide_eq_true z))
          | _ => cases hr'
        | _ => cases h'
    · cases h
def styleL (f : Int) : Str := if inV (.int f) [V.int 1, V.int 3, V.int 5, V.int 7] = true then "constant" else if inV (.int f) [V.int 2, V.int 6] = true then "variable" else "array"
theorem style_eq {f : Int} (h0 : 0 ≤ f) (h1 : f ≤ 7) : styleL f = styleOf f ∧ decide (3 < f) = decide (0 < Builtin.bitAnd f 4) := by
  rcases (show f = 0 ∨ f = 1 ∨ f = 2 ∨ f = 3 ∨ f = 4 ∨ f = 5 ∨ f = 6 ∨ f = 7 by omega) with rfl | rfl | rfl | rfl | rfl | rfl | rfl | rfl <;> decide +kernel
theorem styleOf_or (f : Int) : styleOf f = "constant" ∨ styleOf f = "variable" ∨ styleOf f = "array" := by
  unfold styleOf
  split
  · exact .inl rfl
  · split
    · exact .inr (.inl rfl)
    · exact .inr (.inr rfl)
def told3 (s : Str) (a b : Bool) : PyData := .list [.str s, .bool a, .bool b]
theorem told3_ok (f : Int) (a b : Bool) : (told3 (styleOf f) a b).showable = true ∧ (told3 (styleOf f) a b).shown.length ≤ sizeLine ∧ (told3 (styleOf f) a b).depth ≤ 10 := by
  have hs : (100 : Nat) ≤ sizeLine := by decide
  have g : ∀ s : Str, (s = "constant" ∨ s = "variable" ∨ s = "array") → (told3 s a b).showable = true ∧ (told3 s a b).shown.length ≤ 100 ∧ (told3 s a b).depth ≤ 10 := by
    rintro s (rfl | rfl | rfl) <;> cases a <;> cases b <;> exact ⟨by decide +kernel, by decide +kernel, by decide +kernel⟩
  obtain ⟨h1, h2, h3⟩ := g _ (styleOf_or f)
  exact ⟨h1, Nat.le_trans h2 hs, h3⟩
theorem w_eqRefl {K : PySem.W.Frag} {H : Hp} {Q : VK} {x z : V} {d : PyData} (hx : Dp K H x d) (hz : Dp K H z d) (c : d.canLay0 = true) (dd : d.depth ≤ 64) (h : Q (.bl false) H) : rNeD K x z H Q := by
  have sh : SeqAt.shaped d = true := by
    show (d.canLay0 && decide (d.depth ≤ 64)) = true
    rw [c, decide_eq_true dd]
    rfl
  refine ⟨d, d, hx, hz, sh, sh, ?_⟩
  rw [SeqAt.eqv_refl d c]
  exact h
def spIsField (K : PySem.W.Frag) : Sp := fun vs H Q _ => ∃ (B : Addr → Prop) (f d : Addr) (v : Fa) (ds : List PyData), vs = [.ref f, .ref d] ∧ FldAt K H f v ∧ H d = some (.dK v.kv) ∧ DqAll H B v.all ds ∧ badName ds = none ∧ ∀ H', Same H H' → Q (.bl true) H'
theorem start_7_2 (x0 x1 x2 x3 x4 x5 x6 : Str) (v0 v1 : V) : L2.start [x0, x1, x2, x3, x4, x5, x6] [v0, v1] = [some v0, some v1, none, none, none, none, none] := rfl
theorem sc__law_is_field : FnScope ["_law_told", "_law_found", "_law_some", "_law_mode", "_law_style", "_law_is_signed", "_law_name"] ["_law_told", "_law_found"] (defScope (top 29)) := ⟨rfl, rfl, rfl, by decide +kernel, rfl, by decide +kernel, by decide +kernel⟩
theorem ok__law_is_field {P : Program} {w : World} {K : PySem.W.Frag} {mg : Str → Option Value} {base : Heap} (T : TT K mg) (D_Field_style : Lq P w K mg base CX0 1 "Field" "style" ["self"] [] (spStyle K)) (D_Field_is_relative : Lq P w K mg base CX0 1 "Field" "is_relative" ["self"] [] (spRelative K)) (D_Field_is_signed : Lq P w K mg base CX0 3 "Field" "is_signed" ["self"] [] (spSigned K))   : Lg P w K mg base CX0 5 "_law_is_field" ["_law_told", "_law_found"] [] (spIsField K) := by
  obtain ⟨⟨fd_Field_style, ds_Field_style, F_Field_style, b_Field_style, v_Field_style⟩⟩ := D_Field_style
  obtain ⟨⟨fd_Field_is_relative, ds_Field_is_relative, F_Field_is_relative, b_Field_is_relative, v_Field_is_relative⟩⟩ := D_Field_is_relative
  obtain ⟨⟨fd_Field_is_signed, ds_Field_is_signed, F_Field_is_signed, b_Field_is_signed, v_Field_is_signed⟩⟩ := D_Field_is_signed
  obtain ⟨fd, F⟩ := T.d__law_is_field
  refine ⟨⟨fd, [], FunD.okG F sc__law_is_field (fun vs H Q E h => ?_) (fun cdv A outer s H vs Q E hgd hr h => ?_), FunD.bindsN F (fun _ _ _ _ _ _ us hl => match us, hl with | [_, _], _ => rfl), .nil⟩, T.g__law_is_field, F.kp⟩
  · obtain ⟨B, f, d, v, ds, rfl, _⟩ := h
    rfl
  · obtain ⟨B, f, d, v, ds, rfl, ⟨dx, hf⟩, hd, hq, hb, q⟩ := h
    obtain ⟨x0, x1, x2, x3, x4, x5, x6, x7, x8, x9, x10, x11⟩ := v
    obtain ⟨y, i1, i2, i3, i4, i5, i6, i7, i8, i9, i10, is, rfl, hy, f0, f1⟩ := badName_ok hb hq.len.symm
    obtain ⟨pu, hpu, rfl, rfl, rfl, rfl, rfl, rfl, rfl, rfl, rfl, rfl, rfl, rfl⟩ : ∃ pu, H pu = some (.tup (is.map V.int)) ∧ x0 = .str y ∧ x1 = .int i1 ∧ x2 = .int i2 ∧ x3 = .int i3 ∧ x4 = .int i4 ∧ x5 = .int i5 ∧ x6 = .int i6 ∧ x7 = .int i7 ∧ x8 = .int i8 ∧ x9 = .int i9 ∧ x10 = .int i10 ∧ x11 = .ref pu := by
      cases hq with | cons g0 hq => cases hq with | cons g1 hq => cases hq with | cons g2 hq => cases hq with | cons g3 hq => cases hq with | cons g4 hq => cases hq with | cons g5 hq => cases hq with | cons g6 hq => cases hq with | cons g7 hq => cases hq with | cons g8 hq => cases hq with | cons g9 hq => cases hq with | cons g10 hq => cases hq with | cons g11 hq =>
      cases g0; cases g1; cases g2; cases g3; cases g4; cases g5; cases g6; cases g7; cases g8; cases g9; cases g10
      cases g11 with
      | tup e nb ha => exact ⟨_, by rw [e, vals_of ha], rfl, rfl, rfl, rfl, rfl, rfl, rfl, rfl, rfl, rfl, rfl, rfl⟩
    have hy0 : (PyData.str y).canLay0 = true := by rcases hy with rfl | rfl | rfl <;> decide +kernel
    clear hq hb
    have hfl : FldAt K H f ⟨.str y, .int i1, .int i2, .int i3, .int i4, .int i5, .int i6, .int i7, .int i8, .int i9, .int i10, .ref pu⟩ := ⟨dx, hf⟩
    have c_F := T.c_Field
    have n_role := T.n_Field_role
    have n_number := T.n_Field_number
    have n_flags := T.n_Field_flags
    have n_size := T.n_Field_size
    have n_amount := T.n_Field_amount
    have n_low := T.n_Field_low
    have n_high := T.n_Field_high
    have n_plow := T.n_Field_plow
    have n_phigh := T.n_Field_phigh
    have n_exponent := T.n_Field_exponent
    have n_unit := T.n_Field_unit
    have n_usages := T.n_Field_usages
    refine ⟨_, PSs.nox ((pss_cons (ps_set (i := 2) sc__law_is_field.nd rfl (by first | exact Or.inl rfl | exact Or.inr rfl) (pe_lst (pa_cons (pe_fld (pv 0) rfl) (pa_cons (pe_fld (pv 0) rfl) (pa_cons (pe_fld (pv 0) rfl) (pa_cons (pe_fld (pv 0) rfl) (pa_cons (pe_fld (pv 0) rfl) pa_nil))))))) (pss_cons (ps_if (pt_cmpR (op_neD hr.units) (pv 2) (by exact (pe_lc (own := [("_law_name", 6)]) rfl sc__law_is_field.nd (pi_tup (pe_tup (pa_cons pe_str (pa_cons pe_str (pa_cons pe_str (pa_cons pe_str (pa_cons pe_str pa_nil))))))) (blkOk_by (own := [("_law_name", 6)]) (N := ["_law_told", "_law_found", "_law_some", "_law_mode", "_law_style", "_law_is_signed", "_law_name"]) (sc := defScope (top 29)) (by decide +kernel)) (fun _ _ _ _ _ => by exact (pg_name (i := 6) sc__law_is_field.nd rfl (by first | exact Or.inl rfl | exact Or.inr rfl))) (fun _ _ _ _ _ => by exact pts_nil) (fun _ _ _ _ _ => by exact (pe_dget (room_u1 hr) (pv 1) (pv 6) (fun _ _ => rfl))))) (nomark _)) (pss_one (ps_ret pe_bl)) pss_nil) (pss_cons (ps_set (i := 2) sc__law_is_field.nd rfl (by first | exact Or.inl rfl | exact Or.inr rfl) (pe_lst (pa_cons (pe_fld (pv 0) rfl) (pa_cons (pe_fld (pv 0) rfl) (pa_cons (pe_fld (pv 0) rfl) (pa_cons (pe_fld (pv 0) rfl) pa_nil)))))) (pss_cons (ps_if (pt_cmpR (op_neD hr.units) (pv 2) (by exact (pe_lc (own := [("_law_name", 6)]) rfl sc__law_is_field.nd (pi_tup (pe_tup (pa_cons pe_str (pa_cons pe_str (pa_cons pe_str (pa_cons pe_str pa_nil)))))) (blkOk_by (own := [("_law_name", 6)]) (N := ["_law_told", "_law_found", "_law_some", "_law_mode", "_law_style", "_law_is_signed", "_law_name"]) (sc := defScope (top 29)) (by decide +kernel)) (fun _ _ _ _ _ => by exact (pg_name (i := 6) sc__law_is_field.nd rfl (by first | exact Or.inl rfl | exact Or.inr rfl))) (fun _ _ _ _ _ => by exact pts_nil) (fun _ _ _ _ _ => by exact (pe_dget (room_u1 hr) (pv 1) (pv 6) (fun _ _ => rfl))))) (nomark _)) (pss_one (ps_ret pe_bl)) pss_nil) (pss_cons (ps_if (pt_cmpR (op_neD hr.units) (pe_tup (pa_cons (pe_fld (pv 0) rfl) (pa_cons (pe_fld (pv 0) rfl) (pa_cons (pe_fld (pv 0) rfl) pa_nil)))) (pe_tup (pa_cons (pe_dget (room_u1 hr) (pv 1) pe_str (fun _ _ => rfl)) (pa_cons (pe_dget (room_u1 hr) (pv 1) pe_str (fun _ _ => rfl)) (pa_cons (pe_dget (room_u1 hr) (pv 1) pe_str (fun _ _ => rfl)) pa_nil)))) (nomark _)) (pss_one (ps_ret pe_bl)) pss_nil) (pss_cons (ps_set (i := 3) sc__law_is_field.nd rfl (by first | exact Or.inl rfl | exact Or.inr rfl) (pe_dget (room_u1 hr) (pv 1) pe_str (fun _ _ => rfl))) (pss_cons (ps_set (i := 4) sc__law_is_field.nd rfl (by first | exact Or.inl rfl | exact Or.inr rfl) (pe_ifExp (pt_cmpR op_in_seq (pv 3) (pe_tup (pa_cons pe_int (pa_cons pe_int (pa_cons pe_int (pa_cons pe_int pa_nil))))) (by rfl)) pe_str (pe_ifExp (pt_cmpR op_in_seq (pv 3) (pe_tup (pa_cons pe_int (pa_cons pe_int pa_nil))) (by rfl)) pe_str pe_str))) (pss_cons (ps_set (i := 5) sc__law_is_field.nd rfl (by first | exact Or.inl rfl | exact Or.inr rfl) (pe_and (pe_cmpR op_ne (pv 4) pe_str (nomark _)) (pe_one (pe_cmpR op_lt (pe_dget (room_u1 hr) (pv 1) pe_str (fun _ _ => rfl)) pe_int (nomark _))))) (pss_one (ps_ret (pe_cmpR op_eq (pe_callB (call_reprD (B := fun _ => True) (by exact hgd) (by have hu := room_un hr; exact hu)) (by rfl) T.m_repr (by decide +kernel) (pa_cons (pe_lst (pa_cons (pe_prop (pv 0) T.c_Field T.pp_Field_style F_Field_style (hr.mono (by decide)) b_Field_style v_Field_style pass0 (by rfl)) (pa_cons (pe_prop (pv 0) T.c_Field T.pp_Field_is_relative F_Field_is_relative (hr.mono (by decide)) b_Field_is_relative v_Field_is_relative pass0 (by rfl)) (pa_cons (pe_prop (pv 0) T.c_Field T.pp_Field_is_signed F_Field_is_signed hr b_Field_is_signed v_Field_is_signed pass0 (by rfl)) pa_nil)))) pa_nil)) (pe_callB (call_reprD (B := fun _ => True) (by exact hgd) (by have hu := room_un hr; exact hu)) (by rfl) T.m_repr (by decide +kernel) (pa_cons (pe_lst (pa_cons (pv 4) (pa_cons (pe_cmpR op_gt (pv 3) pe_int (nomark _)) (pa_cons (pv 5) pa_nil)))) pa_nil)) (nomark _))))))))))))), ?_⟩; rw [start_7_2]; try dsimp only [cxOf]
    walk_at "rl wp"
    rename_i La Ha1 na1 sa1 ha1 tn H2 nt1 st1 ht1
    refine w_lcSL (fun L i acc Hc => Same H2 Hc ∧ acc = ([V.str y, V.int i1, V.int i2, V.int i3, V.int i4].take i)) (fun L i acc Hc ⟨sm, _⟩ => seqT (SqT.of (sm _ _ ht1))) (fun L n => ⟨same_upd n, rfl⟩) ?_ ?_
    · rintro L i acc x Hc nL hx eL hacc ⟨smc, rfl⟩
      have hi : i < 5 := (List.getElem?_eq_some_iff.mp hx).1
      obtain ⟨nm, xi, rfl, hv, hxi⟩ : ∃ nm xi, x = V.str nm ∧ valV (Fa.kv ⟨.str y, .int i1, .int i2, .int i3, .int i4, .int i5, .int i6, .int i7, .int i8, .int i9, .int i10, .ref pu⟩) (.inr nm) = some xi ∧ [V.str y, V.int i1, V.int i2, V.int i3, V.int i4][i]? = some xi := by
        rcases (show i = 0 ∨ i = 1 ∨ i = 2 ∨ i = 3 ∨ i = 4 by omega) with rfl | rfl | rfl | rfl | rfl <;> obtain rfl := Option.some.inj hx <;> exact ⟨_, _, rfl, rfl, rfl⟩
      have hdc : Hc d = some (.dK (Fa.kv ⟨.str y, .int i1, .int i2, .int i3, .int i4, .int i5, .int i6, .int i7, .int i8, .int i9, .int i10, .ref pu⟩)) := smc _ _ (st1 _ _ (sa1 _ _ hd))
      walk_at "rl wp"
      refine ⟨rfl, ?_⟩
      dsimp only [wipe, List.map, List.foldl, List.set]
      walk_at "rl wi"
      refine w_dgS hdc hv ?_
      refine lc_put (n := 5) eL hacc hi (by decide) ⟨Same.updN nL smc, take_stepV hxi⟩
    rintro L1 acc Hc1 nL1 eL1 ⟨smc1, rfl⟩
    refine w_eqRefl (d := .list [.str y, .int i1, .int i2, .int i3, .int i4]) (.lst (SqL.of (smc1 _ _ (st1 _ _ ha1))) (.cons (.str _) (.cons (.int _) (.cons (.int _) (.cons (.int _) (.cons (.int _) .nil)))))) (.lst (SqL.of eL1) (.cons (.str _) (.cons (.int _) (.cons (.int _) (.cons (.int _) (.cons (.int _) .nil)))))) (by exact canL5 hy0) (Nat.le_of_ble_eq_true rfl) ?_
    have hd1 : Hc1 d = some (.dK (Fa.kv ⟨.str y, .int i1, .int i2, .int i3, .int i4, .int i5, .int i6, .int i7, .int i8, .int i9, .int i10, .ref pu⟩)) := smc1 _ _ (st1 _ _ (sa1 _ _ hd))
    have hf1 : Hc1 f = some (.ins (He.ga K "Field") dx (Fa.at ⟨.str y, .int i1, .int i2, .int i3, .int i4, .int i5, .int i6, .int i7, .int i8, .int i9, .int i10, .ref pu⟩)) := smc1 _ _ (st1 _ _ (sa1 _ _ hf))
    have hpu1 : Hc1 pu = some (.tup (is.map V.int)) := smc1 _ _ (st1 _ _ (sa1 _ _ hpu))
    have sH1 : Same H Hc1 := sa1.trans (st1.trans smc1)
    clear hd hf hpu
    have hd := hd1
    have hf := hf1
    have hpu := hpu1
    clear hd1 hf1 hpu1
    walk_at "rl wi"
    rename_i Lb Ha2 na2 sa2 ha2 tm H4 nt2 st2 ht2
    refine w_lcSL (fun L i acc Hc => Same H4 Hc ∧ acc = ([V.int i5, V.int i6, V.int i7, V.int i8].take i)) (fun L i acc Hc ⟨sm, _⟩ => seqT (SqT.of (sm _ _ ht2))) (fun L n => ⟨same_upd n, rfl⟩) ?_ ?_
    · rintro L i acc x Hc nL hx eL hacc ⟨smc, rfl⟩
      have hi : i < 4 := (List.getElem?_eq_some_iff.mp hx).1
      obtain ⟨nm, xi, rfl, hv, hxi⟩ : ∃ nm xi, x = V.str nm ∧ valV (Fa.kv ⟨.str y, .int i1, .int i2, .int i3, .int i4, .int i5, .int i6, .int i7, .int i8, .int i9, .int i10, .ref pu⟩) (.inr nm) = some xi ∧ [V.int i5, V.int i6, V.int i7, V.int i8][i]? = some xi := by
        rcases (show i = 0 ∨ i = 1 ∨ i = 2 ∨ i = 3 by omega) with rfl | rfl | rfl | rfl <;> obtain rfl := Option.some.inj hx <;> exact ⟨_, _, rfl, rfl, rfl⟩
      have hdc : Hc d = some (.dK (Fa.kv ⟨.str y, .int i1, .int i2, .int i3, .int i4, .int i5, .int i6, .int i7, .int i8, .int i9, .int i10, .ref pu⟩)) := smc _ _ (st2 _ _ (sa2 _ _ hd))
      walk_at "rl wp"
      refine ⟨rfl, ?_⟩
      dsimp only [wipe, List.map, List.foldl, List.set]
      walk_at "rl wi"
      refine w_dgS hdc hv ?_
      refine lc_put (n := 4) eL hacc hi (by decide) ⟨Same.updN nL smc, take_stepV hxi⟩
    rintro L2 acc Hc2 nL2 eL2 ⟨smc2, rfl⟩
    refine w_eqRefl (d := .list [.int i5, .int i6, .int i7, .int i8]) (.lst (SqL.of (smc2 _ _ (st2 _ _ ha2))) (.cons (.int _) (.cons (.int _) (.cons (.int _) (.cons (.int _) .nil))))) (.lst (SqL.of eL2) (.cons (.int _) (.cons (.int _) (.cons (.int _) (.cons (.int _) .nil))))) (by rfl) (Nat.le_of_ble_eq_true rfl) ?_
    have hd2 : Hc2 d = some (.dK (Fa.kv ⟨.str y, .int i1, .int i2, .int i3, .int i4, .int i5, .int i6, .int i7, .int i8, .int i9, .int i10, .ref pu⟩)) := smc2 _ _ (st2 _ _ (sa2 _ _ hd))
    have hf2 : Hc2 f = some (.ins (He.ga K "Field") dx (Fa.at ⟨.str y, .int i1, .int i2, .int i3, .int i4, .int i5, .int i6, .int i7, .int i8, .int i9, .int i10, .ref pu⟩)) := smc2 _ _ (st2 _ _ (sa2 _ _ hf))
    have hpu2 : Hc2 pu = some (.tup (is.map V.int)) := smc2 _ _ (st2 _ _ (sa2 _ _ hpu))
    have sH2 : Same Hc1 Hc2 := sa2.trans (st2.trans smc2)
    clear hd hf hpu
    have hd := hd2
    have hf := hf2
    have hpu := hpu2
    clear hd2 hf2 hpu2
    walk_at "rl wi"
    rename_i T1 Ht n7 s7 h7 T2 Hu n8 s8 h8
    have hpx := s8 _ _ (s7 _ _ hpu)
    refine w_eqRefl (d := .tuple [.int i9, .int i10, .tuple (is.map PyData.int)]) (.tup (SqT.of (s8 _ _ h7)) (.cons (.int _) (.cons (.int _) (.cons (.tup (SqT.of hpx) (dpI is)) .nil)))) (.tup (SqT.of h8) (.cons (.int _) (.cons (.int _) (.cons (.tup (SqT.of hpx) (dpI is)) .nil)))) (canL3 (layI is)) (depL3 (depI is)) ?_
    have hdu := s8 _ _ (s7 _ _ hd)
    have hfu := s8 _ _ (s7 _ _ hf)
    have sU : Same H Hu := sH1.trans (sH2.trans (s7.trans s8))
    clear hd hf hpu h7 h8 s7 s8 sH1 sH2 hpx
    walk_at "rl wi"
    rename_i tq Hq nq sq hq1
    refine w_inT (SqT.of hq1) rfl rfl ?_
    rw [if_neg (show ¬ (false = true) by decide)]
    have hdq := sq _ _ hdu
    have hfq := sq _ _ hfu
    have sQ : Same H Hq := sU.trans sq
    clear hdu hfu sU sq hq1
    have e0 := (style_eq f0 f1).1
    unfold styleL at e0
    cases g1 : inV (.int i2) [V.int 1, V.int 3, V.int 5, V.int 7] with
    | true =>
      rw [g1, if_pos rfl] at e0
      have est : styleOf i2 = "constant" := e0.symm
      have esg : decide (styleOf i2 ≠ "constant" ∧ i5 < 0) = false := decide_eq_false (fun z => z.1 est)
      have hfx := hfq
      have sX := sQ
      walk_at "rl wi"
      refine ⟨f, dx, _, rfl, hfx, f, _, i2, rfl, ⟨dx, hfx⟩, rfl, ?_⟩
      walk_at "rl wp"
      refine ⟨f, dx, _, rfl, hfx, f, _, i2, rfl, ⟨dx, hfx⟩, rfl, ?_⟩
      walk_at "rl wp"
      refine ⟨f, dx, _, rfl, hfx, f, _, i2, i5, rfl, ⟨dx, hfx⟩, rfl, rfl, ?_⟩
      walk_at "rl wp"
      rename_i Lr Hr nr sr hr1
      refine ⟨_, told3 (styleOf i2) (decide (0 < Builtin.bitAnd i2 4)) (decide (styleOf i2 ≠ "constant" ∧ i5 < 0)), rfl, .lst hr1 trivial (.cons (.str _) (.cons (.bl _) (.cons (.bl _) .nil))), (told3_ok _ _ _).1, (told3_ok _ _ _).2.1, (told3_ok _ _ _).2.2, ?_⟩
      walk_at "rl wp"
      rename_i Ls Hs ns ss hs1
      have hs2 : Hs Ls = some (.lst [.str (styleOf i2), .bl (decide (0 < Builtin.bitAnd i2 4)), .bl (decide (styleOf i2 ≠ "constant" ∧ i5 < 0))]) := by rw [hs1, (style_eq f0 f1).2, esg, est]
      refine ⟨_, told3 (styleOf i2) (decide (0 < Builtin.bitAnd i2 4)) (decide (styleOf i2 ≠ "constant" ∧ i5 < 0)), rfl, .lst hs2 trivial (.cons (.str _) (.cons (.bl _) (.cons (.bl _) .nil))), (told3_ok _ _ _).1, (told3_ok _ _ _).2.1, (told3_ok _ _ _).2.2, ?_⟩
      walk_at "rl wp"
      rw [decide_eq_true rfl]
      exact q _ (sX.trans (sr.trans ss))
    | false =>
      rw [g1, if_neg (by decide)] at e0
      walk_at "rl wi"
      rename_i tw Hw nw sw hw1
      refine w_inT (SqT.of hw1) rfl rfl ?_
      rw [if_neg (show ¬ (false = true) by decide)]
      have hdw := sw _ _ hdq
      have hfx := sw _ _ hfq
      have sX := sQ.trans sw
      clear hdq hfq sQ sw hw1
      cases g2 : inV (.int i2) [V.int 2, V.int 6] with
      | true =>
        rw [g2, if_pos rfl] at e0
        have est : styleOf i2 = "variable" := e0.symm
        have esg : decide (styleOf i2 ≠ "constant" ∧ i5 < 0) = decide (i5 < 0) := decide_eq_decide.mpr ⟨fun z => z.2, fun z => ⟨by rw [est]; decide +kernel, z⟩⟩
        walk_at "rl wi"
        refine ⟨f, dx, _, rfl, hfx, f, _, i2, rfl, ⟨dx, hfx⟩, rfl, ?_⟩
        walk_at "rl wp"
        refine ⟨f, dx, _, rfl, hfx, f, _, i2, rfl, ⟨dx, hfx⟩, rfl, ?_⟩
        walk_at "rl wp"
        refine ⟨f, dx, _, rfl, hfx, f, _, i2, i5, rfl, ⟨dx, hfx⟩, rfl, rfl, ?_⟩
        walk_at "rl wp"
        rename_i Lr Hr nr sr hr1
        refine ⟨_, told3 (styleOf i2) (decide (0 < Builtin.bitAnd i2 4)) (decide (styleOf i2 ≠ "constant" ∧ i5 < 0)), rfl, .lst hr1 trivial (.cons (.str _) (.cons (.bl _) (.cons (.bl _) .nil))), (told3_ok _ _ _).1, (told3_ok _ _ _).2.1, (told3_ok _ _ _).2.2, ?_⟩
        walk_at "rl wp"
        rename_i Ls Hs ns ss hs1
        have hs2 : Hs Ls = some (.lst [.str (styleOf i2), .bl (decide (0 < Builtin.bitAnd i2 4)), .bl (decide (styleOf i2 ≠ "constant" ∧ i5 < 0))]) := by rw [hs1, (style_eq f0 f1).2, esg, est]
        refine ⟨_, told3 (styleOf i2) (decide (0 < Builtin.bitAnd i2 4)) (decide (styleOf i2 ≠ "constant" ∧ i5 < 0)), rfl, .lst hs2 trivial (.cons (.str _) (.cons (.bl _) (.cons (.bl _) .nil))), (told3_ok _ _ _).1, (told3_ok _ _ _).2.1, (told3_ok _ _ _).2.2, ?_⟩
        walk_at "rl wp"
        rw [decide_eq_true rfl]
        exact q _ (sX.trans (sr.trans ss))
      | false =>
        rw [g2, if_neg (by decide)] at e0
        have est : styleOf i2 = "array" := e0.symm
        have esg : decide (styleOf i2 ≠ "constant" ∧ i5 < 0) = decide (i5 < 0) := decide_eq_decide.mpr ⟨fun z => z.2, fun z => ⟨by rw [est]; decide +kernel, z⟩⟩
        walk_at "rl wi"
        refine ⟨f, dx, _, rfl, hfx, f, _, i2, rfl, ⟨dx, hfx⟩, rfl, ?_⟩
        walk_at "rl wp"
        refine ⟨f, dx, _, rfl, hfx, f, _, i2, rfl, ⟨dx, hfx⟩, rfl, ?_⟩
        walk_at "rl wp"
        refine ⟨f, dx, _, rfl, hfx, f, _, i2, i5, rfl, ⟨dx, hfx⟩, rfl, rfl, ?_⟩
        walk_at "rl wp"
        rename_i Lr Hr nr sr hr1
        refine ⟨_, told3 (styleOf i2) (decide (0 < Builtin.bitAnd i2 4)) (decide (styleOf i2 ≠ "constant" ∧ i5 < 0)), rfl, .lst hr1 trivial (.cons (.str _) (.cons (.bl _) (.cons (.bl _) .nil))), (told3_ok _ _ _).1, (told3_ok _ _ _).2.1, (told3_ok _ _ _).2.2, ?_⟩
        walk_at "rl wp"
        rename_i Ls Hs ns ss hs1
        have hs2 : Hs Ls = some (.lst [.str (styleOf i2), .bl (decide (0 < Builtin.bitAnd i2 4)), .bl (decide (styleOf i2 ≠ "constant" ∧ i5 < 0))]) := by rw [hs1, (style_eq f0 f1).2, esg, est]
        refine ⟨_, told3 (styleOf i2) (decide (0 < Builtin.bitAnd i2 4)) (decide (styleOf i2 ≠ "constant" ∧ i5 < 0)), rfl, .lst hs2 trivial (.cons (.str _) (.cons (.bl _) (.cons (.bl _) .nil))), (told3_ok _ _ _).1, (told3_ok _ _ _).2.1, (told3_ok _ _ _).2.2, ?_⟩
        walk_at "rl wp"
        rw [decide_eq_true rfl]
        exact q _ (sX.trans (sr.trans ss))
end T16
end
section
set_option Elab.async false
set_option linter.all false
set_option maxRecDepth 100000
set_option maxHeartbeats 0
namespace T16
open PySem PySem.Spec PyProof.Rows L2 L2.RL
local macro_rules | `(tactic| walk_at "rl ty") => `(tactic| first
  | assumption
  | exact .base (.int _)
  | exact .base (.str _)
  | exact .base .non
  | exact .base (.bl _)
  | exact ty_sqT (by walk_at "rl hp")
  | exact ty_sqL (by walk_at "rl hp")
  | exact .base (.tup (by walk_at "rl hp"))
  | exact .base (.lst (by walk_at "rl hp"))
  | exact .base (.dK (by walk_at "rl hp")))
local macro_rules | `(tactic| walk_at "rl if") => `(tactic| first
  | with_reducible refine iteT' rfl ?_
  | with_reducible refine iteF' rfl ?_
  | (refine iteT' rfl ?_)
  | (refine iteF' rfl ?_))
local macro_rules | `(tactic| walk_at "rl side") => `(tactic| first | assumption | omega | (constructor <;> omega) | decide)
local macro_rules | `(tactic| walk_at "rl ne") => `(tactic| first
  | assumption
  | exact Ne.symm (by assumption)
  | walk_at "rl ne2"
  | exact ne_of (by assumption) (by walk_at "rl hq") (by intro z; cases z)
  | exact (ne_of (by assumption) (by walk_at "rl hq") (by intro z; cases z)).symm)
local macro_rules | `(tactic| walk_at "rl hq") => `(tactic| first
  | assumption
  | exact upd_same
  | (refine' upd_at ?rlne ?rlhq; (case rlne => walk_at "rl ne"); (case rlhq => walk_at "rl hq"))
  | (refine' Same.at ?rlsa ?rlhq; (case rlsa => assumption); (case rlhq => walk_at "rl hq"))
  | (refine' But.at ?rlbu ?rlne ?rlhq; (case rlbu => assumption); (case rlne => walk_at "rl ne"); (case rlhq => walk_at "rl hq")))
local macro_rules | `(tactic| walk_at "rl hp") => `(tactic| first
  | assumption
  | (refine' SqL.of ?rlhq; (case rlhq => walk_at "rl hq"))
  | (refine' SqT.of ?rlhq; (case rlhq => walk_at "rl hq"))
  | (refine' Same.seq ?rlsa ?rlhp; (case rlsa => assumption); (case rlhp => walk_at "rl hp"))
  | (refine' Same.sqT ?rlsa ?rlhp; (case rlsa => assumption); (case rlhp => walk_at "rl hp"))
  | walk_at "rl hp2"
  | walk_at "rl hq")
local macro_rules | `(tactic| walk_at "rl w1") => `(tactic| first
  | with_reducible refine w_seq ?_
  | ((with_reducible refine' w_var ?rlv ?_); (case rlv => exact rfl))
  | with_reducible refine w_c ?_
  | with_reducible refine w_op ?_
  | with_reducible refine w_I0 ?_
  | with_reducible refine w_asg ?_
  | ((with_reducible refine' w_gName ?_); dsimp only [List.set])
  | ((with_reducible refine' w_nxD ?rle ?_); (case rle => exact rfl))
  | ((with_reducible refine' w_rtD ?rle ?_); (case rle => exact rfl))
  | with_reducible refine w_next ?_
  | with_reducible refine w_ret ?_
  | with_reducible refine w_cons ?_
  | with_reducible refine w_nil ?_
  | with_reducible refine w_ifS ?_
  | with_reducible refine w_test ?_
  | with_reducible refine w_B ?_
  | with_reducible refine w_bl ?_
  | with_reducible refine w_bl1 ?_
  | with_reducible refine w_blR ?_
  | with_reducible refine w_eqI ?_
  | with_reducible refine w_neI ?_
  | with_reducible refine w_eqS ?_
  | with_reducible refine w_neS ?_
  | with_reducible refine w_eqB ?_
  | with_reducible refine w_neB ?_
  | with_reducible refine w_and ?_
  | with_reducible refine w_or ?_
  | with_reducible refine w_not ?_
  | with_reducible refine w_andV ?_
  | with_reducible refine w_orV ?_
  | with_reducible refine w_notV ?_
  | with_reducible refine w_if ?_
  | with_reducible refine w_chain ?_
  | with_reducible refine w_un ?_
  | with_reducible refine w_U ?_
  | ((with_reducible refine' w_I ?rlc ?_); (case rlc => walk_at "rl side"))
  | with_reducible refine w_drop ?_
  | with_reducible refine w_retN ?_
  | with_reducible refine w_par ?_
  | ((with_reducible refine' w_par2 ?_); dsimp only [List.set])
  | ((with_reducible refine' w_aug ?rla ?_); (case rla => exact rfl))
  | with_reducible refine w_ipI ?_
  | with_reducible refine w_break ?_
  | with_reducible refine w_cont ?_
  | ((with_reducible refine' w_bkD ?rle ?_); (case rle => exact rfl))
  | ((with_reducible refine' w_ctD ?rle ?_); (case rle => exact rfl))
  | with_reducible refine w_tup ?_
  | with_reducible refine w_lst ?_
  | ((with_reducible refine' w_newO ?rln ?_); (case rln => exact Nat.le_of_ble_eq_true rfl); intro _ _ _ _ _)
  | ((with_reducible refine' w_new ?rln ?_); (case rln => exact Nat.le_of_ble_eq_true rfl))
  | ((with_reducible refine' w_mk ?_); intro _ _ _ _ _)
  | ((with_reducible refine' w_gTup ?rls ?rll ?_); (case rls => walk_at "rl hp"); (case rll => exact rfl))
  | with_reducible refine w_gCons ?_
  | with_reducible refine w_gNil ?_
  | with_reducible refine w_gSub ?_
  | ((with_reducible refine' w_setL ?rls ?rlj ?_); (case rls => walk_at "rl hp"); (case rlj => exact rfl))
  | ((with_reducible refine' w_ixL ?rls ?rli ?_); (case rls => walk_at "rl hp"); (case rli => exact rfl))
  | ((with_reducible refine' w_ixT ?rls ?rli ?_); (case rls => walk_at "rl hp"); (case rli => exact rfl))
  | with_reducible refine w_call ?_
  | with_reducible refine w_trI ?_
  | with_reducible refine w_yes ?_
  | with_reducible refine w_trB ?_
  | with_reducible refine w_trN ?_
  | with_reducible refine w_cb ?_
  | with_reducible refine w_fld ?_
  | ((with_reducible refine' w_fld1 ?rlo ?rlc ?rln ?rll ?_); (case rlo => walk_at "rl hp"); (case rlc => assumption); (case rln => assumption); (case rll => exact rfl))
  | with_reducible refine w_isiO ?_
  | with_reducible refine w_isiT ?_
  | ((with_reducible refine' w_isi (r := true) ?rlt ?rlk ?_); (case rlt => walk_at "rl ty"); (case rlk => exact rfl))
  | ((with_reducible refine' w_isi (r := false) ?rlt ?rlk ?_); (case rlt => walk_at "rl ty"); (case rlk => exact rfl))
  | ((with_reducible refine' w_isi2 (r := true) ?rlT ?rlt ?rlk ?_); (case rlT => walk_at "rl hp"); (case rlt => walk_at "rl ty"); (case rlk => exact rfl))
  | ((with_reducible refine' w_isi2 (r := false) ?rlT ?rlt ?rlk ?_); (case rlT => walk_at "rl hp"); (case rlt => walk_at "rl ty"); (case rlk => exact rfl))
  | with_reducible refine w_sFld ?_
  | with_reducible refine w_itemsK ?_
  | ((with_reducible refine' w_catT ?rlha ?rlhb ?rln1 ?rln2 ?rlhl ?_); (case rlha => walk_at "rl hp"); (case rlhb => walk_at "rl hp"); (case rln1 => exact (fun z => nomatch z)); (case rln2 => exact (fun z => nomatch z)); (case rlhl => exact Nat.le_trans (Nat.le_of_ble_eq_true rfl) (show 100000 ≤ sizeLine by decide)))
  | ((with_reducible refine' w_newE ?_); intro _ _ _ _ _)
  | with_reducible refine w_makeK ?_
  | ((with_reducible refine' w_sFld1 ?rlc ?rln ?rll ?rle ?_); (case rlc => assumption); (case rln => assumption); (case rll => exact Nat.lt_of_lt_of_le (Nat.lt_succ_self _) (Nat.le_of_ble_eq_true rfl)); (case rle => exact rfl))
  | ((with_reducible refine' w_sFld0 ?rlx ?rlc ?rln ?rll ?rle ?_); (case rlx => walk_at "rl hq"); (case rlc => assumption); (case rln => assumption); (case rll => exact Nat.lt_of_lt_of_le (Nat.lt_succ_self _) (Nat.le_of_ble_eq_true rfl)); (case rle => exact rfl))
  | with_reducible refine w_rflA ?_
  | with_reducible refine w_for ?_
  | with_reducible refine w_iList ?_
  | with_reducible refine w_iTup ?_
  | ((with_reducible refine' w_overL ?rls ?_); (case rls => walk_at "rl hp"))
  | ((with_reducible refine' w_overT ?rls ?_); (case rls => walk_at "rl hp"))
  | with_reducible refine w_rng1 ?_
  | ((with_reducible refine' w_rng1a ?rl1 ?rl2 ?_); (case rl1 => omega); (case rl2 => omega))
  | with_reducible refine w_rng2 ?_
  | ((with_reducible refine' w_rng2a ?rl1 ?_); (case rl1 => omega))
  | with_reducible refine w_zip2 ?_
  | with_reducible refine w_lc ?_
  | with_reducible refine w_enS ?_
  | with_reducible refine w_callSD ?_
  | with_reducible refine w_xf ?_
  | ((with_reducible refine' w_dnew ?_); intro _ _ _ _ _)
  | ((with_reducible refine' w_disp1 ?_); intro _ _ _ _ _)
  | with_reducible refine w_bm ?_
  | ((with_reducible refine' w_tyL ?rls ?_); (case rls => walk_at "rl hp"))
  | ((with_reducible refine' w_append ?rls ?rll ?_); (case rls => walk_at "rl hq"); (case rll => exact Nat.lt_of_lt_of_le (Nat.lt_succ_self _) (Nat.le_of_ble_eq_true rfl)))
  | ((with_reducible refine' w_cat ?rls ?rlt ?rll ?_); (case rls => walk_at "rl hq"); (case rlt => walk_at "rl hq"); (case rll => exact Nat.le_of_ble_eq_true rfl); intro _ _ _ _ _)
  | with_reducible refine w_int1 ?_
  | ((with_reducible refine w_intb ?_); (try dsimp only))
  | with_reducible refine w_one ?_
  | with_reducible refine w_two ?_
  | ((with_reducible refine' w_lenL ?rls ?_); (case rls => walk_at "rl hp"))
  | ((with_reducible refine' w_lenT ?rls ?_); (case rls => walk_at "rl hp"))
  | with_reducible refine w_meth ?_
  | ((with_reducible refine' w_meth1 ?rlo ?rll ?_); (case rlo => walk_at "rl hp"); (case rll => exact rfl)))
local macro_rules | `(tactic| walk_at "rl wp") => `(tactic| (repeat walk_at "rl w1"))
local macro_rules | `(tactic| walk_at "rl but") => `(tactic| first
  | assumption
  | exact But.refl _ _
  | exact But.upd
  | exact But.of_same (by assumption)
  | (refine But.trans ?_ (But.of_same (by assumption)); walk_at "rl but")
  | (refine But.trans ?_ (by assumption : But _ _ _); walk_at "rl but")
  | (refine But.trans ?_ But.upd; walk_at "rl but"))
local macro_rules | `(tactic| walk_at "rl same") => `(tactic| first
  | assumption
  | exact Same.refl _
  | (refine Same.trans ?_ (by assumption : Same _ _); walk_at "rl same"))

local macro_rules | `(tactic| walk_at "rl wi") => `(tactic| (repeat (first
  | walk_at "rl w1"
  | ((with_reducible refine' iteF' ?rlif ?_); (case rlif => exact rfl))
  | ((with_reducible refine' iteT' ?rlif ?_); (case rlif => exact rfl)))))
local macro_rules | `(tactic| walk_at "rl ty") => `(tactic| exact .base (.dK (by assumption)))
local macro_rules | `(tactic| walk_at "rl ty") => `(tactic| exact .base (.lst (by assumption)))
local macro_rules | `(tactic| walk_at "rl ty") => `(tactic| exact .base (.tup (by assumption)))
local macro_rules | `(tactic| walk_at "rl w1") => `(tactic| first
  | with_reducible refine w_par3 ?_
  | ((with_reducible refine' w_par3a ?_); dsimp only [List.set])
  | with_reducible refine w_dget ?_
  | ((with_reducible refine' w_dgetS ?rls ?rlv ?_); (case rls => walk_at "rl hq"); (case rlv => exact rfl))
  | ((with_reducible refine' w_dgetI ?rls ?rlv ?_); (case rls => walk_at "rl hq"); (case rlv => exact rfl))
  | with_reducible refine w_dget2 ?_
  | ((with_reducible refine' w_isD ?rls ?_); (case rls => walk_at "rl hq"))
  | ((with_reducible refine' w_dget2S ?rls ?_); (case rls => walk_at "rl hq"))
  | ((with_reducible refine' w_dget2I ?rls ?_); (case rls => walk_at "rl hq"))
  | ((with_reducible refine' w_setDS ?rls ?rll ?rlm ?_); (case rls => walk_at "rl hq"); (case rll => exact Nat.lt_of_lt_of_le (Nat.lt_succ_self _) (Nat.le_of_ble_eq_true rfl)); (case rlm => exact rfl))
  | ((with_reducible refine' w_tyD ?rls ?_); (case rls => walk_at "rl hq"))
  | with_reducible refine w_jNil ?_
  | with_reducible refine w_jCons ?_
  | with_reducible refine w_prop ?_
  | with_reducible refine w_makeKS ?_
  | with_reducible refine w_pNil ?_
  | with_reducible refine w_pCons ?_
  | ((with_reducible refine' w_dispN ?_); intro _ _ _ _ _))

local macro_rules | `(tactic| walk_at "rl w1") => `(tactic| with_reducible refine w_ifT ?_)
local macro_rules | `(tactic| walk_at "rl w1") => `(tactic| ((with_reducible refine' w_dispP ?_); intro _ _ _ _ _))
local macro_rules | `(tactic| walk_at "rl w1") => `(tactic| ((with_reducible refine' w_dgS ?rls ?rlv ?_); (case rls => walk_at "rl hq"); (case rlv => exact rfl)))
theorem start_9_1 (x0 x1 x2 x3 x4 x5 x6 x7 x8 : Str) (v0 : V) : L2.start [x0, x1, x2, x3, x4, x5, x6, x7, x8] [v0] = [some v0, none, none, none, none, none, none, none, none] := rfl
theorem sc__law_first_bad : FnScope ["_law_found", "_law_tops", "_law_name", "_law_begin", "_law_end", "_law_row", "_law_many", "_law_is_still", "_law_one"] ["_law_found"] (defScope (top 27)) := ⟨rfl, rfl, rfl, by decide +kernel, rfl, by decide +kernel, by decide +kernel⟩
theorem ok__law_first_bad {P : Program} {w : World} {K : PySem.W.Frag} {mg : Str → Option Value} {base : Heap} (T : TT K mg) (D__law_is_from : Ld P w K mg base CX0 1 "_law_is_from" ["_law_thing", "_law_begin", "_law_end"] [] (spIsInt)) (D__law_names : Ld P w K mg base CX0 1 "_law_names" [] [] (spNames))   : Ld P w K mg base CX0 2 "_law_first_bad" ["_law_found"] [] (spFirst) := by
  obtain ⟨⟨fd__law_is_from, ds__law_is_from, F__law_is_from, b__law_is_from, v__law_is_from⟩, g__law_is_from, k__law_is_from⟩ := D__law_is_from
  obtain ⟨⟨fd__law_names, ds__law_names, F__law_names, b__law_names, v__law_names⟩, g__law_names, k__law_names⟩ := D__law_names
  obtain ⟨fd, F⟩ := T.d__law_first_bad
  refine ⟨⟨fd, [], F.ok sc__law_first_bad (fun vs H Q E h => ?_) (fun cdv A outer s H vs Q E hr h => ?_), FunD.bindsN F (fun _ _ _ _ _ _ us hl => match us, hl with | [_], _ => rfl), .nil⟩, T.g__law_first_bad, F.kp⟩
  · obtain ⟨B, dd, v, ds, rfl, _⟩ := h
    rfl
  · obtain ⟨B, dd, v, ds, rfl, hdd, hd, q⟩ := h
    obtain ⟨x0, x1, x2, x3, x4, x5, x6, x7, x8, x9, x10, x11⟩ := v
    have kp31 : CPowW 2 31 := ⟨by decide, by decide, by decide⟩
    have kp32 : CPowW 2 32 := ⟨by decide, by decide, by decide⟩
    have e31 : (2 : Int) ^ (31 : Int).toNat = 2147483648 := by decide
    have e32 : (2 : Int) ^ (32 : Int).toNat = 4294967296 := by decide
    have HD0 := hd.at (i := 0) (x := x0) rfl
    have HD2 := hd.at (i := 2) (x := x2) rfl
    have HD3 := hd.at (i := 3) (x := x3) rfl
    have HD4 := hd.at (i := 4) (x := x4) rfl
    have HD5 := hd.at (i := 5) (x := x5) rfl
    have HD6 := hd.at (i := 6) (x := x6) rfl
    have HD11 := hd.at (i := 11) (x := x11) rfl
    obtain ⟨d0, e0, q0⟩ := HD0
    obtain ⟨d2, e2, q2⟩ := HD2
    obtain ⟨d3, e3, q3⟩ := HD3
    obtain ⟨d4, e4, q4⟩ := HD4
    obtain ⟨d5, e5, q5⟩ := HD5
    obtain ⟨d6, e6, q6⟩ := HD6
    obtain ⟨d11, e11, q11⟩ := HD11
    have g0 : ds.getD 0 .none = d0 := by rw [List.getD_eq_getElem?_getD, e0]; rfl
    have g2 : ds.getD 2 .none = d2 := by rw [List.getD_eq_getElem?_getD, e2]; rfl
    have g3 : ds.getD 3 .none = d3 := by rw [List.getD_eq_getElem?_getD, e3]; rfl
    have g4 : ds.getD 4 .none = d4 := by rw [List.getD_eq_getElem?_getD, e4]; rfl
    have g5 : ds.getD 5 .none = d5 := by rw [List.getD_eq_getElem?_getD, e5]; rfl
    have g6 : ds.getD 6 .none = d6 := by rw [List.getD_eq_getElem?_getD, e6]; rfl
    have g11 : ds.getD 11 .none = d11 := by rw [List.getD_eq_getElem?_getD, e11]; rfl
    have er : roleOk d0 = false → badName ds = some ("role" : Str) := fun c => by
      unfold badName
      rw [g0, c]
      rfl
    have eg : roleOk d0 = true → badName ds = (match numBad bnds (ds.drop 1) with
        | some s => some s
        | none => usBad (toI d2) (toI d3) (toI d4) (toI d5) (toI d6) d11) := fun c => by
      unfold badName
      rw [g0, g2, g3, g4, g5, g6, g11, if_pos c] <;> rfl
    have k1 := fun i b d => numBad_ok (bs := bnds) (ds := ds.drop 1) (i := i) (b := b) (d := d)
    clear g0 g2 g3 g4 g5 g6 g11 e0

    refine ⟨_, PSs.nox ((pss_cons (ps_if (PW.pt (pw_or (pt_not (pt_val (pe_callB call_isi (by rfl) T.m_isinstance (by decide +kernel) (pa_cons (pe_dget (room_u1 hr) (pv 0) pe_str (fun _ _ => rfl)) (pa_cons (pe_bltn (v := .ty "str") (by rfl) T.m_str (by decide +kernel) rfl) pa_nil))))) (pw_or1 (pt_cmpR op_notIn_seq (pe_dget (room_u1 hr) (pv 0) pe_str (fun _ _ => rfl)) (pe_tup (pa_cons pe_str (pa_cons pe_str (pa_cons pe_str pa_nil)))) (by rfl))))) (pss_one (ps_ret pe_str)) pss_nil) (pss_cons (ps_set (i := 1) sc__law_first_bad.nd rfl (by first | exact Or.inl rfl | exact Or.inr rfl) (pe_disp (pps_cons pe_str (pe_tup (pa_cons pe_int (pa_cons pe_int pa_nil))) (pps_cons pe_str (pe_tup (pa_cons pe_int (pa_cons pe_int pa_nil))) (pps_cons pe_str (pe_tup (pa_cons pe_int (pa_cons pe_int pa_nil))) (pps_cons pe_str (pe_tup (pa_cons pe_int (pa_cons pe_int pa_nil))) (pps_cons pe_str (pe_tup (pa_cons (pe_un un_neg pe_int) (pa_cons pe_int pa_nil))) pps_nil))))) (by rfl) (by rfl) (fun z => by cases z) (by decide))) (pss_cons (ps_asg (pe_tup (pa_cons pe_int (pa_cons (pe_op op_sub (pe_op op_powG pe_int pe_int) pe_int) pa_nil))) (pg_sub (pv 1) pe_str (set_dict (room_u1 hr)))) (pss_cons (ps_for PassesOwn.never rfl (pi_list (pe_slice sl_list (pe_call0 F__law_names hr (by rfl) g__law_names k__law_names b__law_names v__law_names pass0) po_none (po_some pe_int))) (pg_name (i := 2) sc__law_first_bad.nd rfl (by first | exact Or.inl rfl | exact Or.inr rfl)) (pss_cons (ps_asg (pe_dget2 (room_u1 hr) (pv 1) (pv 2) (pe_tup (pa_cons (pe_un un_neg (pe_op op_powG pe_int pe_int)) (pa_cons (pe_op op_sub (pe_op op_powG pe_int pe_int) pe_int) pa_nil))) ⟨by rfl, by rfl, by rfl, by rfl⟩) (pg_tup rfl (pgs_cons (pg_name (i := 3) sc__law_first_bad.nd rfl (by first | exact Or.inl rfl | exact Or.inr rfl)) (pgs_cons (pg_name (i := 4) sc__law_first_bad.nd rfl (by first | exact Or.inl rfl | exact Or.inr rfl)) pgs_nil)))) (pss_one (ps_if (pt_not (pt_val (pe_call F__law_is_from hr (by rfl) g__law_is_from k__law_is_from b__law_is_from v__law_is_from pass0 (pa_cons (pe_dget (room_u1 hr) (pv 0) (pv 2) (fun _ _ => rfl)) (pa_cons (pv 3) (pa_cons (pv 4) pa_nil)))))) (pss_one (ps_ret (pv 2))) pss_nil)))) (pss_cons (ps_par (i := 5) (j := 6) (by rfl) sc__law_first_bad.nd rfl rfl (by decide) rfl rfl (pa_cons (pe_dget (room_u1 hr) (pv 0) pe_str (fun _ _ => rfl)) (pa_cons (pe_op op_shl pe_int (pe_dget (room_u1 hr) (pv 0) pe_str (fun _ _ => rfl))) pa_nil)) (by rfl)) (pss_cons (ps_if (PW.pt (pw_or (pt_not (pt_val (pe_callB call_isi (by rfl) T.m_isinstance (by decide +kernel) (pa_cons (pv 5) (pa_cons (pe_bltn (v := .ty "tuple") (by rfl) T.m_tuple (by decide +kernel) rfl) pa_nil))))) (pw_or1 (pt_cmpR op_gt (pe_callB call_len_seq (by rfl) T.m_len PySem.boot_len (pa_cons (pv 5) pa_nil)) pe_int (nomark _))))) (pss_one (ps_ret pe_str)) pss_nil) (pss_cons (ps_if (pt_not (pt_val (pe_callB (cr_all rfl) (by rfl) T.m_all (by decide +kernel) (pa_cons (by exact (pe_lc (own := [("_law_one", 8)]) rfl sc__law_first_bad.nd (pi_tup (pv 5)) (blkOk_by (own := [("_law_one", 8)]) (N := ["_law_found", "_law_tops", "_law_name", "_law_begin", "_law_end", "_law_row", "_law_many", "_law_is_still", "_law_one"]) (sc := defScope (top 27)) (by decide +kernel)) (fun _ _ _ _ _ => by exact (pg_name (i := 8) sc__law_first_bad.nd rfl (by first | exact Or.inl rfl | exact Or.inr rfl))) (fun _ _ _ _ _ => by exact pts_nil) (fun _ _ _ _ _ => by exact (pe_call F__law_is_from hr (by rfl) g__law_is_from k__law_is_from b__law_is_from v__law_is_from pass0 (pa_cons (pv 8) (pa_cons pe_int (pa_cons (pe_op op_sub (pe_op op_powG pe_int pe_int) pe_int) pa_nil))))))) pa_nil)))) (pss_one (ps_ret pe_str)) pss_nil) (pss_cons (ps_par3 (i := 7) (j := 3) (l := 4) (by rfl) sc__law_first_bad.nd rfl rfl rfl (by decide) (by decide) (by decide) rfl rfl rfl (pa_cons (pe_cmpR op_in_seq (pe_dget (room_u1 hr) (pv 0) pe_str (fun _ _ => rfl)) (pe_tup (pa_cons pe_int (pa_cons pe_int (pa_cons pe_int (pa_cons pe_int pa_nil))))) (by rfl)) (pa_cons (pe_dget (room_u1 hr) (pv 0) pe_str (fun _ _ => rfl)) (pa_cons (pe_dget (room_u1 hr) (pv 0) pe_str (fun _ _ => rfl)) pa_nil))) (by rfl)) (pss_cons (ps_if (pt_val (pv 7)) (pss_one (ps_ret (pe_op op_repS pe_str (pe_callTy call_int1 (by rfl) T.m_int (by decide +kernel) (pa_cons (pe_cmpR (op_neD hr.units) (pv 5) (pe_tup pa_nil) (nomark _)) pa_nil))))) pss_nil) (pss_cons (ps_if (PW.pt (pw_or (pt_cmpR op_ge (pv 3) (pv 6) (nomark _)) (pw_or1 (PW.pt (pw_and (pt_cmpR op_lt (pv 3) pe_int (nomark _)) (pw_and1 (PW.pt (pw_or (pt_cmpR op_eq (pv 6) pe_int (nomark _)) (pw_or1 (pt_cmpR op_lt (pe_op op_mulW pe_int (pv 3)) (pe_un un_neg (pv 6)) (nomark _))))))))))) (pss_one (ps_ret pe_str)) pss_nil) (pss_cons (ps_if (PW.pt (pw_or (pt_cmpR op_lt (pv 4) (pv 3) (nomark _)) (pw_or1 (pt_ifT (pt_cmpR op_lt (pv 3) pe_int (nomark _)) (pt_cmpR op_ge (pe_op op_mulW pe_int (pv 4)) (pv 6) (nomark _)) (pt_cmpR op_ge (pv 4) (pv 6) (nomark _)))))) (pss_one (ps_ret pe_str)) pss_nil) (pss_cons (ps_if (pt_cmpR op_in_seq (pe_dget (room_u1 hr) (pv 0) pe_str (fun _ _ => rfl)) (pe_tup (pa_cons pe_int (pa_cons pe_int pa_nil))) (by rfl)) (pss_one (ps_ret (pe_op op_repS pe_str (pe_callTy call_int1 (by rfl) T.m_int (by decide +kernel) (pa_cons (pe_cmpR op_ne (pe_callB call_len_seq (by rfl) T.m_len PySem.boot_len (pa_cons (pv 5) pa_nil)) (pe_dget (room_u1 hr) (pv 0) pe_str (fun _ _ => rfl)) (nomark _)) pa_nil))))) pss_nil) (pss_one (ps_ret (pe_op op_repS pe_str (pe_callTy call_int1 (by rfl) T.m_int (by decide +kernel) (pa_cons (pe_not (pe_chain op_le op_le pe_int (pe_callB call_len_seq (by rfl) T.m_len PySem.boot_len (pa_cons (pv 5) pa_nil)) (pe_op op_add (pe_op op_sub (pv 4) (pv 3)) pe_int))) pa_nil)))))))))))))))))), ?_⟩; rw [start_9_1]; try dsimp only [cxOf]
    have hx1 : DqAll H B [x1, x2, x3, x4, x5, x6, x7, x8, x9, x10, x11] (ds.drop 1) := DqAll.drop 1 hd
    cases q0 with
    | str y =>
      walk_at "rl wi"
      rename_i tR HR nR sR hR
      refine w_inT (SqT.of hR) rfl rfl ?_
      rw [inRoleN]
      cases hr0 : roleOk (.str y) with
      | false =>
        rw [er hr0] at q
        walk_at "rl wi"
        exact q _ sR
      | true =>
      rw [eg hr0] at q
      clear er eg
      walk_at "rl wi"
      rename_i D Ha nD sD hD t1 Hb n1 s1 h1 t2 Hc n2 s2 h2 t3 Hd n3 s3 h3 t4 He n4 s4 h4 t5 Hf n5 s5 h5
      refine w_dispE2 [(.inr "number", .ref t1), (.inr "flags", .ref t2), (.inr "size", .ref t3), (.inr "amount", .ref t4), (.inr "exponent", .ref t5)] [(.inr "number", .ref t1), (.inr "flags", .ref t2), (.inr "size", .ref t3), (.inr "amount", .ref t4), (.inr "exponent", .ref t5)] ?dpe rfl (Nat.le_of_ble_eq_true rfl) rfl ?dpk
      case dpe => walk_at "rl hq"
      intro H4 bt4 hD4
      have k1' : H4 t1 = some (.tup [.int 0, .int 255]) := by walk_at "rl hq"
      have k2' : H4 t2 = some (.tup [.int 0, .int 7]) := by walk_at "rl hq"
      have k3' : H4 t3 = some (.tup [.int 0, .int 32]) := by walk_at "rl hq"
      have k4' : H4 t4 = some (.tup [.int 0, .int 255]) := by walk_at "rl hq"
      have k5' : H4 t5 = some (.tup [.int (-8), .int 7]) := by walk_at "rl hq"
      have sH4 : Same H H4 := sR.trans (Same.but_new nD (by walk_at "rl same") bt4)
      clear bt4 h1 h2 h3 h4 h5 hD s1 s2 s3 s4 s5 sD
      walk_at "rl wp"
      rename_i t6 Hg n6 s6 h6
      rw [show putK ([(.inr "number", .ref t1), (.inr "flags", .ref t2), (.inr "size", .ref t3), (.inr "amount", .ref t4), (.inr "exponent", .ref t5)] : List (Key × V)) (.inr "unit") (.ref t6) = [(.inr "number", .ref t1), (.inr "flags", .ref t2), (.inr "size", .ref t3), (.inr "amount", .ref t4), (.inr "exponent", .ref t5), (.inr "unit", .ref t6)] from rfl]
      obtain ⟨H7, e7⟩ : ∃ H7, H7 = upd Hg D (HO.dK [(.inr "number", .ref t1), (.inr "flags", .ref t2), (.inr "size", .ref t3), (.inr "amount", .ref t4), (.inr "exponent", .ref t5), (.inr "unit", .ref t6)]) := ⟨_, rfl⟩
      rw [← e7]
      have hD7 : H7 D = some (.dK [(.inr "number", .ref t1), (.inr "flags", .ref t2), (.inr "size", .ref t3), (.inr "amount", .ref t4), (.inr "exponent", .ref t5), (.inr "unit", .ref t6)]) := by rw [e7]; exact upd_same
      have b47 : But D H4 H7 := But.trans (But.of_same s6) (by rw [e7]; exact But.upd)
      have k6' : H7 t6 = some (.tup [.int 0, .int (2 ^ (32 : Int).toNat - 1)]) := by rw [e7, upd_ne (ne_of_none (s6 _ _ hD4 |> fun _ => hD4) n6).symm]; exact h6
      have nDH : H D = none := fresh_same sR nD
      have sH7 : Same H H7 := Same.but_new nDH sH4 b47
      have kk : ∀ t : Addr, ∀ xs, H4 t = some (.tup xs) → H7 t = some (.tup xs) := fun t xs e => b47 _ _ (ne_of e hD4 (fun z => nomatch z)) e
      replace k1' := kk _ _ k1'
      replace k2' := kk _ _ k2'
      replace k3' := kk _ _ k3'
      replace k4' := kk _ _ k4'
      replace k5' := kk _ _ k5'
      clear kk b47 hD4 sH4 e7 h6 s6 hR sR
      rw [e32] at k6'
      refine w_slL ?_
      walk_at "rl wp"
      refine ⟨rfl, fun pn H8 nn sn hn => ?_⟩
      refine w_noPart ?_
      refine w_part ?_
      walk_at "rl wp"
      refine ⟨10, rfl, pn, _, rfl, SqL.of hn, fun pq npq => ?_⟩
      obtain ⟨H9, e9⟩ : ∃ H9, H9 = upd H8 pq (HO.lst [.str "number", .str "flags", .str "size", .str "amount", .str "low", .str "high", .str "plow", .str "phigh", .str "exponent", .str "unit"]) := ⟨_, rfl⟩
      rw [show upd H8 pq (HO.lst (cutV [V.str "number", .str "flags", .str "size", .str "amount", .str "low", .str "high", .str "plow", .str "phigh", .str "exponent", .str "unit", .str "usages"] none (some 10))) = H9 from by rw [e9]; rfl]
      have hp9 : H9 pq = some (.lst [.str "number", .str "flags", .str "size", .str "amount", .str "low", .str "high", .str "plow", .str "phigh", .str "exponent", .str "unit"]) := by rw [e9]; exact upd_same
      have s79 : Same H7 H9 := sn.trans (by rw [e9]; exact same_upd npq)
      have sH9 : Same H H9 := sH7.trans s79
      have hd9 : H9 dd = some (.dK (Fa.kv ⟨.str y, x1, x2, x3, x4, x5, x6, x7, x8, x9, x10, x11⟩)) := sH9 _ _ hdd
      replace hD7 := s79 _ _ hD7
      replace k1' := s79 _ _ k1'
      replace k2' := s79 _ _ k2'
      replace k3' := s79 _ _ k3'
      replace k4' := s79 _ _ k4'
      replace k5' := s79 _ _ k5'
      replace k6' := s79 _ _ k6'
      clear e9 hn sn s79 sH7
      walk_at "rl wp"
      refine w_forS (fun i σ' H' => Same H9 H' ∧ numBad bnds (ds.drop 1) = numBad (bnds.drop i) ((ds.drop 1).drop i) ∧ ∃ s2 s3 s4, σ' = [some (.ref dd), some (.ref D), s2, s3, s4, none, none, none, none]) (fun i σ' H' ⟨sm, _⟩ => seqL (SqL.of (sm _ _ hp9))) ⟨Same.refl _, rfl, _, _, _, rfl⟩ ?_ ?_
      · rintro i x σ' H' hx ⟨sm, en, s2, s3, s4, rfl⟩
        have hi : i < 10 := (List.getElem?_eq_some_iff.mp hx).1
        obtain ⟨nm, lo, hi', xi, rfl, b2, hv, hxi, TF⟩ : ∃ nm lo hi' xi, x = V.str nm ∧ bnds[i]? = some (nm, lo, hi') ∧ valV (Fa.kv ⟨.str y, x1, x2, x3, x4, x5, x6, x7, x8, x9, x10, x11⟩) (.inr nm) = some xi ∧ [x1, x2, x3, x4, x5, x6, x7, x8, x9, x10, x11][i]? = some xi ∧
            ∀ (td : Addr) (Hx : Hp), Same H9 Hx → Hx td = some (.tup [.int (-2147483648), .int 2147483647]) → ∃ tt, (valV ([(.inr "number", .ref t1), (.inr "flags", .ref t2), (.inr "size", .ref t3), (.inr "amount", .ref t4), (.inr "exponent", .ref t5), (.inr "unit", .ref t6)] : List (Key × V)) (.inr nm)).getD (.ref td) = .ref tt ∧ Hx tt = some (.tup [.int lo, .int hi']) := by
          rcases (show i = 0 ∨ i = 1 ∨ i = 2 ∨ i = 3 ∨ i = 4 ∨ i = 5 ∨ i = 6 ∨ i = 7 ∨ i = 8 ∨ i = 9 by omega) with rfl | rfl | rfl | rfl | rfl | rfl | rfl | rfl | rfl | rfl <;> obtain rfl := Option.some.inj hx
          · exact ⟨_, _, _, _, rfl, rfl, rfl, rfl, fun td Hx s h => ⟨t1, rfl, s _ _ k1'⟩⟩
          · exact ⟨_, _, _, _, rfl, rfl, rfl, rfl, fun td Hx s h => ⟨t2, rfl, s _ _ k2'⟩⟩
          · exact ⟨_, _, _, _, rfl, rfl, rfl, rfl, fun td Hx s h => ⟨t3, rfl, s _ _ k3'⟩⟩
          · exact ⟨_, _, _, _, rfl, rfl, rfl, rfl, fun td Hx s h => ⟨t4, rfl, s _ _ k4'⟩⟩
          · exact ⟨_, _, _, _, rfl, rfl, rfl, rfl, fun td Hx s h => ⟨td, rfl, h⟩⟩
          · exact ⟨_, _, _, _, rfl, rfl, rfl, rfl, fun td Hx s h => ⟨td, rfl, h⟩⟩
          · exact ⟨_, _, _, _, rfl, rfl, rfl, rfl, fun td Hx s h => ⟨td, rfl, h⟩⟩
          · exact ⟨_, _, _, _, rfl, rfl, rfl, rfl, fun td Hx s h => ⟨td, rfl, h⟩⟩
          · exact ⟨_, _, _, _, rfl, rfl, rfl, rfl, fun td Hx s h => ⟨t5, rfl, s _ _ k5'⟩⟩
          · exact ⟨_, _, _, _, rfl, rfl, rfl, rfl, fun td Hx s h => ⟨t6, rfl, s _ _ k6'⟩⟩
        obtain ⟨d, ed, qd⟩ := hx1.at hxi
        have est := numBad_step b2 ed
        walk_at "rl wp"
        rename_i td Hx ntd std htd
        have htd' : Hx td = some (.tup [.int (-2147483648), .int 2147483647]) := by rw [htd, e31]; rfl
        have s9x : Same H9 Hx := sm.trans std
        obtain ⟨tt, ett, htt⟩ := TF td Hx s9x htd'
        have hdx := s9x _ _ hd9
        have sHx := sH9.trans s9x
        refine ⟨_, DGet.k (k := .inr nm) (s9x _ _ hD7), ?_⟩
        rw [ett]
        clear TF htd
        walk_at "rl wp"
        refine w_dgS hdx hv ?_
        walk_at "rl wp"
        refine ⟨_, _, _, _, _, rfl, qd.same sHx, ?_⟩
        walk_at "rl wp"
        cases hI : inI d lo hi' with
        | true =>
          refine iteF' rfl ?_
          walk_at "rl wp"
          rw [hI, if_pos rfl] at est
          exact ⟨s9x, en.trans est, _, _, _, rfl⟩
        | false =>
          refine iteT' rfl ?_
          walk_at "rl wp"
          rw [hI, if_neg (by decide)] at est
          rw [en, est] at q
          exact q _ sHx
      rintro σ' H' ⟨sm, en, s2, s3, s4, rfl⟩
      have en0 : numBad bnds (ds.drop 1) = none := by rw [en]; rfl
      rw [en0] at q
      have q : ∀ H', Same H H' → Q (.str ((usBad (toI d2) (toI d3) (toI d4) (toI d5) (toI d6) d11).getD "")) H' := q
      clear en
      have ed : ∀ k : Nat, (ds.drop 1)[k]? = ds[k + 1]? := fun k => by rw [List.getElem?_drop, Nat.add_comm]
      obtain ⟨i2, rfl, f0, f1⟩ := inI_ex (k1 1 _ d2 en0 rfl ((ed 1).trans e2))
      obtain ⟨i3, rfl, z0, z1⟩ := inI_ex (k1 2 _ d3 en0 rfl ((ed 2).trans e3))
      obtain ⟨i4, rfl, _, _⟩ := inI_ex (k1 3 _ d4 en0 rfl ((ed 3).trans e4))
      obtain ⟨i5, rfl, l0, l1⟩ := inI_ex (k1 4 _ d5 en0 rfl ((ed 4).trans e5))
      obtain ⟨i6, rfl, l2, l3⟩ := inI_ex (k1 5 _ d6 en0 rfl ((ed 5).trans e6))
      clear k1 ed
      cases q2
      cases q3
      cases q4
      cases q5
      cases q6
      have z0' : 0 ≤ i3 := z0
      have z1' : i3 ≤ 32 := z1
      have f0' : 0 ≤ i2 := f0
      have f1' : i2 ≤ 7 := f1
      have l0' : -2147483648 ≤ i5 := l0
      have l1' : i5 ≤ 2147483647 := l1
      have l2' : -2147483648 ≤ i6 := l2
      have l3' : i6 ≤ 2147483647 := l3
      have kc : CPow 1 i3 := ⟨by omega, by omega, by decide⟩
      have km1 : CMulW 2 i6 := cm_of 64 (by decide) (by omega) (by decide) (by decide)
      have km2 : CMulW 2 i5 := cm_of 64 (by decide) (by omega) (by decide) (by decide)
      have hq' : Same H H' := sH9.trans sm
      have ha2 := hq' _ _ hdd
      clear hD7 k1' k2' k3' k4' k5' k6' hd9 hp9 npq nn
      cases q11 with
      | @tup pu us es e nb hes =>
        have e' := hq' _ _ e
        have q : ∀ H', Same H H' → Q (.str ((if (decide (es.length ≤ 256) && es.all fun d => inI d 0 4294967295) = true then lastBad i2 i3 i4 i5 i6 es.length else some ("usages" : Str)).getD "")) H' := q
        walk_at "rl wi"
        rw [hes.len]
        refine ite_dec (fun c => ?_) (fun c => ?_)
        · rw [decide_eq_false (by omega), Bool.false_and] at q
          walk_at "rl wi"
          exact q _ hq'
        rw [decide_eq_true (by omega), Bool.true_and] at q
        walk_at "rl wp"
        refine w_lcSL (fun L i acc H2 => Same H' H2 ∧ acc = (es.take i).map fun d => V.bl (inI d 0 (2 ^ (32 : Int).toNat - 1))) (fun L i acc H2 ⟨sm, _⟩ => seqT (SqT.of (sm _ _ e'))) (fun L n => ⟨same_upd n, rfl⟩) ?_ ?_
        · rintro L i acc x H7 nL hx eL hacc ⟨sm7, rfl⟩
          obtain ⟨dd', hdd', hx2⟩ := hes.at hx
          have hi2 : i < es.length := (List.getElem?_eq_some_iff.mp hdd').1
          have hx3 := hx2.same (hq'.trans sm7)
          walk_at "rl wp"
          refine ⟨rfl, ?_⟩
          dsimp only [wipe, List.map, List.foldl, List.set]
          walk_at "rl wi"
          refine ⟨_, _, _, _, _, rfl, hx3, lc_put (n := es.length) eL hacc hi2 (by omega) ⟨Same.updN nL sm7, take_step (f := fun d => V.bl (inI d 0 (2 ^ (32 : Int).toNat - 1))) hdd'⟩⟩
        rintro L acc H7 nL eL ⟨sm7, rfl⟩
        have ha7 := sm7 _ _ ha2
        have sH7 : Same H H7 := hq'.trans sm7
        have elt : es.take us.length = es := by rw [hes.len]; exact List.take_length
        rw [elt, show (2 : Int) ^ (32 : Int).toNat - 1 = 4294967295 from by decide] at eL
        have e7' := sH7 _ _ e
        walk_at "rl wp"
        refine w_all (bs := es.map fun d => inI d 0 4294967295) (by rw [List.map_map]; exact SqL.of eL) ?_
        rw [show (es.map fun d => inI d 0 4294967295).all id = es.all fun d => inI d 0 4294967295 from by rw [List.all_map]; rfl]
        cases hall : es.all fun d => inI d 0 4294967295 with
        | false =>
          rw [hall] at q
          walk_at "rl wi"
          exact q _ sH7
        | true =>
        rw [hall, if_pos rfl] at q
        obtain ⟨is, rfl, rfl⟩ := ints_of hes hall
        clear sm sm7 ha2 e' elt eL sH9 c
        walk_at "rl wi"
        rename_i tq Hq nq sq hq1
        refine w_inT (SqT.of hq1) rfl rfl ?_
        rw [still_in f0' f1']
        have haq := sq _ _ ha7
        have sHq : Same H Hq := sH7.trans sq
        have eq' : Hq pu = some (.tup (is.map V.int)) := sq _ _ e7'
        clear ha7 e7' hq1
        walk_at "rl wp"
        obtain ⟨M, hM⟩ : ∃ M : Int, M = 1 * 2 ^ i3.toNat := ⟨_, rfl⟩
        rw [← hM]
        by_cases c1 : Builtin.bitAnd i2 1 = 0
        · refine iteF' (decide_eq_false (fun z => z c1)) ?_
          with_reducible refine w_next ?_
          try (with_reducible refine w_nx ?_)
          refine w_cut (fun σ' H2 => ∃ y2 y7 y8, σ' = [some (.ref dd), some (.ref D), y2, some (.int i5), some (.int i6), some (.ref pu), some (.int M), y7, y8] ∧ H2 = Hq ∧ ¬ (M ≤ i5 ∨ (i5 < 0 ∧ (M = 1 ∨ 2 * i5 < -M)))) ?_ ?_
          · intro N hN
            walk_at "rl wp"
            refine ite_dec (fun g => ?_) (fun g => ?_)
            · skip
              have eb := low_bad (hi := i6) z0' z1' hM (.inl g)
              rw [lastBad_rng c1 eb] at q
              walk_at "rl wi"
              exact q _ sHq
            walk_at "rl wp"
            refine ite_dec (fun g2 => ?_) (fun g2 => ?_)
            · walk_at "rl wp"
              refine ite_dec (fun g3 => ?_) (fun g3 => ?_)
              · skip
                have eb := low_bad (hi := i6) z0' z1' hM (.inr ⟨g2, .inl g3⟩)
                rw [lastBad_rng c1 eb] at q
                walk_at "rl wi"
                exact q _ sHq
              walk_at "rl wp"
              refine ite_dec (fun g4 => ?_) (fun g4 => ?_)
              · skip
                have eb := low_bad (hi := i6) z0' z1' hM (.inr ⟨g2, .inr g4⟩)
                rw [lastBad_rng c1 eb] at q
                walk_at "rl wi"
                exact q _ sHq
              walk_at "rl wi"
              exact hN _ _ ⟨_, _, _, rfl, rfl, by omega⟩
            walk_at "rl wi"
            exact hN _ _ ⟨_, _, _, rfl, rfl, by omega⟩
          rintro σ' H2 ⟨y2, y7, y8, rfl, rfl, nl⟩
          refine w_cut (fun σ' H3 => ∃ y2 y7 y8, σ' = [some (.ref dd), some (.ref D), y2, some (.int i5), some (.int i6), some (.ref pu), some (.int M), y7, y8] ∧ H3 = H2 ∧ ¬ (i6 < i5 ∨ (i5 < 0 ∧ M ≤ 2 * i6) ∨ (¬ i5 < 0 ∧ M ≤ i6))) ?_ ?_
          · intro N hN
            walk_at "rl wp"
            refine ite_dec (fun g => ?_) (fun g => ?_)
            · skip
              have eb := high_bad z0' z1' hM nl (.inl g)
              rw [lastBad_rng c1 eb] at q
              walk_at "rl wi"
              exact q _ sHq
            walk_at "rl wp"
            refine ite_dec (fun g2 => ?_) (fun g2 => ?_)
            · walk_at "rl wp"
              refine ite_dec (fun g3 => ?_) (fun g3 => ?_)
              · skip
                have eb := high_bad z0' z1' hM nl (.inr (.inl ⟨g2, g3⟩))
                rw [lastBad_rng c1 eb] at q
                walk_at "rl wi"
                exact q _ sHq
              walk_at "rl wi"
              exact hN _ _ ⟨_, _, _, rfl, rfl, by omega⟩
            walk_at "rl wp"
            refine ite_dec (fun g3 => ?_) (fun g3 => ?_)
            · skip
              have eb := high_bad z0' z1' hM nl (.inr (.inr ⟨g2, g3⟩))
              rw [lastBad_rng c1 eb] at q
              walk_at "rl wi"
              exact q _ sHq
            walk_at "rl wi"
            exact hN _ _ ⟨_, _, _, rfl, rfl, by omega⟩
          rintro σ' H3 ⟨y2, y7, y8, rfl, rfl, nh⟩
          have er := range_good z0' z1' hM nl nh
          walk_at "rl wp"
          rename_i tv Hv nv sv hv1
          refine w_inT (SqT.of hv1) rfl rfl ?_
          rw [var_in f0' f1' c1]
          have hav := sv _ _ haq
          have ev' : SqT K Hv pu (is.map V.int) := SqT.of (sv _ _ eq')
          have sHv := sHq.trans sv
          walk_at "rl wp"
          by_cases c2 : Builtin.bitAnd i2 2 = 0
          · refine iteF' (decide_eq_false (fun z => z c2)) ?_
            rw [lastBad_arr c1 er c2] at q
            have q := q _ sHv
            simp only [List.length_map] at q
            walk_at "rl wp"
            simp only [List.length_map]
            refine ite_dec (fun g => ?_) (fun g => ?_)
            · rw [decide_eq_true g, Bool.true_and] at q
              walk_at "rl wp"
              refine w_repS (by split <;> decide) (by split <;> decide) (by decide) (by decide) ?_
              rw [us_text]
              walk_at "rl wp"
              rw [neg_text]
              exact q
            · rw [decide_eq_false g, Bool.false_and] at q
              walk_at "rl wp"
              refine w_repS (by split <;> decide) (by split <;> decide) (by decide) (by decide) ?_
              rw [us_text]
              walk_at "rl wp"
              exact q
          · refine iteT' (decide_eq_true c2) ?_
            rw [lastBad_var c1 er c2] at q
            have q := q _ sHv
            simp only [List.length_map] at q
            walk_at "rl wp"
            refine w_repS (by split <;> decide) (by split <;> decide) (by decide) (by decide) ?_
            rw [us_text]
            walk_at "rl wp"
            simp only [List.length_map]
            rw [neg_text]
            exact q
        · refine iteT' (decide_eq_true c1) ?_
          rw [lastBad_still c1] at q
          walk_at "rl wp"
          rename_i te He ne se he
          refine ⟨.tuple (is.map PyData.int), .tuple [], .tup (SqT.of (se _ _ eq')) (dpI is), .tup (SqT.of he) .nil, shaped_tup (layI is) (depI is), rfl, ?_⟩
          rw [eqv_nil]
          walk_at "rl wp"
          refine w_repS (by split <;> decide) (by split <;> decide) (by decide) (by decide) ?_
          rw [us_text]
          walk_at "rl wp"
          have q := q _ (sHq.trans se)
          by_cases c2 : (is.map PyData.int).length = 0
          · rw [if_pos c2] at q
            rw [decide_eq_true c2]
            exact q
          · rw [if_neg c2] at q
            rw [decide_eq_false c2]
            exact q
      | lst e nb hes => have e' := hq' _ _ e; walk_at "rl wi"; exact q _ hq'
      | dk0 e nb => have e' := hq' _ _ e; walk_at "rl wi"; exact q _ hq'
      | dk1 e nb => have e' := hq' _ _ e; walk_at "rl wi"; exact q _ hq'
      | _ => walk_at "rl wi"; exact q _ hq'
    | _ => rw [er rfl] at q; walk_at "rl wi"; exact q _ (Same.refl _)
end T16
end
section
set_option Elab.async false
set_option linter.all false
set_option maxRecDepth 100000
set_option maxHeartbeats 1000000
namespace T16
open PySem PySem.Spec PyProof.Rows L2 L2.RL
local macro_rules | `(tactic| walk_at "rl ty") => `(tactic| first
  | assumption
  | exact .base (.int _)
  | exact .base (.str _)
  | exact .base .non
  | exact .base (.bl _)
  | exact ty_sqT (by walk_at "rl hp")
  | exact ty_sqL (by walk_at "rl hp")
  | exact .base (.tup (by walk_at "rl hp"))
  | exact .base (.lst (by walk_at "rl hp"))
  | exact .base (.dK (by walk_at "rl hp")))
local macro_rules | `(tactic| walk_at "rl if") => `(tactic| first
  | with_reducible refine iteT' rfl ?_
  | with_reducible refine iteF' rfl ?_
  | (refine iteT' rfl ?_)
  | (refine iteF' rfl ?_))
local macro_rules | `(tactic| walk_at "rl side") => `(tactic| first | assumption | omega | (constructor <;> omega) | decide)
local macro_rules | `(tactic| walk_at "rl ne") => `(tactic| first
  | assumption
  | exact Ne.symm (by assumption)
  | walk_at "rl ne2"
  | exact ne_of (by assumption) (by walk_at "rl hq") (by intro z; cases z)
  | exact (ne_of (by assumption) (by walk_at "rl hq") (by intro z; cases z)).symm)
local macro_rules | `(tactic| walk_at "rl hq") => `(tactic| first
  | assumption
  | exact upd_same
  | (refine' upd_at ?rlne ?rlhq; (case rlne => walk_at "rl ne"); (case rlhq => walk_at "rl hq"))
  | (refine' Same.at ?rlsa ?rlhq; (case rlsa => assumption); (case rlhq => walk_at "rl hq"))
  | (refine' But.at ?rlbu ?rlne ?rlhq; (case rlbu => assumption); (case rlne => walk_at "rl ne"); (case rlhq => walk_at "rl hq")))
local macro_rules | `(tactic| walk_at "rl hp") => `(tactic| first
  | assumption
  | (refine' SqL.of ?rlhq; (case rlhq => walk_at "rl hq"))
  | (refine' SqT.of ?rlhq; (case rlhq => walk_at "rl hq"))
  | (refine' Same.seq ?rlsa ?rlhp; (case rlsa => assumption); (case rlhp => walk_at "rl hp"))
  | (refine' Same.sqT ?rlsa ?rlhp; (case rlsa => assumption); (case rlhp => walk_at "rl hp"))
  | walk_at "rl hp2"
  | walk_at "rl hq")
local macro_rules | `(tactic| walk_at "rl w1") => `(tactic| first
  | with_reducible refine w_seq ?_
  | ((with_reducible refine' w_var ?rlv ?_); (case rlv => exact rfl))
  | with_reducible refine w_c ?_
  | with_reducible refine w_op ?_
  | with_reducible refine w_I0 ?_
  | with_reducible refine w_asg ?_
  | ((with_reducible refine' w_gName ?_); dsimp only [List.set])
  | ((with_reducible refine' w_nxD ?rle ?_); (case rle => exact rfl))
  | ((with_reducible refine' w_rtD ?rle ?_); (case rle => exact rfl))
  | with_reducible refine w_next ?_
  | with_reducible refine w_ret ?_
  | with_reducible refine w_cons ?_
  | with_reducible refine w_nil ?_
  | with_reducible refine w_ifS ?_
  | with_reducible refine w_test ?_
  | with_reducible refine w_B ?_
  | with_reducible refine w_bl ?_
  | with_reducible refine w_bl1 ?_
  | with_reducible refine w_blR ?_
  | with_reducible refine w_eqI ?_
  | with_reducible refine w_neI ?_
  | with_reducible refine w_eqS ?_
  | with_reducible refine w_neS ?_
  | with_reducible refine w_eqB ?_
  | with_reducible refine w_neB ?_
  | with_reducible refine w_and ?_
  | with_reducible refine w_or ?_
  | with_reducible refine w_not ?_
  | with_reducible refine w_andV ?_
  | with_reducible refine w_orV ?_
  | with_reducible refine w_notV ?_
  | with_reducible refine w_if ?_
  | with_reducible refine w_chain ?_
  | with_reducible refine w_un ?_
  | with_reducible refine w_U ?_
  | ((with_reducible refine' w_I ?rlc ?_); (case rlc => walk_at "rl side"))
  | with_reducible refine w_drop ?_
  | with_reducible refine w_retN ?_
  | with_reducible refine w_par ?_
  | ((with_reducible refine' w_par2 ?_); dsimp only [List.set])
  | ((with_reducible refine' w_aug ?rla ?_); (case rla => exact rfl))
  | with_reducible refine w_ipI ?_
  | with_reducible refine w_break ?_
  | with_reducible refine w_cont ?_
  | ((with_reducible refine' w_bkD ?rle ?_); (case rle => exact rfl))
  | ((with_reducible refine' w_ctD ?rle ?_); (case rle => exact rfl))
  | with_reducible refine w_tup ?_
  | with_reducible refine w_lst ?_
  | ((with_reducible refine' w_newO ?rln ?_); (case rln => exact Nat.le_of_ble_eq_true rfl); intro _ _ _ _ _)
  | ((with_reducible refine' w_new ?rln ?_); (case rln => exact Nat.le_of_ble_eq_true rfl))
  | ((with_reducible refine' w_mk ?_); intro _ _ _ _ _)
  | ((with_reducible refine' w_gTup ?rls ?rll ?_); (case rls => walk_at "rl hp"); (case rll => exact rfl))
  | with_reducible refine w_gCons ?_
  | with_reducible refine w_gNil ?_
  | with_reducible refine w_gSub ?_
  | ((with_reducible refine' w_setL ?rls ?rlj ?_); (case rls => walk_at "rl hp"); (case rlj => exact rfl))
  | ((with_reducible refine' w_ixL ?rls ?rli ?_); (case rls => walk_at "rl hp"); (case rli => exact rfl))
  | ((with_reducible refine' w_ixT ?rls ?rli ?_); (case rls => walk_at "rl hp"); (case rli => exact rfl))
  | with_reducible refine w_call ?_
  | with_reducible refine w_trI ?_
  | with_reducible refine w_yes ?_
  | with_reducible refine w_trB ?_
  | with_reducible refine w_trN ?_
  | with_reducible refine w_cb ?_
  | with_reducible refine w_fld ?_
  | ((with_reducible refine' w_fld1 ?rlo ?rlc ?rln ?rll ?_); (case rlo => walk_at "rl hp"); (case rlc => assumption); (case rln => assumption); (case rll => exact rfl))
  | with_reducible refine w_isiO ?_
  | with_reducible refine w_isiT ?_
  | ((with_reducible refine' w_isi (r := true) ?rlt ?rlk ?_); (case rlt => walk_at "rl ty"); (case rlk => exact rfl))
  | ((with_reducible refine' w_isi (r := false) ?rlt ?rlk ?_); (case rlt => walk_at "rl ty"); (case rlk => exact rfl))
  | ((with_reducible refine' w_isi2 (r := true) ?rlT ?rlt ?rlk ?_); (case rlT => walk_at "rl hp"); (case rlt => walk_at "rl ty"); (case rlk => exact rfl))
  | ((with_reducible refine' w_isi2 (r := false) ?rlT ?rlt ?rlk ?_); (case rlT => walk_at "rl hp"); (case rlt => walk_at "rl ty"); (case rlk => exact rfl))
  | with_reducible refine w_sFld ?_
  | with_reducible refine w_itemsK ?_
  | ((with_reducible refine' w_catT ?rlha ?rlhb ?rln1 ?rln2 ?rlhl ?_); (case rlha => walk_at "rl hp"); (case rlhb => walk_at "rl hp"); (case rln1 => exact (fun z => nomatch z)); (case rln2 => exact (fun z => nomatch z)); (case rlhl => exact Nat.le_trans (Nat.le_of_ble_eq_true rfl) (show 100000 ≤ sizeLine by decide)))
  | ((with_reducible refine' w_newE ?_); intro _ _ _ _ _)
  | with_reducible refine w_makeK ?_
  | ((with_reducible refine' w_sFld1 ?rlc ?rln ?rll ?rle ?_); (case rlc => assumption); (case rln => assumption); (case rll => exact Nat.lt_of_lt_of_le (Nat.lt_succ_self _) (Nat.le_of_ble_eq_true rfl)); (case rle => exact rfl))
  | ((with_reducible refine' w_sFld0 ?rlx ?rlc ?rln ?rll ?rle ?_); (case rlx => walk_at "rl hq"); (case rlc => assumption); (case rln => assumption); (case rll => exact Nat.lt_of_lt_of_le (Nat.lt_succ_self _) (Nat.le_of_ble_eq_true rfl)); (case rle => exact rfl))
  | with_reducible refine w_rflA ?_
  | with_reducible refine w_for ?_
  | with_reducible refine w_iList ?_
  | with_reducible refine w_iTup ?_
  | ((with_reducible refine' w_overL ?rls ?_); (case rls => walk_at "rl hp"))
  | ((with_reducible refine' w_overT ?rls ?_); (case rls => walk_at "rl hp"))
  | with_reducible refine w_rng1 ?_
  | ((with_reducible refine' w_rng1a ?rl1 ?rl2 ?_); (case rl1 => omega); (case rl2 => omega))
  | with_reducible refine w_rng2 ?_
  | ((with_reducible refine' w_rng2a ?rl1 ?_); (case rl1 => omega))
  | with_reducible refine w_zip2 ?_
  | with_reducible refine w_lc ?_
  | with_reducible refine w_enS ?_
  | with_reducible refine w_callSD ?_
  | with_reducible refine w_xf ?_
  | ((with_reducible refine' w_dnew ?_); intro _ _ _ _ _)
  | ((with_reducible refine' w_disp1 ?_); intro _ _ _ _ _)
  | with_reducible refine w_bm ?_
  | ((with_reducible refine' w_tyL ?rls ?_); (case rls => walk_at "rl hp"))
  | ((with_reducible refine' w_append ?rls ?rll ?_); (case rls => walk_at "rl hq"); (case rll => exact Nat.lt_of_lt_of_le (Nat.lt_succ_self _) (Nat.le_of_ble_eq_true rfl)))
  | ((with_reducible refine' w_cat ?rls ?rlt ?rll ?_); (case rls => walk_at "rl hq"); (case rlt => walk_at "rl hq"); (case rll => exact Nat.le_of_ble_eq_true rfl); intro _ _ _ _ _)
  | with_reducible refine w_int1 ?_
  | ((with_reducible refine w_intb ?_); (try dsimp only))
  | with_reducible refine w_one ?_
  | with_reducible refine w_two ?_
  | ((with_reducible refine' w_lenL ?rls ?_); (case rls => walk_at "rl hp"))
  | ((with_reducible refine' w_lenT ?rls ?_); (case rls => walk_at "rl hp"))
  | with_reducible refine w_meth ?_
  | ((with_reducible refine' w_meth1 ?rlo ?rll ?_); (case rlo => walk_at "rl hp"); (case rll => exact rfl)))
local macro_rules | `(tactic| walk_at "rl wp") => `(tactic| (repeat walk_at "rl w1"))
local macro_rules | `(tactic| walk_at "rl but") => `(tactic| first
  | assumption
  | exact But.refl _ _
  | exact But.upd
  | exact But.of_same (by assumption)
  | (refine But.trans ?_ (But.of_same (by assumption)); walk_at "rl but")
  | (refine But.trans ?_ (by assumption : But _ _ _); walk_at "rl but")
  | (refine But.trans ?_ But.upd; walk_at "rl but"))
local macro_rules | `(tactic| walk_at "rl same") => `(tactic| first
  | assumption
  | exact Same.refl _
  | (refine Same.trans ?_ (by assumption : Same _ _); walk_at "rl same"))

local macro_rules | `(tactic| walk_at "rl wi") => `(tactic| (repeat (first
  | walk_at "rl w1"
  | ((with_reducible refine' iteF' ?rlif ?_); (case rlif => exact rfl))
  | ((with_reducible refine' iteT' ?rlif ?_); (case rlif => exact rfl)))))
local macro_rules | `(tactic| walk_at "rl ty") => `(tactic| exact .base (.dK (by assumption)))
local macro_rules | `(tactic| walk_at "rl ty") => `(tactic| exact .base (.lst (by assumption)))
local macro_rules | `(tactic| walk_at "rl ty") => `(tactic| exact .base (.tup (by assumption)))
local macro_rules | `(tactic| walk_at "rl w1") => `(tactic| first
  | with_reducible refine w_par3 ?_
  | ((with_reducible refine' w_par3a ?_); dsimp only [List.set])
  | with_reducible refine w_dget ?_
  | ((with_reducible refine' w_dgetS ?rls ?rlv ?_); (case rls => walk_at "rl hq"); (case rlv => exact rfl))
  | ((with_reducible refine' w_dgetI ?rls ?rlv ?_); (case rls => walk_at "rl hq"); (case rlv => exact rfl))
  | with_reducible refine w_dget2 ?_
  | ((with_reducible refine' w_isD ?rls ?_); (case rls => walk_at "rl hq"))
  | ((with_reducible refine' w_dget2S ?rls ?_); (case rls => walk_at "rl hq"))
  | ((with_reducible refine' w_dget2I ?rls ?_); (case rls => walk_at "rl hq"))
  | ((with_reducible refine' w_setDS ?rls ?rll ?rlm ?_); (case rls => walk_at "rl hq"); (case rll => exact Nat.lt_of_lt_of_le (Nat.lt_succ_self _) (Nat.le_of_ble_eq_true rfl)); (case rlm => exact rfl))
  | ((with_reducible refine' w_tyD ?rls ?_); (case rls => walk_at "rl hq"))
  | with_reducible refine w_jNil ?_
  | with_reducible refine w_jCons ?_
  | with_reducible refine w_prop ?_
  | with_reducible refine w_makeKS ?_
  | with_reducible refine w_pNil ?_
  | with_reducible refine w_pCons ?_
  | ((with_reducible refine' w_dispN ?_); intro _ _ _ _ _))

def Nd (o : HO) : Prop := (∃ xs, o = .lst xs) ∨ (∃ xs, o = .tup xs) ∨ o = .dK [] ∨ ∃ (x : Str) (i : Int), o = .dK [(.inr x, .int i)]
mutual
theorem Dq.keepN {H H' : Hp} {B C : Addr → Prop} (k : ∀ a o, B a → Nd o → H a = some o → H' a = some o ∧ C a) : ∀ (d : PyData) (v : V), Dq H B v d → Dq H' C v d
  | .none, _, h => by cases h; exact .non
  | .bool _, _, h => by cases h; exact .bl _
  | .int _, _, h => by cases h; exact .int _
  | .str _, _, h => by cases h; exact .str _
  | .list ds, _, h => by
    cases h with
    | lst e n ha => exact .lst (k _ _ n (.inl ⟨_, rfl⟩) e).1 (k _ _ n (.inl ⟨_, rfl⟩) e).2 (DqAll.keepN k ds _ ha)
  | .tuple ds, _, h => by
    cases h with
    | tup e n ha => exact .tup (k _ _ n (.inr (.inl ⟨_, rfl⟩)) e).1 (k _ _ n (.inr (.inl ⟨_, rfl⟩)) e).2 (DqAll.keepN k ds _ ha)
  | .dict _, _, h => by
    cases h with
    | dk0 e n => exact .dk0 (k _ _ n (.inr (.inr (.inl rfl))) e).1 (k _ _ n (.inr (.inr (.inl rfl))) e).2
    | dk1 e n => exact .dk1 (k _ _ n (.inr (.inr (.inr ⟨_, _, rfl⟩))) e).1 (k _ _ n (.inr (.inr (.inr ⟨_, _, rfl⟩))) e).2
theorem DqAll.keepN {H H' : Hp} {B C : Addr → Prop} (k : ∀ a o, B a → Nd o → H a = some o → H' a = some o ∧ C a) : ∀ (ds : List PyData) (vs : List V), DqAll H B vs ds → DqAll H' C vs ds
  | [], _, h => by cases h; exact .nil
  | d :: ds, _, h => by
    cases h with
    | cons h1 h2 => exact .cons (Dq.keepN k d _ h1) (DqAll.keepN k ds _ h2)
end
theorem nd_ne {v : Fa} {o : HO} (h : Nd o) : o ≠ .dK v.kv := by
  rcases h with ⟨xs, rfl⟩ | ⟨xs, rfl⟩ | rfl | ⟨x, i, rfl⟩
  · exact fun z => nomatch z
  · exact fun z => nomatch z
  · intro z
    injection z with z
    cases z
  · intro z
    injection z with z
    have h2 := congrArg List.length z
    cases h2
theorem DqAll.set {H : Hp} {B : Addr → Prop} {y : V} {d : PyData} (hy : Dq H B y d) : ∀ {vs : List V} {ds : List PyData} (i : Nat), DqAll H B vs ds → DqAll H B (vs.set i y) (ds.set i d)
  | _, _, _, .nil => .nil
  | _, _, 0, .cons _ t => .cons hy t
  | _, _, i + 1, .cons h t => .cons h (DqAll.set hy i t)
theorem put12 {x : V} (h : x ∈ [V.str "role", .str "number", .str "flags", .str "size", .str "amount", .str "low", .str "high", .str "plow", .str "phigh", .str "exponent", .str "unit", .str "usages"]) :
    ∃ nm : Str, x = .str nm ∧ ∀ (v : Fa) (y : V), ∃ (v' : Fa) (i : Nat), putK v.kv (.inr nm) y = v'.kv ∧ v'.all = v.all.set i y := by
  simp only [List.mem_cons, List.not_mem_nil, or_false] at h
  rcases h with rfl | rfl | rfl | rfl | rfl | rfl | rfl | rfl | rfl | rfl | rfl | rfl
  · exact ⟨_, rfl, fun v y => ⟨{ v with r := y }, 0, rfl, rfl⟩⟩
  · exact ⟨_, rfl, fun v y => ⟨{ v with n := y }, 1, rfl, rfl⟩⟩
  · exact ⟨_, rfl, fun v y => ⟨{ v with f := y }, 2, rfl, rfl⟩⟩
  · exact ⟨_, rfl, fun v y => ⟨{ v with z := y }, 3, rfl, rfl⟩⟩
  · exact ⟨_, rfl, fun v y => ⟨{ v with a := y }, 4, rfl, rfl⟩⟩
  · exact ⟨_, rfl, fun v y => ⟨{ v with l := y }, 5, rfl, rfl⟩⟩
  · exact ⟨_, rfl, fun v y => ⟨{ v with h := y }, 6, rfl, rfl⟩⟩
  · exact ⟨_, rfl, fun v y => ⟨{ v with p := y }, 7, rfl, rfl⟩⟩
  · exact ⟨_, rfl, fun v y => ⟨{ v with q := y }, 8, rfl, rfl⟩⟩
  · exact ⟨_, rfl, fun v y => ⟨{ v with e := y }, 9, rfl, rfl⟩⟩
  · exact ⟨_, rfl, fun v y => ⟨{ v with u := y }, 10, rfl, rfl⟩⟩
  · exact ⟨_, rfl, fun v y => ⟨{ v with s := y }, 11, rfl, rfl⟩⟩
theorem Fnd.put {H H' : Hp} {a p : Addr} {v v' : Fa} {ds : List PyData} {y : V} {d : PyData} {i : Nat} (h : Fnd H a p v ds) (hy : Dq H (fun b => b ≠ a) y d) (e : v'.all = v.all.set i y) (b : But p H H') (hp : H' p = some (.dK v'.kv)) : ∃ ds', Fnd H' a p v' ds' := by
  refine ⟨ds.set i d, hp, ?_⟩
  rw [e]
  exact DqAll.keepN (fun c o n nd ec => ⟨b _ _ (fun z => nd_ne (v := v) nd (by rw [z, h.1] at ec; exact (Option.some.inj ec).symm)) ec, n⟩) _ _ (DqAll.set hy i h.2)
theorem Fnd.but {H H' : Hp} {a p : Addr} {v : Fa} {ds : List PyData} (ne : p ≠ a) (b : But a H H') (h : Fnd H a p v ds) : Fnd H' a p v ds := ⟨b _ _ ne h.1, Dq.keepAll (fun c o n e => ⟨b _ _ n e, n⟩) _ _ h.2⟩
def Nm (s : Str) : Prop := s ≠ "" ∧ (PyData.str s).canLay0 = true
theorem numBad_nm : ∀ {bs : List (Str × Int × Int)} {ds : List PyData} {s : Str}, (∀ b ∈ bs, Nm b.1) → numBad bs ds = some s → Nm s
  | [], _, _, _, h => by simp [numBad] at h
  | _ :: _, [], _, _, h => by simp [numBad] at h
  | b0 :: bs, d0 :: ds, s, hb, h => by
    have h' : (if inI d0 b0.2.1 b0.2.2 = true then numBad bs ds else some b0.1) = some s := h
    by_cases c : inI d0 b0.2.1 b0.2.2 = true
    · rw [if_pos c] at h'
      exact numBad_nm (fun b m => hb b (List.mem_cons_of_mem _ m)) h'
    · rw [if_neg c] at h'
      cases h'
      exact hb _ (List.mem_cons_self ..)
theorem nmL : Nm "low" ∧ Nm "high" ∧ Nm "usages" ∧ Nm "role" := ⟨⟨by decide +kernel, by decide +kernel⟩, ⟨by decide +kernel, by decide +kernel⟩, ⟨by decide +kernel, by decide +kernel⟩, by decide +kernel, by decide +kernel⟩
theorem range_nm {lo hi n : Int} {s : Str} (h : badRange lo hi n = some s) : Nm s := by
  unfold badRange at h
  split at h
  · split at h
    · cases h
    · cases h
      exact nmL.2.1
  · cases h
    exact nmL.1
theorem us_nm {f z m lo hi : Int} {d : PyData} {s : Str} (h : usBad f z m lo hi d = some s) : Nm s := by
  unfold usBad at h
  split at h
  · split at h
    · unfold lastBad at h
      split at h
      · rename_i e
        cases h
        split at e
        · cases e
        · exact range_nm e
      · split at h
        · cases h
        · cases h
          exact nmL.2.2.1
    · cases h
      exact nmL.2.2.1
  · cases h
    exact nmL.2.2.1
theorem bnds_nm : ∀ b ∈ bnds, Nm b.1 := by
  have h : (bnds.all fun b => decide (b.1 ≠ "") && (PyData.str b.1).canLay0) = true := by decide +kernel
  intro b m
  have z := List.all_eq_true.mp h b m
  obtain ⟨z1, z2⟩ := Bool.and_eq_true_iff.mp z
  exact ⟨of_decide_eq_true z1, z2⟩
theorem badName_nm {ds : List PyData} {s : Str} (h : badName ds = some s) : Nm s := by
  unfold badName at h
  split at h
  · split at h
    · rename_i e
      cases h
      exact numBad_nm bnds_nm e
    · exact us_nm h
  · cases h
    exact nmL.2.2.2
theorem w_isiF {K : PySem.W.Frag} {H : Hp} {a dx : Addr} {fs : List (Str × V)} {R : Bool → Prop} (e : H a = some (.ins (He.ga K "Field") dx fs)) (c : Cls K (He.ga K "Field")) (h1 : PySem.W.findIn K (.ref (He.ga K "Field")) "__class__" = some (some (.builtin "object.__class__")))
    (h2 : PySem.W.specialIn K (.builtin "object.__class__") "__get__" = some (some (.builtin "getset_descriptor.__get__"))) (h3 : PySem.W.takesIn K (.builtin "object.__class__") = some true) (h4 : PySem.W.mroIn K (He.ga K "Field") (.type "object") = some true)
    (h5 : PySem.W.kitOne K (.ref (He.ga K "Field")) (.type "str") = some false) (h : R false) :
    ∃ (x' cc : V) (t u : Value) (b' : Bool), [V.ref a, .ty "str"] = [x', cc] ∧ ClsV cc u ∧ TyX K H x' t ∧ PySem.W.kitOne K t u = some b' ∧ R b' := ⟨.ref a, .ty "str", .ref (He.ga K "Field"), .type "str", false, rfl, .ty "str", .base (.ins e c h1 h2 h3 h4), h5, h⟩
def spLaw (K : PySem.W.Frag) : Sp := fun vs H Q _ => ∃ (a : Addr) (ns : List Int), vs = [.ref a] ∧ SqL K H a (ns.map V.int) ∧ ns.length ≤ 63 ∧ ∀ H', Q (.bl true) H'
end T16
end
section
set_option Elab.async false
set_option linter.all false
set_option maxRecDepth 100000
set_option maxHeartbeats 0
namespace T16
open PySem PySem.Spec PyProof.Rows L2 L2.RL
local macro_rules | `(tactic| walk_at "rl ty") => `(tactic| first
  | assumption
  | exact .base (.int _)
  | exact .base (.str _)
  | exact .base .non
  | exact .base (.bl _)
  | exact ty_sqT (by walk_at "rl hp")
  | exact ty_sqL (by walk_at "rl hp")
  | exact .base (.tup (by walk_at "rl hp"))
  | exact .base (.lst (by walk_at "rl hp"))
  | exact .base (.dK (by walk_at "rl hp")))
local macro_rules | `(tactic| walk_at "rl if") => `(tactic| first
  | with_reducible refine iteT' rfl ?_
  | with_reducible refine iteF' rfl ?_
  | (refine iteT' rfl ?_)
  | (refine iteF' rfl ?_))
local macro_rules | `(tactic| walk_at "rl side") => `(tactic| first | assumption | omega | (constructor <;> omega) | decide)
local macro_rules | `(tactic| walk_at "rl ne") => `(tactic| first
  | assumption
  | exact Ne.symm (by assumption)
  | walk_at "rl ne2"
  | exact ne_of (by assumption) (by walk_at "rl hq") (by intro z; cases z)
  | exact (ne_of (by assumption) (by walk_at "rl hq") (by intro z; cases z)).symm)
local macro_rules | `(tactic| walk_at "rl hq") => `(tactic| first
  | assumption
  | exact upd_same
  | (refine' upd_at ?rlne ?rlhq; (case rlne => walk_at "rl ne"); (case rlhq => walk_at "rl hq"))
  | (refine' Same.at ?rlsa ?rlhq; (case rlsa => assumption); (case rlhq => walk_at "rl hq"))
  | (refine' But.at ?rlbu ?rlne ?rlhq; (case rlbu => assumption); (case rlne => walk_at "rl ne"); (case rlhq => walk_at "rl hq")))
local macro_rules | `(tactic| walk_at "rl hp") => `(tactic| first
  | assumption
  | (refine' SqL.of ?rlhq; (case rlhq => walk_at "rl hq"))
  | (refine' SqT.of ?rlhq; (case rlhq => walk_at "rl hq"))
  | (refine' Same.seq ?rlsa ?rlhp; (case rlsa => assumption); (case rlhp => walk_at "rl hp"))
  | (refine' Same.sqT ?rlsa ?rlhp; (case rlsa => assumption); (case rlhp => walk_at "rl hp"))
  | walk_at "rl hp2"
  | walk_at "rl hq")
local macro_rules | `(tactic| walk_at "rl w1") => `(tactic| first
  | with_reducible refine w_seq ?_
  | ((with_reducible refine' w_var ?rlv ?_); (case rlv => exact rfl))
  | with_reducible refine w_c ?_
  | with_reducible refine w_op ?_
  | with_reducible refine w_I0 ?_
  | with_reducible refine w_asg ?_
  | ((with_reducible refine' w_gName ?_); dsimp only [List.set])
  | ((with_reducible refine' w_nxD ?rle ?_); (case rle => exact rfl))
  | ((with_reducible refine' w_rtD ?rle ?_); (case rle => exact rfl))
  | with_reducible refine w_next ?_
  | with_reducible refine w_ret ?_
  | with_reducible refine w_cons ?_
  | with_reducible refine w_nil ?_
  | with_reducible refine w_ifS ?_
  | with_reducible refine w_test ?_
  | with_reducible refine w_B ?_
  | with_reducible refine w_bl ?_
  | with_reducible refine w_bl1 ?_
  | with_reducible refine w_blR ?_
  | with_reducible refine w_eqI ?_
  | with_reducible refine w_neI ?_
  | with_reducible refine w_eqS ?_
  | with_reducible refine w_neS ?_
  | with_reducible refine w_eqB ?_
  | with_reducible refine w_neB ?_
  | with_reducible refine w_and ?_
  | with_reducible refine w_or ?_
  | with_reducible refine w_not ?_
  | with_reducible refine w_andV ?_
  | with_reducible refine w_orV ?_
  | with_reducible refine w_notV ?_
  | with_reducible refine w_if ?_
  | with_reducible refine w_chain ?_
  | with_reducible refine w_un ?_
  | with_reducible refine w_U ?_
  | ((with_reducible refine' w_I ?rlc ?_); (case rlc => walk_at "rl side"))
  | with_reducible refine w_drop ?_
  | with_reducible refine w_retN ?_
  | with_reducible refine w_par ?_
  | ((with_reducible refine' w_par2 ?_); dsimp only [List.set])
  | ((with_reducible refine' w_aug ?rla ?_); (case rla => exact rfl))
  | with_reducible refine w_ipI ?_
  | with_reducible refine w_break ?_
  | with_reducible refine w_cont ?_
  | ((with_reducible refine' w_bkD ?rle ?_); (case rle => exact rfl))
  | ((with_reducible refine' w_ctD ?rle ?_); (case rle => exact rfl))
  | with_reducible refine w_tup ?_
  | with_reducible refine w_lst ?_
  | ((with_reducible refine' w_newO ?rln ?_); (case rln => exact Nat.le_of_ble_eq_true rfl); intro _ _ _ _ _)
  | ((with_reducible refine' w_new ?rln ?_); (case rln => exact Nat.le_of_ble_eq_true rfl))
  | ((with_reducible refine' w_mk ?_); intro _ _ _ _ _)
  | ((with_reducible refine' w_gTup ?rls ?rll ?_); (case rls => walk_at "rl hp"); (case rll => exact rfl))
  | with_reducible refine w_gCons ?_
  | with_reducible refine w_gNil ?_
  | with_reducible refine w_gSub ?_
  | ((with_reducible refine' w_setL ?rls ?rlj ?_); (case rls => walk_at "rl hp"); (case rlj => exact rfl))
  | ((with_reducible refine' w_ixL ?rls ?rli ?_); (case rls => walk_at "rl hp"); (case rli => exact rfl))
  | ((with_reducible refine' w_ixT ?rls ?rli ?_); (case rls => walk_at "rl hp"); (case rli => exact rfl))
  | with_reducible refine w_call ?_
  | with_reducible refine w_trI ?_
  | with_reducible refine w_yes ?_
  | with_reducible refine w_trB ?_
  | with_reducible refine w_trN ?_
  | with_reducible refine w_cb ?_
  | with_reducible refine w_fld ?_
  | ((with_reducible refine' w_fld1 ?rlo ?rlc ?rln ?rll ?_); (case rlo => walk_at "rl hp"); (case rlc => assumption); (case rln => assumption); (case rll => exact rfl))
  | with_reducible refine w_isiO ?_
  | with_reducible refine w_isiT ?_
  | ((with_reducible refine' w_isi (r := true) ?rlt ?rlk ?_); (case rlt => walk_at "rl ty"); (case rlk => exact rfl))
  | ((with_reducible refine' w_isi (r := false) ?rlt ?rlk ?_); (case rlt => walk_at "rl ty"); (case rlk => exact rfl))
  | ((with_reducible refine' w_isi2 (r := true) ?rlT ?rlt ?rlk ?_); (case rlT => walk_at "rl hp"); (case rlt => walk_at "rl ty"); (case rlk => exact rfl))
  | ((with_reducible refine' w_isi2 (r := false) ?rlT ?rlt ?rlk ?_); (case rlT => walk_at "rl hp"); (case rlt => walk_at "rl ty"); (case rlk => exact rfl))
  | with_reducible refine w_sFld ?_
  | with_reducible refine w_itemsK ?_
  | ((with_reducible refine' w_catT ?rlha ?rlhb ?rln1 ?rln2 ?rlhl ?_); (case rlha => walk_at "rl hp"); (case rlhb => walk_at "rl hp"); (case rln1 => exact (fun z => nomatch z)); (case rln2 => exact (fun z => nomatch z)); (case rlhl => exact Nat.le_trans (Nat.le_of_ble_eq_true rfl) (show 100000 ≤ sizeLine by decide)))
  | ((with_reducible refine' w_newE ?_); intro _ _ _ _ _)
  | with_reducible refine w_makeK ?_
  | ((with_reducible refine' w_sFld1 ?rlc ?rln ?rll ?rle ?_); (case rlc => assumption); (case rln => assumption); (case rll => exact Nat.lt_of_lt_of_le (Nat.lt_succ_self _) (Nat.le_of_ble_eq_true rfl)); (case rle => exact rfl))
  | ((with_reducible refine' w_sFld0 ?rlx ?rlc ?rln ?rll ?rle ?_); (case rlx => walk_at "rl hq"); (case rlc => assumption); (case rln => assumption); (case rll => exact Nat.lt_of_lt_of_le (Nat.lt_succ_self _) (Nat.le_of_ble_eq_true rfl)); (case rle => exact rfl))
  | with_reducible refine w_rflA ?_
  | with_reducible refine w_for ?_
  | with_reducible refine w_iList ?_
  | with_reducible refine w_iTup ?_
  | ((with_reducible refine' w_overL ?rls ?_); (case rls => walk_at "rl hp"))
  | ((with_reducible refine' w_overT ?rls ?_); (case rls => walk_at "rl hp"))
  | with_reducible refine w_rng1 ?_
  | ((with_reducible refine' w_rng1a ?rl1 ?rl2 ?_); (case rl1 => omega); (case rl2 => omega))
  | with_reducible refine w_rng2 ?_
  | ((with_reducible refine' w_rng2a ?rl1 ?_); (case rl1 => omega))
  | with_reducible refine w_zip2 ?_
  | with_reducible refine w_lc ?_
  | with_reducible refine w_enS ?_
  | with_reducible refine w_callSD ?_
  | with_reducible refine w_xf ?_
  | ((with_reducible refine' w_dnew ?_); intro _ _ _ _ _)
  | ((with_reducible refine' w_disp1 ?_); intro _ _ _ _ _)
  | with_reducible refine w_bm ?_
  | ((with_reducible refine' w_tyL ?rls ?_); (case rls => walk_at "rl hp"))
  | ((with_reducible refine' w_append ?rls ?rll ?_); (case rls => walk_at "rl hq"); (case rll => exact Nat.lt_of_lt_of_le (Nat.lt_succ_self _) (Nat.le_of_ble_eq_true rfl)))
  | ((with_reducible refine' w_cat ?rls ?rlt ?rll ?_); (case rls => walk_at "rl hq"); (case rlt => walk_at "rl hq"); (case rll => exact Nat.le_of_ble_eq_true rfl); intro _ _ _ _ _)
  | with_reducible refine w_int1 ?_
  | ((with_reducible refine w_intb ?_); (try dsimp only))
  | with_reducible refine w_one ?_
  | with_reducible refine w_two ?_
  | ((with_reducible refine' w_lenL ?rls ?_); (case rls => walk_at "rl hp"))
  | ((with_reducible refine' w_lenT ?rls ?_); (case rls => walk_at "rl hp"))
  | with_reducible refine w_meth ?_
  | ((with_reducible refine' w_meth1 ?rlo ?rll ?_); (case rlo => walk_at "rl hp"); (case rll => exact rfl)))
local macro_rules | `(tactic| walk_at "rl wp") => `(tactic| (repeat walk_at "rl w1"))
local macro_rules | `(tactic| walk_at "rl but") => `(tactic| first
  | assumption
  | exact But.refl _ _
  | exact But.upd
  | exact But.of_same (by assumption)
  | (refine But.trans ?_ (But.of_same (by assumption)); walk_at "rl but")
  | (refine But.trans ?_ (by assumption : But _ _ _); walk_at "rl but")
  | (refine But.trans ?_ But.upd; walk_at "rl but"))
local macro_rules | `(tactic| walk_at "rl same") => `(tactic| first
  | assumption
  | exact Same.refl _
  | (refine Same.trans ?_ (by assumption : Same _ _); walk_at "rl same"))

local macro_rules | `(tactic| walk_at "rl wi") => `(tactic| (repeat (first
  | walk_at "rl w1"
  | ((with_reducible refine' iteF' ?rlif ?_); (case rlif => exact rfl))
  | ((with_reducible refine' iteT' ?rlif ?_); (case rlif => exact rfl)))))
local macro_rules | `(tactic| walk_at "rl ty") => `(tactic| exact .base (.dK (by assumption)))
local macro_rules | `(tactic| walk_at "rl ty") => `(tactic| exact .base (.lst (by assumption)))
local macro_rules | `(tactic| walk_at "rl ty") => `(tactic| exact .base (.tup (by assumption)))
local macro_rules | `(tactic| walk_at "rl w1") => `(tactic| first
  | with_reducible refine w_par3 ?_
  | ((with_reducible refine' w_par3a ?_); dsimp only [List.set])
  | with_reducible refine w_dget ?_
  | ((with_reducible refine' w_dgetS ?rls ?rlv ?_); (case rls => walk_at "rl hq"); (case rlv => exact rfl))
  | ((with_reducible refine' w_dgetI ?rls ?rlv ?_); (case rls => walk_at "rl hq"); (case rlv => exact rfl))
  | with_reducible refine w_dget2 ?_
  | ((with_reducible refine' w_isD ?rls ?_); (case rls => walk_at "rl hq"))
  | ((with_reducible refine' w_dget2S ?rls ?_); (case rls => walk_at "rl hq"))
  | ((with_reducible refine' w_dget2I ?rls ?_); (case rls => walk_at "rl hq"))
  | ((with_reducible refine' w_setDS ?rls ?rll ?rlm ?_); (case rls => walk_at "rl hq"); (case rll => exact Nat.lt_of_lt_of_le (Nat.lt_succ_self _) (Nat.le_of_ble_eq_true rfl)); (case rlm => exact rfl))
  | ((with_reducible refine' w_tyD ?rls ?_); (case rls => walk_at "rl hq"))
  | with_reducible refine w_jNil ?_
  | with_reducible refine w_jCons ?_
  | with_reducible refine w_prop ?_
  | with_reducible refine w_makeKS ?_
  | with_reducible refine w_pNil ?_
  | with_reducible refine w_pCons ?_
  | ((with_reducible refine' w_dispN ?_); intro _ _ _ _ _))

local macro_rules | `(tactic| walk_at "rl w1") => `(tactic| with_reducible refine w_ifT ?_)
local macro_rules | `(tactic| walk_at "rl w1") => `(tactic| ((with_reducible refine' w_dispP ?_); intro _ _ _ _ _))
local macro_rules | `(tactic| walk_at "rl w1") => `(tactic| ((with_reducible refine' w_dgS ?rls ?rlv ?_); (case rls => walk_at "rl hq"); (case rlv => exact rfl)))

local macro_rules | `(tactic| walk_at "rl w1") => `(tactic| ((with_reducible refine' w_isiF ?rle ?rlc ?rl1 ?rl2 ?rl3 ?rl4 ?rl5 ?_); (case rle => assumption); (case rlc => assumption); (case rl1 => assumption); (case rl2 => assumption); (case rl3 => assumption); (case rl4 => assumption); (case rl5 => assumption)))
theorem sc_law : FnScope ["_law_script", "_law_at", "_law_bag_here", "_law_turn", "_law_found", "_law_again", "_law_name", "_law_due", "_law_told"] ["_law_script"] (defScope (top 30)) := ⟨rfl, rfl, rfl, by decide +kernel, rfl, by decide +kernel, by decide +kernel⟩
theorem ok_law {P : Program} {w : World} {K : PySem.W.Frag} {mg : Str → Option Value} {base : Heap} (T : TT K mg) (D__law_bag : Ld P w K mg base CX0 1 "_law_bag" ["_law_script", "_law_at"] [] (spBag K)) (D__law_plain : Ld P w K mg base CX0 3 "_law_plain" ["_law_bag_here"] [] (spPlain)) (D__law_take : Ld P w K mg base CX0 1 "_law_take" ["_law_bag_here", "_law_many"] [] (spTake)) (D__law_of : Ld P w K mg base CX0 2 "_law_of" ["_law_bag_here", "_law_some"] [] (spOf K)) (D__law_names : Ld P w K mg base CX0 1 "_law_names" [] [] (spNames)) (D__law_odd : Ld P w K mg base CX0 3 "_law_odd" ["_law_bag_here", "_law_name"] [] (spOdd)) (D__law_first_bad : Ld P w K mg base CX0 2 "_law_first_bad" ["_law_found"] [] (spFirst)) (D__law_told_field : Ld P w K mg base CX0 6 "_law_told_field" ["_law_found"] [] (spTold K)) (D__law_is_field : Lg P w K mg base CX0 5 "_law_is_field" ["_law_told", "_law_found"] [] (spIsField K)) (D_mk_Field : Li P w K mg base (L2.CX P w) 4 (spIni K)) {fd : FuncData} (F : FunD K "law" "law" (defArgs (top 30)) (defBody (top 30)) (defScope (top 30)) (([] : List He.Dv).map (He.Dv.v K)) (([] : List (Str × He.Dv)).map fun q => (q.1, q.2.v K)) (He.ga K "law") fd) : FnG P w K mg base CX0 7 (He.ga K "law") fd ["_law_script"] (spLaw K) := by
  obtain ⟨⟨fd__law_bag, ds__law_bag, F__law_bag, b__law_bag, v__law_bag⟩, g__law_bag, k__law_bag⟩ := D__law_bag
  obtain ⟨⟨fd__law_plain, ds__law_plain, F__law_plain, b__law_plain, v__law_plain⟩, g__law_plain, k__law_plain⟩ := D__law_plain
  obtain ⟨⟨fd__law_take, ds__law_take, F__law_take, b__law_take, v__law_take⟩, g__law_take, k__law_take⟩ := D__law_take
  obtain ⟨⟨fd__law_of, ds__law_of, F__law_of, b__law_of, v__law_of⟩, g__law_of, k__law_of⟩ := D__law_of
  obtain ⟨⟨fd__law_names, ds__law_names, F__law_names, b__law_names, v__law_names⟩, g__law_names, k__law_names⟩ := D__law_names
  obtain ⟨⟨fd__law_odd, ds__law_odd, F__law_odd, b__law_odd, v__law_odd⟩, g__law_odd, k__law_odd⟩ := D__law_odd
  obtain ⟨⟨fd__law_first_bad, ds__law_first_bad, F__law_first_bad, b__law_first_bad, v__law_first_bad⟩, g__law_first_bad, k__law_first_bad⟩ := D__law_first_bad
  obtain ⟨⟨fd__law_told_field, ds__law_told_field, F__law_told_field, b__law_told_field, v__law_told_field⟩, g__law_told_field, k__law_told_field⟩ := D__law_told_field
  obtain ⟨⟨fd__law_is_field, ds__law_is_field, F__law_is_field, b__law_is_field, v__law_is_field⟩, g__law_is_field, k__law_is_field⟩ := D__law_is_field
  obtain ⟨fd_Field, F_Field, FD_Field⟩ := D_mk_Field.ex
  obtain ⟨g1_Field, b1_Field⟩ := kb1 T FD_Field
  obtain ⟨g2_Field, b2_Field⟩ := kb2 T FD_Field
  obtain ⟨g3_Field, b3_Field⟩ := kb3 T FD_Field
  refine FunD.okG F sc_law (fun vs H Q E h => ?_) (fun cdv A outer s H vs Q E hgd hr h => ?_)
  · obtain ⟨sc, ns, rfl, _⟩ := h
    rfl
  · obtain ⟨sc, ns, rfl, hs, hl, q⟩ := h
    have c_F := T.c_Field
    have n_role := T.n_Field_role
    have n_number := T.n_Field_number
    have n_flags := T.n_Field_flags
    have n_size := T.n_Field_size
    have n_amount := T.n_Field_amount
    have n_low := T.n_Field_low
    have n_high := T.n_Field_high
    have n_plow := T.n_Field_plow
    have n_phigh := T.n_Field_phigh
    have n_exponent := T.n_Field_exponent
    have n_unit := T.n_Field_unit
    have n_usages := T.n_Field_usages
    have iF1 := T.ic_Field
    have iF2 := T.ig_Field
    have iF3 := T.it_Field
    have iF4 := T.im_Field
    have iF5 := T.is_Field
    refine ⟨_, PSs.nox ((pss_cons (ps_for PassesOwn.never rfl (pi_range1 rfl T.m_range (pa_cons (pe_callB (call_max2 rfl) (by rfl) T.m_max (by decide +kernel) (pa_cons pe_int (pa_cons (pe_callB (call_min2 rfl) (by rfl) T.m_min (by decide +kernel) (pa_cons pe_int (pa_cons (pe_callB call_len_seq (by rfl) T.m_len PySem.boot_len (pa_cons (pv 0) pa_nil)) pa_nil))) pa_nil))) pa_nil)) (pg_name (i := 1) sc_law.nd rfl (by first | exact Or.inl rfl | exact Or.inr rfl)) (pss_cons (ps_set (i := 2) sc_law.nd rfl (by first | exact Or.inl rfl | exact Or.inr rfl) (pe_call F__law_bag (hr.mono (by decide)) (by rfl) g__law_bag k__law_bag b__law_bag v__law_bag pass0 (pa_cons (pv 0) (pa_cons (pv 1) pa_nil)))) (pss_one (ps_for PassesOwn.never rfl (pi_range1 rfl T.m_range (pa_cons pe_int pa_nil)) (pg_name (i := 3) sc_law.nd rfl (by first | exact Or.inl rfl | exact Or.inr rfl)) (pss_cons (ps_set (i := 4) sc_law.nd rfl (by first | exact Or.inl rfl | exact Or.inr rfl) (pe_call F__law_plain (hr.mono (by decide)) (by rfl) g__law_plain k__law_plain b__law_plain v__law_plain pass0 (pa_cons (pv 2) pa_nil))) (pss_cons (ps_for PassesOwn.never rfl (pi_range1 rfl T.m_range (pa_cons (pe_call F__law_take (hr.mono (by decide)) (by rfl) g__law_take k__law_take b__law_take v__law_take pass0 (pa_cons (pv 2) (pa_cons pe_int pa_nil))) pa_nil)) (pg_name (i := 5) sc_law.nd rfl (by first | exact Or.inl rfl | exact Or.inr rfl)) (pss_cons (ps_set (i := 6) sc_law.nd rfl (by first | exact Or.inl rfl | exact Or.inr rfl) (pe_call F__law_of (hr.mono (by decide)) (by rfl) g__law_of k__law_of b__law_of v__law_of pass0 (pa_cons (pv 2) (pa_cons (pe_op op_cat (pe_lst (pa_cons pe_str pa_nil)) (pe_call0 F__law_names (hr.mono (by decide)) (by rfl) g__law_names k__law_names b__law_names v__law_names pass0)) pa_nil)))) (pss_one (ps_asg (pe_call F__law_odd (hr.mono (by decide)) (by rfl) g__law_odd k__law_odd b__law_odd v__law_odd pass0 (pa_cons (pv 2) (pa_cons (pv 6) pa_nil))) (pg_sub (pv 4) (pv 6) (set_dict (room_u1 hr))))))) (pss_cons (ps_par (i := 7) (j := 8) (by rfl) sc_law.nd rfl rfl (by decide) rfl rfl (pa_cons (pe_call F__law_first_bad (hr.mono (by decide)) (by rfl) g__law_first_bad k__law_first_bad b__law_first_bad v__law_first_bad pass0 (pa_cons (pv 4) pa_nil)) (pa_cons (pe_call F__law_told_field hr (by rfl) g__law_told_field k__law_told_field b__law_told_field v__law_told_field pass0 (pa_cons (pv 4) pa_nil)) pa_nil)) (by rfl)) (pss_one (ps_if (PW.pt (pw_or (PW.pt (pw_and (pt_cmpR op_ne (pv 7) pe_str (nomark _)) (pw_and1 (pt_cmpR (op_neD hr.units) (pv 8) (pv 7) (nomark _))))) (pw_or1 (PW.pt (pw_and (pt_cmpR op_eq (pv 7) pe_str (nomark _)) (pw_and1 (PW.pt (pw_or (pt_val (pe_callB call_isi (by rfl) T.m_isinstance (by decide +kernel) (pa_cons (pv 8) (pa_cons (pe_bltn (v := .ty "str") (by rfl) T.m_str (by decide +kernel) rfl) pa_nil)))) (pw_or1 (pt_not (pt_val (pe_callG F__law_is_field hgd (hr.mono (by decide)) (by rfl) g__law_is_field k__law_is_field b__law_is_field v__law_is_field pass0 (pa_cons (pv 8) (pa_cons (pv 4) pa_nil)))))))))))))) (pss_one (ps_ret pe_bl)) pss_nil))))))))) (pss_one (ps_ret (pe_and (pe_cmpR op_eq (pe_fld (pe_makeK T.mk_Field F_Field (hr.mono (by decide)) (by rfl) T.g_Field b2_Field passF (pa_cons pe_str pa_nil) (pk_cons (pe_tup (pa_cons pe_int pa_nil)) pk_nil)) rfl) pe_int (nomark _)) (pe_one (pe_cmpR op_eq (pe_fld (pe_makeK T.mk_Field F_Field (hr.mono (by decide)) (by rfl) T.g_Field b3_Field passF (pa_cons pe_str pa_nil) (pk_cons pe_int (pk_cons pe_int pk_nil))) rfl) pe_int (nomark _)))))))), ?_⟩; rw [start_9_1]; try dsimp only [cxOf]
    walk_at "rl wp"
    have hJ4 : (if (if (((ns.map V.int).length : Nat) : Int) < 4 then (((ns.map V.int).length : Nat) : Int) else 4) > 1 then (if (((ns.map V.int).length : Nat) : Int) < 4 then (((ns.map V.int).length : Nat) : Int) else 4) else 1) ≤ (4 : Int) := by (repeat' split) <;> omega
    refine w_forR (fun i σ' H' => SqL K H' sc (ns.map V.int) ∧ ∃ z1 z2 z3 z4 z5 z6 z7 z8, σ' = [some (.ref sc), z1, z2, z3, z4, z5, z6, z7, z8]) ⟨hs, _, _, _, _, _, _, _, _, rfl⟩ ?_ ?_
    rotate_left
    · rintro σ' H' ⟨_, z1, z2, z3, z4, z5, z6, z7, z8, rfl⟩
      walk_at "rl wp"
      rename_i tu Hu ntu stu htu
      refine ⟨rfl, rfl, fun x dx nx ndx ne => ?_⟩
      have bn : badName [.str "input", .int 0, .int 2, .int 8, .int 1, .int 0, .int 255, .int 0, .int 0, .int 0, .int 0, .tuple [.int 1]] = none := by decide +kernel
      have htv : upd (upd Hu dx (.own x)) x (.ins (He.ga K "Field") dx []) tu = some (.tup [.int 1]) := by
        rw [upd_ne (ne_of_none htu nx), upd_ne (ne_of_none htu ndx)]
        exact htu
      refine ⟨fun b => Hu b ≠ none, x, dx, ⟨.str "input", .int 0, .int 2, .int 8, .int 1, .int 0, .int 255, .int 0, .int 0, .int 0, .int 0, .ref tu⟩, [.str "input", .int 0, .int 2, .int 8, .int 1, .int 0, .int 255, .int 0, .int 0, .int 0, .int 0, .tuple [.int 1]], rfl, upd_same, fun b hb e => hb (by rw [e]; exact nx),
        V12.of (.cons (.str _) (.cons (.int _) (.cons (.int _) (.cons (.int _) (.cons (.int _) (.cons (.int _) (.cons (.int _) (.cons (.int _) (.cons (.int _) (.cons (.int _) (.cons (.int _) (.cons (.tup htv (by rw [htu]; exact fun z => nomatch z) (.cons (.int 1) .nil)) .nil)))))))))))), fun _ H4 b fa => ⟨rfl, ?_⟩, fun s hb => by rw [bn] at hb; cases hb⟩
      obtain ⟨dxf, ef⟩ := fa
      walk_at "rl wi"
      refine ⟨rfl, rfl, fun x2 dx2 nx2 ndx2 ne2 => ?_⟩
      have bn2 : badName [.str "feature", .int 0, .int 1, .int 4, .int 1, .int 0, .int 255, .int 0, .int 0, .int 0, .int 0, .tuple []] = none := by decide +kernel
      refine ⟨fun b => H4 b ≠ none, x2, dx2, ⟨.str "feature", .int 0, .int 1, .int 4, .int 1, .int 0, .int 255, .int 0, .int 0, .int 0, .int 0, .ref (kdfAt ("Field", some "__init__") "usages" K)⟩, [.str "feature", .int 0, .int 1, .int 4, .int 1, .int 0, .int 255, .int 0, .int 0, .int 0, .int 0, .tuple []], rfl, upd_same, fun b hb e => hb (by rw [e]; exact nx2),
        ⟨fun i y hi ey => ?_, _, rfl, .inr ⟨_, rfl, rfl, T.t_us0 _⟩⟩, fun _ H5 b fa => ⟨rfl, ?_⟩, fun s hb => by rw [bn2] at hb; cases hb⟩
      · rcases (show i = 0 ∨ i = 1 ∨ i = 2 ∨ i = 3 ∨ i = 4 ∨ i = 5 ∨ i = 6 ∨ i = 7 ∨ i = 8 ∨ i = 9 ∨ i = 10 by omega) with rfl | rfl | rfl | rfl | rfl | rfl | rfl | rfl | rfl | rfl | rfl <;> obtain rfl := Option.some.inj ey <;> exact ⟨_, rfl, by first | exact .str _ | exact .int _⟩
      obtain ⟨dxg, eg⟩ := fa
      walk_at "rl wi"
      exact q _
    rintro i σ' H1 hi ⟨hs1, z1, z2, z3, z4, z5, z6, z7, z8, rfl⟩
    have hi5 : i < 5 := by omega
    clear hi hJ4
    walk_at "rl wp"
    refine ⟨sc, ns, _, rfl, hs1, by omega, by omega, fun bag H2 nb sm hb => ?_⟩
    walk_at "rl wp"
    refine w_forR (fun t σ' H' => But bag H2 H' ∧ Bag H' bag (30 * t) ∧ ∃ z3 z4 z5 z6 z7 z8, σ' = [some (.ref sc), some (.int (0 + i)), some (.ref bag), z3, z4, z5, z6, z7, z8]) ⟨But.refl _ _, Bag.le hb (by omega), _, _, _, _, _, _, rfl⟩ ?_ ?_
    rotate_left
    · rintro σ' H' ⟨bt, bg, z3, z4, z5, z6, z7, z8, rfl⟩
      exact ⟨Same.seq (But.same nb (But.trans (But.of_same sm) bt)) hs1, _, _, _, _, _, _, _, _, rfl⟩
    rintro t σ' H3 ht ⟨bt3, bg3, z3, z4, z5, z6, z7, z8, rfl⟩
    have ht25 : t < 25 := by omega
    clear ht
    walk_at "rl wp"
    refine ⟨bag, _, rfl, bg3, by omega, fun p v ds H4 bt4 bg4 np fnd => ?_⟩
    walk_at "rl wp"
    refine w_take bg4 (by omega) (by decide) (by decide) ?_
    intro r H5 bt5 bg5 r0 r1
    have neP : p ≠ bag := Bag.neN np bg3
    have fnd5 : Fnd H5 bag p v ds := Fnd.but neP bt5 fnd
    walk_at "rl wp"
    refine w_forR (fun j σ' H' => But bag H3 H' ∧ Bag H' bag (30 * t + 21 + 3 * j) ∧ (∃ v ds, Fnd H' bag p v ds) ∧ ∃ z5 z6 z7 z8, σ' = [some (.ref sc), some (.int (0 + i)), some (.ref bag), some (.int (0 + t)), some (.ref p), z5, z6, z7, z8]) ⟨But.trans bt4 bt5, Bag.le bg5 (by omega), ⟨v, ds, fnd5⟩, _, _, _, _, rfl⟩ ?_ ?_
    · rintro j σ' H6 hj ⟨bt6, bg6, ⟨v6, ds6, fnd6⟩, z5, z6, z7, z8, rfl⟩
      have hj3 : j < 3 := by omega
      walk_at "rl wp"
      rename_i l1 H7 n7 s7 h7
      refine ⟨rfl, fun l2 H8 n8 s8 h8 => ?_⟩
      walk_at "rl wp"
      rename_i S H9 n9 s9 h9
      have s69 : Same H6 H9 := s7.trans (s8.trans s9)
      refine w_of (Bag.same s69 bg6) (by omega) (SqL.of h9) (Bag.neN n9 (Bag.same (s7.trans s8) bg6)) (Nat.zero_lt_succ _) (Nat.lt_of_lt_of_le (Nat.lt_succ_self _) (Nat.le_of_ble_eq_true rfl)) ?_
      intro x H10 bt10 bg10 m
      obtain ⟨nm, rfl, hput⟩ := put12 m
      clear m
      walk_at "rl wp"
      refine ⟨bag, nm, _, rfl, bg10, by omega, fun y d H11 bt11 bg11 dq => ?_⟩
      have f11 : Fnd H11 bag p v6 ds6 := Fnd.but neP bt11 (Fnd.but neP bt10 (Fnd.but neP (But.of_same s69) fnd6))
      have h11 := f11.1
      obtain ⟨v12, k12, ep, ea⟩ := hput v6 y
      walk_at "rl wp"
      rw [ep]
      obtain ⟨ds12, f12⟩ := Fnd.put f11 dq ea But.upd upd_same
      exact ⟨But.but_new np (But.trans bt6 (But.trans (But.of_same s69) (But.trans bt10 bt11))) But.upd, Bag.le (Bag.butD But.upd neP bg11) (by omega), ⟨v12, ds12, f12⟩, _, _, _, _, rfl⟩
    rintro σ' H6 ⟨bt6, bg6, ⟨v6, ds6, fnd6⟩, z5, z6, z7, z8, rfl⟩
    walk_at "rl wp"
    refine ⟨_, p, v6, ds6, rfl, fnd6.1, fnd6.2, fun H7 s7 => ?_⟩
    walk_at "rl wp"
    refine ⟨_, p, v6, ds6, rfl, s7 _ _ fnd6.1, DqAll.sameA s7 fnd6.2, fun hb2 f H8 s8 fa => ?_, fun s hb2 H8 s8 => ?_⟩
    · rw [hb2]
      obtain ⟨dxf, ef⟩ := fa
      have s68 : Same H6 H8 := s7.trans s8
      walk_at "rl wi"
      refine ⟨_, f, p, v6, ds6, rfl, ⟨dxf, ef⟩, s68 _ _ fnd6.1, DqAll.sameA s68 fnd6.2, hb2, fun H9 s9 => ?_⟩
      walk_at "rl wi"
      exact ⟨But.trans bt3 (But.trans bt6 (But.of_same (s68.trans s9))), Bag.le (Bag.same (s68.trans s9) bg6) (by omega), _, _, _, _, _, _, rfl⟩
    · rw [hb2]
      have hnm := badName_nm hb2
      walk_at "rl wp"
      refine ite_ndec (fun c => ?_) (fun c => absurd c hnm.1)
      walk_at "rl wp"
      refine w_eqRefl (d := .str s) (.str s) (.str s) hnm.2 (Nat.zero_le _) ?_
      walk_at "rl wi"
      refine iteF' (decide_eq_false hnm.1) ?_
      walk_at "rl wi"
      exact ⟨But.trans bt3 (But.trans bt6 (But.of_same (s7.trans s8))), Bag.le (Bag.same (s7.trans s8) bg6) (by omega), _, _, _, _, _, _, rfl⟩
end T16
end
section
set_option Elab.async false
set_option linter.all false
set_option maxRecDepth 100000
set_option maxHeartbeats 1000000
namespace T16
open PySem PySem.Spec PyProof.Rows L2 L2.RL
theorem all_law {P : Program} {w : World} {K : PySem.W.Frag} {mg : Str → Option Value} {base : Heap} (T : TT K mg) {fd : FuncData} (F : FunD K "law" "law" (defArgs (top 30)) (defBody (top 30)) (defScope (top 30)) (([] : List He.Dv).map (He.Dv.v K)) (([] : List (Str × He.Dv)).map fun q => (q.1, q.2.v K)) (He.ga K "law") fd) : FnG P w K mg base CX0 7 (He.ga K "law") fd ["_law_script"] (spLaw K) := by
  have D__law_take := ok__law_take (P := P) (w := w) (base := base) T
  have D__law_bag := ok__law_bag (P := P) (w := w) (base := base) T
  have D__law_of := ok__law_of (P := P) (w := w) (base := base) T D__law_take
  have D__law_names := ok__law_names (P := P) (w := w) (base := base) T
  have D_is_integer := ok_is_integer (P := P) (w := w) (base := base) T
  have D_is_usage := ok_is_usage (P := P) (w := w) (base := base) T D_is_integer
  have D_fits := ok_fits (P := P) (w := w) (base := base) T
  have D_bad_range := ok_bad_range (P := P) (w := w) (base := base) T D_fits
  have D_are_usages := ok_are_usages (P := P) (w := w) (base := base) T
  have D_Field_numbers := ok_Field_numbers (P := P) (w := w) (base := base) T
  have D_Field_bad_name := ok_Field_bad_name (P := P) (w := w) (base := base) T D_is_integer D_is_usage D_bad_range D_are_usages D_Field_numbers
  have D_BadField___init__ := ok_BadField___init__ (P := P) (w := w) (base := base) T
  have D_mk_Field := ok_Field___init__ (P := P) (w := w) (base := base) T D_Field_bad_name D_BadField___init__
  have D_Field_style := ok_Field_style (P := P) (w := w) (base := base) T
  have D_Field_is_relative := ok_Field_is_relative (P := P) (w := w) (base := base) T
  have D_Field_is_signed := ok_Field_is_signed (P := P) (w := w) (base := base) T D_Field_style
  have D__law_plain := ok__law_plain (P := P) (w := w) (base := base) T D__law_take D__law_of
  have D__law_odd := ok__law_odd (P := P) (w := w) (base := base) T D__law_of
  have D__law_is_from := ok__law_is_from (P := P) (w := w) (base := base) T
  have D__law_first_bad := ok__law_first_bad (P := P) (w := w) (base := base) T D__law_is_from D__law_names
  have D__law_told_field := ok__law_told_field (P := P) (w := w) (base := base) T D_mk_Field
  have D__law_is_field := ok__law_is_field (P := P) (w := w) (base := base) T D_Field_style D_Field_is_relative D_Field_is_signed
  exact ok_law T D__law_bag D__law_plain D__law_take D__law_of D__law_names D__law_odd D__law_first_bad D__law_told_field D__law_is_field D_mk_Field F
end T16
end
section
open PySem PySem.W PyProof.Rows
set_option Elab.async false
set_option maxRecDepth 100000
set_option maxHeartbeats 0
open_top hd16 for PySem.Challenge.rw_reportlays_k16_fields_refused
end
set_option Elab.async false
set_option linter.all false
set_option maxRecDepth 100000
set_option maxHeartbeats 0
open PySem PySem.W PyProof.Rows
theorem PySem.Challenge.cw_reportlays_k16_fields_refused_holds : PySem.Challenge.rw_reportlays_k16_fields_refused.Holds := by
  refine hd16 ?_
  refine L2.RL.walk_ofG (l := PySem.Challenge.rw_reportlays_k16_fields_refused) (n := 63) (k := 7) (x := "_law_script") (sp := fun w => T16.spLaw (hd16.heap_39 w.params)) rfl (by decide) rfl ⟨rfl, by decide, by decide⟩ (fun w h Y => PySem.W.kIn_of Y) ?F (fun _ _ a ns hl _ hS => ⟨a, ns, rfl, hS, hl, fun _ => rfl⟩)
  case F =>
    intro w mg fa h KX G hmg
    have c : He.obsD T16.fa T16.fn (hd16.heap_39 w.params) = He.valD T16.fn := by kernel_rfl
    have c1 : (T16.exs.all fun f => f (hd16.heap_39 w.params)) = true := by kernel_rfl
    have c2 : L2.RL.SaysP T16.prs (hd16.heap_39 w.params) := by unfold L2.RL.SaysP; kernel_rfl
    have T : T16.TT (hd16.heap_39 w.params) mg := ⟨⟨c, c1, h, KX, G⟩, c2⟩
    obtain ⟨fd, F⟩ := T.d_law
    have e := hmg.symm.trans T.g_law
    cases e
    exact ⟨fd, fun s v => L2.FunD.bindsA (ps := ["_law_script"]) F (fun _ _ _ _ _ _ us hl => match us, hl with | [_], _ => rfl) s [v] rfl, fun base _ _ => T16.all_law T F⟩
