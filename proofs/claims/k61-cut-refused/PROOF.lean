import PyProof.Rows.All
import Wide.All
import OpenK.AllK
import Wide.FinOn
import PySem.Challenge.RW_reportlays_k61_cut_refused
import HandS.ForMost
import HandS.Zip0
import KE.GoesEnumKw
import PyProof.ZipIter
import KE.KDictWalk
import HandS.MakeKwOnly
import HandS.HeadHook2
import HandS.WordsExc
import HandS.Property
import HandS.IsInst
import HandS.Wide
import HandS.Flow
import HandS.TupAny
import HandS.Evl
import HandS.ExcInit
import HandS.ExcField
import HandS.ExcIs
import KE.KExcInit
import HandS.ExcOwn
import KE.KExcIs
import PyProof.ReprRoads
import HandS.CallSlots
import HandS.TupMul
import HandS.FStr
import HandS.Small
import HandS.List
import PyProof.DictUpdate
import HandS.Style
import HandS.DictComp
import HandS.TryMany
set_option Elab.async false
section
set_option Elab.async false
set_option linter.all false
set_option maxRecDepth 100000
set_option maxHeartbeats 4000000
/-! zip of two sources of any kind, strict or not, over the layer. -/
namespace L2.RL
open PySem PySem.Spec PyProof.Rows
open PySem.Sem (wp)

structure Dr (P : Program) (w : World) (K : PySem.W.Frag) (J : It) (it : Addr) (tn : Nat → Heap → Prop) : Prop where
  obj : ∀ i h, tn i h → ∃ o, h.get? it = some o ∧ ∀ v, o.data ≠ .cell v
  keep : ∀ i h h', tn i h → (∀ o, h.get? it = some o → h'.get? it = some o) → tn i h'
  item : ∀ (X : Cx), X.prog = P → X.w = w → X.K = K → ∀ (A' : Around) (i : Nat) (pins : List (Addr × Obj)) (s : Shared) (σ : St) (H : Hp) (E : Value → Shared → Prop) (Q : Value → Shared → Prop),
    Inv X pins σ H s → FpOk X pins H it → tn i s.heap → J.go i H →
    (∀ u x H' h' tk, Inv X pins σ H' { s with heap := h', toks := tk } → RelV x u → J.yld i H x H' → tn (i + 1) h' → (∀ b o, b ≠ it → s.heap.get? b = some o → h'.get? b = some o) →
      (∀ b o, s.heap.get? b = some o → H b = none → H' b = none) → Q u { s with heap := h', toks := tk }) →
    wpAny (model P w) A' (Builtin.SmallTypes.nextOf (.ref it)) Q E s
  done : ∀ (X : Cx), X.prog = P → X.w = w → X.K = K → ∀ (A' : Around) (i : Nat) (pins : List (Addr × Obj)) (s : Shared) (σ : St) (H : Hp) (E : Value → Shared → Prop) (Q : Value → Shared → Prop), A'.handled = none →
    Inv X pins σ H s → FpOk X pins H it → tn i s.heap → J.stop i H →
    (∀ e h' tk, Inv X pins σ H { s with heap := h', toks := tk } → (∃ o, h'.get? e = some o ∧ o.cls = .type "StopIteration") → (∀ b o, b ≠ it → s.heap.get? b = some o → h'.get? b = some o) →
      E (.ref e) { s with heap := h', toks := tk }) →
    wpAny (model P w) A' (Builtin.SmallTypes.nextOf (.ref it)) Q E s

section
variable {P : Program} {w : World} {K : PySem.W.Frag}
theorem FpOk.after {X : Cx} {pins : List (Addr × Obj)} {H H' : Hp} {b : Addr} (f : FpOk X pins H b) (n : H' b = none) : FpOk X pins H' b := ⟨n, f.2⟩
theorem Inv.turn1 {X : Cx} {pins : List (Addr × Obj)} {σ : St} {H : Hp} {s : Shared} {h' : Heap} {t' : Nat} {z : Addr} (I : Inv X pins σ H s) (f : FpOk X pins H z) (k : ∀ b o, b ≠ z → s.heap.get? b = some o → h'.get? b = some o) :
    Inv X pins σ H { s with heap := h', toks := t' } := I.turnedL (ch := [z]) (fun b o hb e => k b o (fun q => hb (by simp [q])) e) fun b hb => by
  have e : b = z := by simpa using hb
  rw [e]; exact f

theorem dr_list (a it : Addr) : Dr P w K (Itl K a) it (fun i h => h.IsListIter it a i) where
  obj := fun i h ⟨o, e, _, d⟩ => ⟨o, e, fun v z => by rw [d] at z; cases z⟩
  keep := fun i h h' st k => st.at fun o e => k o e
  item := by
    intro X hP hw hK A' i pins s σ H E Q I f st hg hQ
    subst hP hw hK
    obtain ⟨xs, x, hq, hx⟩ := hg
    obtain ⟨its, rv, p, _⟩ := I.list hq
    obtain ⟨u, hu, ru⟩ := rv.get hx
    refine wpAny_nextOf_list_item st p.isList (x := u) (by simpa using hu) fun h' st' sb => ?_
    exact hQ u x H h' s.toks (Inv.turn1 I f fun b o hb e => (sb.2 b hb).trans e) ru ⟨rfl, fun ys hy => by rw [I.list_inj hy hq]; exact hx⟩ st' (fun b o hb e => (sb.2 b hb).trans e) fun _ _ _ n => n
  done := by
    intro X hP hw hK A' i pins s σ H E Q hh I f st hg hE
    subst hP hw hK
    obtain ⟨xs, hq, hx⟩ := hg
    obtain ⟨its, rv, p, _⟩ := I.list hq
    have hl := rv.length
    exact wpAny_nextOf_list_end hh st p.isList (by simp; omega) fun h' e hs he => hE e h' s.toks (Inv.turn1 I f fun b o hb q => hs b o hb q) he fun b o hb q => hs b o hb q

theorem dr_tup (a it : Addr) : Dr P w K (Itt K a) it (fun i h => h.IsTupleIter it a i) where
  obj := fun i h ⟨o, e, _, d⟩ => ⟨o, e, fun v z => by rw [d] at z; cases z⟩
  keep := fun i h h' st k => st.at fun o e => k o e
  item := by
    intro X hP hw hK A' i pins s σ H E Q I f st hg hQ
    subst hP hw hK
    obtain ⟨xs, x, hq, hx⟩ := hg
    obtain ⟨its, rv, p, _⟩ := I.tuple hq
    obtain ⟨u, hu, ru⟩ := rv.get hx
    refine RZ.nextOf_tuple_item st (show s.heap.IsTuple a its.toArray from p) (x := u) (by simpa using hu) fun h' st' sb => ?_
    exact hQ u x H h' s.toks (Inv.turn1 I f fun b o hb e => (sb.2 b hb).trans e) ru ⟨rfl, fun ys hy => by rw [I.tuple_inj hy hq]; exact hx⟩ st' (fun b o hb e => (sb.2 b hb).trans e) fun _ _ _ n => n
  done := by
    intro X hP hw hK A' i pins s σ H E Q hh I f st hg hE
    subst hP hw hK
    obtain ⟨xs, hq, hx⟩ := hg
    obtain ⟨its, rv, p, _⟩ := I.tuple hq
    have hl := rv.length
    exact RZ.nextOf_tuple_end hh st (show s.heap.IsTuple a its.toArray from p) (by simp; omega) fun h' e hs he => hE e h' s.toks (Inv.turn1 I f fun b o hb q => hs b o hb q) he fun b o hb q => hs b o hb q
end
end L2.RL
end
section
set_option Elab.async false
set_option linter.all false
set_option maxRecDepth 100000
set_option maxHeartbeats 4000000
/-! zip(a, b), strict or not, of two sources. -/
namespace L2.RL
open PySem PySem.Spec PyProof.Rows
open PySem.Sem (wp)

abbrev ZipAt (h : Heap) (b : Bool) (z TI TO : Addr) (f0 : Value) : Prop :=
  h.get? z = some { cls := .type "zip", dict := none, data := .fields #[f0, .bool false, .bool b, .ref TI, .ref TO], slots := #[] }

structure Five (z TI TO i1 i2 : Addr) : Prop where
  nTz : TI ≠ z
  nOz : TO ≠ z
  n1z : i1 ≠ z
  n2z : i2 ≠ z
  nTO : TI ≠ TO
  nT1 : TI ≠ i1
  nT2 : TI ≠ i2
  nO1 : TO ≠ i1
  nO2 : TO ≠ i2
  n12 : i1 ≠ i2

def It2 (b : Bool) (J1 J2 : It) : It :=
  ⟨fun i H => J1.go i H ∧ ∀ x H1, J1.yld i H x H1 → J2.go i H1,
   fun i H v H' => ∃ T x y H1 H2, J1.yld i H x H1 ∧ J2.yld i H1 y H2 ∧ v = .ref T ∧ H2 T = none ∧ H' = upd H2 T (.tup [x, y]),
   fun i H => J1.stop i H ∧ (b = true → J2.stop i H) ∨ b = false ∧ J1.go i H ∧ ∀ x H1, J1.yld i H x H1 → H1 = H ∧ J2.stop i H1⟩

section
variable {P : Program} {w : World} {K : PySem.W.Frag} {J1 J2 : It} {z TI TO i1 i2 : Addr} {tn1 tn2 : Nat → Heap → Prop} {b : Bool}
theorem draw_some {M : Model} {A : Around} {it : Value} {s : Shared} {E : Value → Shared → Prop} {Q : Option Value → Shared → Prop} (h : wpAny M A (Builtin.SmallTypes.nextOf it) (fun u => Q (some u)) (fun _ _ => False) s) :
    wpAny M A (if b = true then Builtin.SmallTypes.nextOrEnd it else return some (← Builtin.SmallTypes.nextOf it)) Q E s := by
  cases b with
  | true =>
    rw [if_pos rfl]
    unfold Builtin.SmallTypes.nextOrEnd
    refine wpAny_bind (wpAny_attempt ?_)
    exact wpAny_mono h (fun u s1 q => wpAny_pure q) fun _ _ q => q.elim
  | false =>
    rw [if_neg Bool.false_ne_true]
    exact wpAny_bind (wpAny_mono h (fun u s1 q => wpAny_pure q) fun _ _ q => q.elim)
theorem ends_none {M : Model} {A : Around} {it : Value} {s : Shared} {E : Value → Shared → Prop} {Q : Option Value → Shared → Prop}
    (h : wpAny M A (Builtin.SmallTypes.nextOf it) (fun _ _ => False) (fun e s1 => (∃ a, e = .ref a ∧ ∃ o, s1.heap.get? a = some o ∧ o.cls = .type "StopIteration") ∧ Q none s1) s) :
    wpAny M A (Builtin.SmallTypes.nextOrEnd it) Q E s := by
  unfold Builtin.SmallTypes.nextOrEnd
  refine wpAny_bind (wpAny_attempt ?_)
  refine wpAny_mono h (fun u s1 q => q.elim) fun e s1 ⟨⟨a, ea, o, ho, hc⟩, q⟩ => ?_
  subst ea
  exact wpAny_bind (wpAny_isInstance (T := "StopIteration") (b := true) ⟨o, ho, hc⟩ isSubtype_stop (wpAny_pure q))

theorem set_pair {prog : Program} {w : World} {A : Around} {E : Value → Shared → Prop} {s : Shared} {T : Addr} {x y v : Value} {k : Nat} {Q : Unit → Shared → Prop} (hT : IsPair s.heap T x y)
    (h : ∀ h', h'.get? T = some { cls := .type "tuple", data := .seq ((#[x, y] : Array Value).setIfInBounds k v) } → Heap.SameBut T s.heap h' → Q () { s with heap := h' }) :
    wpAny (model prog w) A (updateSeq T (·.setIfInBounds k v)) Q E s := wpAny_updateSeq_pair hT h

theorem zip2_item {X : Cx} (hP : X.prog = P) (hw : X.w = w) (hK : X.K = K) {A' : Around} {i : Nat} {pins : List (Addr × Obj)} {s : Shared} {σ : St} {H : Hp} {E : Value → Shared → Prop} {Q : Value → Shared → Prop} {p q : Value}
    (V : Five z TI TO i1 i2) (D1 : Dr P w K J1 i1 tn1) (D2 : Dr P w K J2 i2 tn2) (I : Inv X pins σ H s) (fz : FpOk X pins H z) (fO : FpOk X pins H TO) (f1 : FpOk X pins H i1) (f2 : FpOk X pins H i2)
    (hz : ZipAt s.heap b z TI TO .none) (hTI : IsPair s.heap TI (.ref i1) (.ref i2)) (hTO : IsPair s.heap TO p q) (t1 : tn1 i s.heap) (t2 : tn2 i s.heap) (g : (It2 b J1 J2).go i H)
    (hQ : ∀ T u1 u2 x y H1 H2 h' tk, J1.yld i H x H1 → J2.yld i H1 y H2 → RelV x u1 → RelV y u2 → H2 T = none → (∀ c o, s.heap.get? c = some o → H c = none → H2 c = none) → (∀ c o, s.heap.get? c = some o → c ≠ T) →
      Inv X pins σ (upd H2 T (.tup [x, y])) { s with heap := h', toks := tk } → ZipAt h' b z TI TO (rawInt T) → IsPair h' T u1 u2 → IsPair h' TO u1 u2 → tn1 (i + 1) h' → tn2 (i + 1) h' →
      (∀ c o, c ≠ z → c ≠ TO → c ≠ i1 → c ≠ i2 → s.heap.get? c = some o → h'.get? c = some o) → Q (.ref T) { s with heap := h', toks := tk }) :
    wpAny (model P w) A' (Builtin.«zip.__next__» ⟨[.ref z], []⟩) (fun fin s' => ∃ v, fin = .done (.ret v) ∧ Q v s') E s := by
  obtain ⟨hp, gg, d, tk0, os⟩ := s
  show wpAny _ _ (field (.ref z) 2 >>= _) _ _ _
  refine wpAny_bind (wpAny_field hz rfl (x := .bool b) rfl ?_)
  show wpAny _ _ (field (.ref z) 3 >>= _) _ _ _
  refine wpAny_bind (wpAny_field hz rfl (x := .ref TI) rfl ?_)
  refine wpAny_bind (wpAny_seqItems hTI rfl ?_)
  show wpAny _ _ (Builtin.SmallTypes.ownedTupleIsFree (.ref z) >>= _) _ _ _
  refine wpAny_bind ?_
  unfold Builtin.SmallTypes.ownedTupleIsFree
  refine wpAny_bind (wpAny_field hz rfl (x := .none) rfl (wpAny_pure ?_))
  simp only [if_true]
  refine wpAny_bind (wpAny_rule ?_)
  refine wpAny_bind (wpAny_field hz rfl (x := .ref TO) rfl ?_)
  refine wpAny_bind (wpAny_setField_rec hz (by simp) fun g0 hz0 hs0 => ?_)
  replace hz0 : ZipAt g0 b z TI TO .ellipsis := hz0
  replace hs0 : Heap.SameBut z hp g0 := hs0
  have I0 : Inv X pins σ H ⟨g0, gg, d, tk0, os⟩ := Inv.turn1 (s := ⟨hp, gg, d, tk0, os⟩) (t' := tk0) I fz fun c o hc e => hs0.extBut c o hc e
  have hbb : (Value.bool b == Value.bool true) = b := by cases b <;> rfl
  rw [hbb]
  refine wpAny_bind ?_
  simp only [List.zipIdx_cons, List.zipIdx_nil, List.forIn_cons, List.forIn_nil]
  refine wpAny_bind (wpAny_bind (wpAny_onRaise ?_))
  refine draw_some (b := b) (D1.item X hP hw hK A' i pins ⟨g0, gg, d, tk0, os⟩ σ H _ _ I0 f1 (D1.keep _ _ _ t1 fun o e => hs0.extBut _ _ V.n1z e) g.1 fun u1 x H1 p1 tk1 I1 r1 y1 n1 k1 fr1 => ?_)
  have z1 : ZipAt p1 b z TI TO .ellipsis := k1 _ _ V.n1z.symm hz0
  have O1 : IsPair p1 TO p q := k1 _ _ V.nO1 (hs0.extBut _ _ V.nOz hTO)
  have lz0 : ∀ {c o}, hp.get? c = some o → H c = none → H1 c = none := fun {c o} e n => by
    by_cases hc : c = z
    · subst hc; exact fr1 _ _ hz0 n
    · exact fr1 c o (hs0.extBut c o hc e) n
  refine wpAny_bind (wpAny_seqItems (s := ⟨p1, gg, d, tk1, os⟩) O1 rfl ?_)
  refine wpAny_bind (set_pair (s := ⟨p1, gg, d, tk1, os⟩) O1 fun g1 hT1 hs1 => ?_)
  replace hT1 : IsPair g1 TO u1 q := hT1
  replace hs1 : Heap.SameBut TO p1 g1 := hs1
  have fO1 : FpOk X pins H1 TO := FpOk.after fO (lz0 hTO fO.1)
  have fz1 : FpOk X pins H1 z := FpOk.after fz (lz0 hz fz.1)
  obtain ⟨o1, e1, _⟩ := D1.obj _ _ t1
  obtain ⟨o2, e2, _⟩ := D2.obj _ _ t2
  have f11 : FpOk X pins H1 i1 := FpOk.after f1 (lz0 e1 f1.1)
  have f21 : FpOk X pins H1 i2 := FpOk.after f2 (lz0 e2 f2.1)
  have I2 : Inv X pins σ H1 ⟨g1, gg, d, tk1, os⟩ := Inv.turn1 (s := ⟨p1, gg, d, tk1, os⟩) (t' := tk1) I1 fO1 fun c o hc e => hs1.extBut c o hc e
  refine wpAny_bind (wpAny_letGo (wpAny_pure ?_))
  refine wpAny_bind (wpAny_bind (wpAny_onRaise ?_))
  have t2' : tn2 i g1 := D2.keep _ _ _ t2 fun o e => hs1.extBut _ _ V.nO2.symm (k1 _ _ V.n12.symm (hs0.extBut _ _ V.n2z e))
  refine draw_some (b := b) (D2.item X hP hw hK A' i pins ⟨g1, gg, d, tk1, os⟩ σ H1 _ _ I2 f21 t2' (g.2 x H1 y1) fun u2 y H2 p2 tk2 I3 r2 y2 n2 k2 fr2 => ?_)
  have lz1 : ∀ {c o}, p1.get? c = some o → H1 c = none → H2 c = none := fun {c o} e n => by
    by_cases hc : c = TO
    · subst hc; exact fr2 _ _ hT1 n
    · exact fr2 c o (hs1.extBut c o hc e) n
  have lz2 : ∀ c o, hp.get? c = some o → H c = none → H2 c = none := fun c o e n => by
    have n1' := lz0 e n
    by_cases hc : c = z
    · subst hc; exact lz1 z1 n1'
    · by_cases hc1 : c = i1
      · subst hc1
        obtain ⟨o', e', _⟩ := D1.obj _ _ n1
        exact lz1 e' n1'
      · exact lz1 (k1 c o hc1 (hs0.extBut c o hc e)) n1'
  have z2 : ZipAt p2 b z TI TO .ellipsis := k2 _ _ V.n2z.symm (hs1.extBut _ _ V.nOz.symm z1)
  have O2 : IsPair p2 TO u1 q := k2 _ _ V.nO2 hT1
  have n1b : tn1 (i + 1) p2 := D1.keep _ _ _ n1 fun o e => k2 _ _ V.n12 (hs1.extBut _ _ V.nO1.symm e)
  refine wpAny_bind (wpAny_seqItems (s := ⟨p2, gg, d, tk2, os⟩) O2 rfl ?_)
  refine wpAny_bind (set_pair (s := ⟨p2, gg, d, tk2, os⟩) O2 fun g2 hT2 hs2 => ?_)
  replace hT2 : IsPair g2 TO u1 u2 := hT2
  replace hs2 : Heap.SameBut TO p2 g2 := hs2
  refine wpAny_bind (wpAny_letGo (wpAny_pure (wpAny_pure ?_)))
  refine wpAny_bind (wpAny_seqItems (s := ⟨g2, gg, d, tk2, os⟩) hT2 rfl ?_)
  have fO2 : FpOk X pins H2 TO := FpOk.after fO (lz2 _ _ hTO fO.1)
  have fz2 : FpOk X pins H2 z := FpOk.after fz (lz2 _ _ hz fz.1)
  have I4 : Inv X pins σ H2 ⟨g2, gg, d, tk2, os⟩ := Inv.turn1 (s := ⟨p2, gg, d, tk2, os⟩) (t' := tk2) I3 fO2 fun c o hc e => hs2.extBut c o hc e
  have z3 : ZipAt g2 b z TI TO .ellipsis := hs2.extBut _ _ V.nOz.symm z2
  refine wpAny_bind (wpAny_newTuple ?_)
  show wpAny _ _ (Builtin.SmallTypes.ownedTupleHandOut (.ref z) (.ref g2.objs.size) >>= _) _ _ ⟨g2.push { cls := .type "tuple", data := .seq #[u1, u2] }, gg, d, tk2, os⟩
  refine wpAny_bind ?_
  unfold Builtin.SmallTypes.ownedTupleHandOut
  have z4 : ZipAt (g2.push { cls := .type "tuple", data := .seq #[u1, u2] }) b z TI TO .ellipsis := Heap.get?_push_of_some _ z3
  refine wpAny_bind (wpAny_setField_rec z4 (by simp) fun g5 z5 s5 => ?_)
  replace z5 : ZipAt g5 b z TI TO (rawInt g2.objs.size) := z5
  refine wpAny_setField_rec z5 (by simp) fun g6 z6 s6 => ?_
  replace z6 : ZipAt g6 b z TI TO (rawInt g2.objs.size) := z6
  replace s5 : Heap.SameBut z (g2.push { cls := .type "tuple", data := .seq #[u1, u2] }) g5 := s5
  replace s6 : Heap.SameBut z g5 g6 := s6
  have up : ∀ c o, c ≠ z → g2.get? c = some o → g6.get? c = some o := fun c o hc e => s6.extBut _ _ hc (s5.extBut _ _ hc (Heap.get?_push_of_some _ e))
  have hzl : z < g2.objs.size := Heap.lt_size z3
  have hT6 : IsPair g6 g2.objs.size u1 u2 := s6.extBut _ _ (Nat.ne_of_gt hzl) (s5.extBut _ _ (Nat.ne_of_gt hzl) (Heap.get?_push_size _ rfl))
  have new : ObjOk X.prog X.w (upd H2 g2.objs.size (.tup [x, y])) g6 g2.objs.size (.tup [x, y]) :=
    ⟨by show 2 ≤ sizeLine; rw [sizeLine_eq]; omega, [u1, u2], .cons r1 (.cons r2 .nil), ⟨_, hT6, rfl, _, rfl⟩⟩
  have I5 : Inv X pins σ (upd H2 g2.objs.size (.tup [x, y])) ⟨g6, gg, d, tk2, os⟩ :=
    Inv.turnedNew (s := ⟨g2, gg, d, tk2, os⟩) (t' := tk2) I4 (ch := [z]) (fun c o hc e => up c o (fun qq => hc (by simp [qq])) e) (fun c hc => by
      have e : c = z := by simpa using hc
      rw [e]; exact fz2) (Nat.le_refl _) new
  have all : ∀ c o, c ≠ z → c ≠ TO → c ≠ i1 → c ≠ i2 → hp.get? c = some o → g6.get? c = some o := fun c o c1 c2 c3 c4 e =>
    up c o c1 (hs2.extBut _ _ c2 (k2 _ _ c4 (hs1.extBut _ _ c2 (k1 _ _ c3 (hs0.extBut _ _ c1 e)))))
  refine wpAny_pure ⟨_, rfl, ?_⟩
  refine hQ g2.objs.size u1 u2 x y H1 H2 g6 tk2 y1 y2 r1 r2 (I4.hok.fresh (Nat.le_refl _)) lz2 (fun c o e => ?_) I5 z6 hT6 (up _ _ V.nOz hT2) ?_ ?_ all
  · have hlt : c < g2.objs.size := by
      have key : ∃ o', g2.get? c = some o' := by
        by_cases hc : c = z
        · subst hc; exact ⟨_, z3⟩
        by_cases hc2 : c = TO
        · subst hc2; exact ⟨_, hT2⟩
        by_cases hc3 : c = i1
        · subst hc3
          obtain ⟨o', e', _⟩ := D1.obj _ _ n1b
          exact ⟨o', hs2.extBut _ _ hc2 e'⟩
        by_cases hc4 : c = i2
        · subst hc4
          obtain ⟨o', e', _⟩ := D2.obj _ _ n2
          exact ⟨o', hs2.extBut _ _ hc2 e'⟩
        exact ⟨o, hs2.extBut _ _ hc2 (k2 _ _ hc4 (hs1.extBut _ _ hc2 (k1 _ _ hc3 (hs0.extBut _ _ hc e))))⟩
      obtain ⟨o', e'⟩ := key
      exact Heap.lt_size e'
    exact Nat.ne_of_lt hlt
  · exact D1.keep _ _ _ n1b fun o e => up _ _ V.n1z (hs2.extBut _ _ V.nO1.symm e)
  · exact D2.keep _ _ _ n2 fun o e => up _ _ V.n2z (hs2.extBut _ _ V.nO2.symm e)
end
end L2.RL
end
section
set_option Elab.async false
set_option linter.all false
set_option maxRecDepth 100000
set_option maxHeartbeats 4000000
/-! zip's end, its turns, its call. -/
namespace L2.RL
open PySem PySem.Spec PyProof.Rows
open PySem.Sem (wp)
section
variable {P : Program} {w : World} {K : PySem.W.Frag} {J1 J2 : It} {z TI TO i1 i2 : Addr} {tn1 tn2 : Nat → Heap → Prop} {b : Bool}

theorem stop_raise {prog : Program} {w : World} {A : Around} {s : Shared} {E : Value → Shared → Prop} {Q : Fin → Shared → Prop} (hh : A.handled = none)
    (h : ∀ e h', (∀ c o, s.heap.get? c = some o → h'.get? c = some o) → (∃ o, h'.get? e = some o ∧ o.cls = .type "StopIteration") → E (.ref e) { s with heap := h' }) :
    wpAny (model prog w) A (Builtin.SmallTypes.stopIteration : Sem Fin) Q E s := by
  show wpAny _ _ (newExc (.type "StopIteration") [] >>= _) _ _ _
  refine wpAny_bind ?_
  simp only [newExc, newTuple]
  refine wpAny_bind (wpAny_newObj_type ?_ (by size_fits))
  refine wpAny_bind (m := firstArgMember _ _) (wpAny_of_eq (a := Value.none) (by first | rfl | (simp only [firstArgMember]; rfl)) ?_)
  refine wpAny_newObj_type ?_ (by size_fits)
  simp only [raiseNew]
  refine wpAny_bind (wpAny_handled ?_)
  rw [hh]
  refine wpAny_bind (wpAny_pure (wpAny_throw ?_))
  exact h _ _ (fun c o e => Heap.get?_push_of_some _ (Heap.get?_push_of_some _ e)) ⟨_, Heap.get?_push_size _ rfl, rfl⟩

def Ended (X : Cx) (pins : List (Addr × Obj)) (σ : St) (H : Hp) (s : Shared) (E : Value → Shared → Prop) : Prop :=
  ∀ e h' tk, Inv X pins σ H { s with heap := h', toks := tk } → (∃ o, h'.get? e = some o ∧ o.cls = .type "StopIteration") → E (.ref e) { s with heap := h', toks := tk }

theorem zip2_end {X : Cx} (hP : X.prog = P) (hw : X.w = w) (hK : X.K = K) {A' : Around} (hh : A'.handled = none) {i : Nat} {pins : List (Addr × Obj)} {s : Shared} {σ : St} {H : Hp} {E : Value → Shared → Prop} {Q : Fin → Shared → Prop} {p q : Value}
    (V : Five z TI TO i1 i2) (D1 : Dr P w K J1 i1 tn1) (D2 : Dr P w K J2 i2 tn2) (I : Inv X pins σ H s) (fz : FpOk X pins H z) (fO : FpOk X pins H TO) (f1 : FpOk X pins H i1) (f2 : FpOk X pins H i2)
    (hz : ZipAt s.heap b z TI TO .none) (hTI : IsPair s.heap TI (.ref i1) (.ref i2)) (hTO : IsPair s.heap TO p q) (t1 : tn1 i s.heap) (t2 : tn2 i s.heap) (g : (It2 b J1 J2).stop i H)
    (hE : Ended X pins σ H s E) : wpAny (model P w) A' (Builtin.«zip.__next__» ⟨[.ref z], []⟩) Q E s := by
  obtain ⟨hp, gg, d, tk0, os⟩ := s
  show wpAny _ _ (field (.ref z) 2 >>= _) _ _ _
  refine wpAny_bind (wpAny_field hz rfl (x := .bool b) rfl ?_)
  show wpAny _ _ (field (.ref z) 3 >>= _) _ _ _
  refine wpAny_bind (wpAny_field hz rfl (x := .ref TI) rfl ?_)
  refine wpAny_bind (wpAny_seqItems hTI rfl ?_)
  show wpAny _ _ (Builtin.SmallTypes.ownedTupleIsFree (.ref z) >>= _) _ _ _
  refine wpAny_bind ?_
  unfold Builtin.SmallTypes.ownedTupleIsFree
  refine wpAny_bind (wpAny_field hz rfl (x := .none) rfl (wpAny_pure ?_))
  simp only [if_true]
  refine wpAny_bind (wpAny_rule ?_)
  refine wpAny_bind (wpAny_field hz rfl (x := .ref TO) rfl ?_)
  refine wpAny_bind (wpAny_setField_rec hz (by simp) fun g0 hz0 hs0 => ?_)
  replace hz0 : ZipAt g0 b z TI TO .ellipsis := hz0
  replace hs0 : Heap.SameBut z hp g0 := hs0
  have I0 : Inv X pins σ H ⟨g0, gg, d, tk0, os⟩ := Inv.turn1 (s := ⟨hp, gg, d, tk0, os⟩) (t' := tk0) I fz fun c o hc e => hs0.extBut c o hc e
  have hbb : (Value.bool b == Value.bool true) = b := by cases b <;> rfl
  rw [hbb]
  refine wpAny_bind ?_
  simp only [List.zipIdx_cons, List.zipIdx_nil, List.forIn_cons, List.forIn_nil]
  refine wpAny_bind (wpAny_bind (wpAny_onRaise ?_))
  have t1' : tn1 i g0 := D1.keep _ _ _ t1 fun o e => hs0.extBut _ _ V.n1z e
  have t2' : tn2 i g0 := D2.keep _ _ _ t2 fun o e => hs0.extBut _ _ V.n2z e
  obtain ⟨o2, e2, _⟩ := D2.obj _ _ t2
  rcases g with ⟨g1, g2⟩ | ⟨rfl, g1, g2⟩
  · cases b with
    | true =>
      show wpAny _ _ (Builtin.SmallTypes.nextOrEnd (.ref i1)) _ _ _
      refine ends_none (D1.done X hP hw hK A' i pins ⟨g0, gg, d, tk0, os⟩ σ H _ _ hh I0 f1 t1' g1 fun e p1 tk1 I1 he k1 => ⟨⟨e, rfl, he⟩, ?_⟩)
      have z1 : ZipAt p1 true z TI TO .ellipsis := k1 _ _ V.n1z.symm hz0
      refine wpAny_bind (wpAny_setField_rec (s := ⟨p1, gg, d, tk1, os⟩) z1 (by simp) fun g3 z3 s3 => ?_)
      replace s3 : Heap.SameBut z p1 g3 := s3
      have I3 : Inv X pins σ H ⟨g3, gg, d, tk1, os⟩ := Inv.turn1 (s := ⟨p1, gg, d, tk1, os⟩) (t' := tk1) I1 fz fun c o hc e => s3.extBut c o hc e
      have t3 : tn2 i g3 := D2.keep _ _ _ t2' fun o e => s3.extBut _ _ V.n2z (k1 _ _ V.n12.symm e)
      refine wpAny_bind ?_
      show wpAny _ _ (bind _ _) _ _ _
      refine wpAny_bind ?_
      simp only [List.drop_succ_cons, List.drop_zero, List.zipIdx_cons, List.zipIdx_nil, List.forIn_cons, List.forIn_nil]
      refine wpAny_bind (wpAny_bind (ends_none (D2.done X hP hw hK A' i pins ⟨g3, gg, d, tk1, os⟩ σ H _ _ hh I3 f2 t3 (g2 rfl) fun e' p2 tk2 I4 he' k2 => ⟨⟨e', rfl, he'⟩, ?_⟩)))
      refine wpAny_ite ?_
      rw [if_neg (by simp)]
      refine wpAny_pure (wpAny_pure ?_)
      refine wpAny_bind (wpAny_rule ?_)
      refine stop_raise hh fun e5 h5 k5 he5 => hE e5 h5 tk2 ?_ he5
      exact Inv.kept (s := ⟨p2, gg, d, tk2, os⟩) (t' := tk2) I4 k5
    | false =>
      show wpAny _ _ (Builtin.SmallTypes.nextOf (.ref i1) >>= _) _ _ _
      refine wpAny_bind (D1.done X hP hw hK A' i pins ⟨g0, gg, d, tk0, os⟩ σ H _ _ hh I0 f1 t1' g1 fun e p1 tk1 I1 he k1 => ?_)
      have z1 : ZipAt p1 false z TI TO .ellipsis := k1 _ _ V.n1z.symm hz0
      obtain ⟨oe, hoe, hce⟩ := he
      have hez : e ≠ z := fun x => by
        subst x
        rw [z1] at hoe
        cases hoe
        simp at hce
      refine wpAny_setField_rec (s := ⟨p1, gg, d, tk1, os⟩) z1 (by simp) fun g3 z3 s3 => ?_
      replace s3 : Heap.SameBut z p1 g3 := s3
      exact hE e g3 tk1 (Inv.turn1 (s := ⟨p1, gg, d, tk1, os⟩) (t' := tk1) I1 fz fun c o hc e => s3.extBut c o hc e) ⟨oe, s3.extBut _ _ hez hoe, hce⟩
  · refine draw_some (b := false) (D1.item X hP hw hK A' i pins ⟨g0, gg, d, tk0, os⟩ σ H _ _ I0 f1 t1' g1 fun u1 x H1 p1 tk1 I1 r1 y1 n1 k1 fr1 => ?_)
    obtain ⟨rfl, g3⟩ := g2 x H1 y1
    have z1 : ZipAt p1 false z TI TO .ellipsis := k1 _ _ V.n1z.symm hz0
    have O1 : IsPair p1 TO p q := k1 _ _ V.nO1 (hs0.extBut _ _ V.nOz hTO)
    refine wpAny_bind (wpAny_seqItems (s := ⟨p1, gg, d, tk1, os⟩) O1 rfl ?_)
    refine wpAny_bind (set_pair (s := ⟨p1, gg, d, tk1, os⟩) O1 fun g4 hT1 hs1 => ?_)
    replace hs1 : Heap.SameBut TO p1 g4 := hs1
    have I2 : Inv X pins σ H1 ⟨g4, gg, d, tk1, os⟩ := Inv.turn1 (s := ⟨p1, gg, d, tk1, os⟩) (t' := tk1) I1 fO fun c o hc e => hs1.extBut c o hc e
    refine wpAny_bind (wpAny_letGo (wpAny_pure ?_))
    refine wpAny_bind (wpAny_bind (wpAny_onRaise ?_))
    have t3 : tn2 i g4 := D2.keep _ _ _ t2' fun o e => hs1.extBut _ _ V.nO2.symm (k1 _ _ V.n12.symm e)
    show wpAny _ _ (Builtin.SmallTypes.nextOf (.ref i2) >>= _) _ _ _
    refine wpAny_bind (D2.done X hP hw hK A' i pins ⟨g4, gg, d, tk1, os⟩ σ H1 _ _ hh I2 f2 t3 g3 fun e p2 tk2 I3 he k2 => ?_)
    have z2 : ZipAt p2 false z TI TO .ellipsis := k2 _ _ V.n2z.symm (hs1.extBut _ _ V.nOz.symm z1)
    obtain ⟨oe, hoe, hce⟩ := he
    have hez : e ≠ z := fun x => by
      subst x
      rw [z2] at hoe
      cases hoe
      simp at hce
    refine wpAny_setField_rec (s := ⟨p2, gg, d, tk2, os⟩) z2 (by simp) fun g5 z5 s5 => ?_
    replace s5 : Heap.SameBut z p2 g5 := s5
    exact hE e g5 tk2 (Inv.turn1 (s := ⟨p2, gg, d, tk2, os⟩) (t' := tk2) I3 fz fun c o hc e => s5.extBut c o hc e) ⟨oe, s5.extBut _ _ hez hoe, hce⟩

theorem letGoZ {prog : Program} {A : Around} {E : Value → Shared → Prop} {s : Shared} {elts : List Expr} {x1} {pos : Pos} {T : Addr} {Q : Unit → Shared → Prop} (hz : ZipAt s.heap b z TI TO (rawInt T))
    (hQ : ∀ h', ZipAt h' b z TI TO .none → Heap.SameBut z s.heap h' → Q () { s with heap := h' }) :
    wpAny (model prog w) A (letOwnedTupleGo (.Tuple elts x1 pos) (.ref z) (.ref T)) Q E s := by
  unfold letOwnedTupleGo
  refine wpAny_bind (wpAny_load hz ?_)
  simp only [Array.getElem?_eq_getElem, List.size_toArray, List.length_cons, List.length_nil]
  split
  · refine wpAny_bind (wpAny_rule ?_)
    show wpAny _ _ (setField (.ref z) 0 .none) Q E s
    exact wpAny_setField_rec hz (by simp) hQ
  · rename_i hc
    exact absurd (by simp) hc
theorem iterZ {prog : Program} {A : Around} {E : Value → Shared → Prop} {s : Shared} {f0 : Value} {Q : Value → Shared → Prop} (hz : ZipAt s.heap b z TI TO f0) (h : Q (.ref z) s) : wpAny (model prog w) A (pyIter (.ref z)) Q E s := by
  have hT : s.TypeIs (.ref z) "zip" := ⟨_, hz, rfl⟩
  refine wpAny_pyIter_slot hT F.slot_zip_iter (wpAny_call_entry F.slot_zip_iter hT F.entry_zip_iter ?_ (F.args_zip_iter_1 _))
  exact wpAny_pure ⟨_, rfl, "zip", _, hT, F.slot_zip_next.lookup, h⟩

theorem turn_zip2 {elts : List Expr} {kk : Nat} {tpos : Pos} (V : Five z TI TO i1 i2) (D1 : Dr P w K J1 i1 tn1) (D2 : Dr P w K J2 i2 tn2) :
    Turn P w K (.Tuple elts kk tpos) (It2 b J1 J2) [z, TI, TO, i1, i2] z (fun i h => ZipAt h b z TI TO .none ∧ IsPair h TI (.ref i1) (.ref i2) ∧ (∃ p q, IsPair h TO p q) ∧ tn1 i h ∧ tn2 i h) where
  mem := by simp
  obj := fun i h st c hc => by
    obtain ⟨hz, hTI, ⟨x, y, hTO⟩, t1, t2⟩ := st
    have e' : c = z ∨ c = TI ∨ c = TO ∨ c = i1 ∨ c = i2 := by simpa using hc
    rcases e' with rfl | rfl | rfl | rfl | rfl
    · exact ⟨_, hz, fun v q => nomatch q⟩
    · exact ⟨_, hTI, fun v q => nomatch q⟩
    · exact ⟨_, hTO, fun v q => nomatch q⟩
    · exact D1.obj _ _ t1
    · exact D2.obj _ _ t2
  keep := fun i h h' st k => by
    obtain ⟨hz, hTI, ⟨x, y, hTO⟩, t1, t2⟩ := st
    exact ⟨k z (by simp) _ hz, k TI (by simp) _ hTI, ⟨x, y, k TO (by simp) _ hTO⟩, D1.keep _ _ _ t1 fun o e => k i1 (by simp) o e, D2.keep _ _ _ t2 fun o e => k i2 (by simp) o e⟩
  item := by
    intro X hP hw hK hc i pins s σ H E I hf st hg
    obtain ⟨hz, hTI, ⟨x0, y0, hTO⟩, t1, t2⟩ := st
    have hT : s.TypeIs (.ref z) "zip" := ⟨_, hz, rfl⟩
    unfold pyNext
    refine wpAny_bind (wpAny_attempt (wpAny_callSpecial?_slot (name := Str.ofString "__next__") hT F.slot_zip_next
      (wpAny_call_entry F.slot_zip_next hT F.entry_zip_next (zip2_item hP hw hK V D1 D2 I (hf z (by simp)) (hf TO (by simp)) (hf i1 (by simp)) (hf i2 (by simp)) hz hTI hTO t1 t2 hg ?_) (F.args_zip_next_1 _))))
    intro T u1 u2 x y H1 H2 h' tk y1 y2 r1 r2 hn lz hne I2 hz' hTT hTO' t1' t2' all
    refine wpAny_pure ⟨_, rfl, ?_⟩
    refine letGoZ hz' fun h'' hz'' sb => ?_
    have lz3 : ∀ c ∈ [z, TI, TO, i1, i2], (upd H2 T (.tup [x, y])) c = none := fun c hc => by
      have e' : c = z ∨ c = TI ∨ c = TO ∨ c = i1 ∨ c = i2 := by simpa using hc
      have ex : ∃ o, s.heap.get? c = some o := by
        rcases e' with rfl | rfl | rfl | rfl | rfl
        · exact ⟨_, hz⟩
        · exact ⟨_, hTI⟩
        · exact ⟨_, hTO⟩
        · obtain ⟨o, e, _⟩ := D1.obj _ _ t1; exact ⟨o, e⟩
        · obtain ⟨o, e, _⟩ := D2.obj _ _ t2; exact ⟨o, e⟩
      obtain ⟨o, e⟩ := ex
      rw [upd_ne (hne c o e)]
      exact lz c o e (hf c hc).1
    have fz2 : FpOk X pins (upd H2 T (.tup [x, y])) z := FpOk.after (hf z (by simp)) (lz3 z (by simp))
    refine ⟨.ref T, _, Inv.turn1 (s := { s with heap := h', toks := tk }) (t' := tk) I2 fz2 fun c o hc e => sb.extBut c o hc e, rfl, ⟨T, x, y, H1, H2, y1, y2, rfl, hn, rfl⟩, ⟨hz'', ?_, ⟨u1, u2, ?_⟩, ?_, ?_⟩, lz3⟩
    · exact sb.extBut _ _ V.nTz (all _ _ V.nTz V.nTO V.nT1 V.nT2 hTI)
    · exact sb.extBut _ _ V.nOz hTO'
    · exact D1.keep _ _ _ t1' fun o e => sb.extBut _ _ V.n1z e
    · exact D2.keep _ _ _ t2' fun o e => sb.extBut _ _ V.n2z e
  done := by
    intro X hP hw hK hc i pins s σ H E I hf st hg
    obtain ⟨hz, hTI, ⟨x0, y0, hTO⟩, t1, t2⟩ := st
    have hT : s.TypeIs (.ref z) "zip" := ⟨_, hz, rfl⟩
    unfold pyNext
    refine wpAny_bind (wpAny_attempt (wpAny_callSpecial?_slot (name := Str.ofString "__next__") hT F.slot_zip_next
      (wpAny_call_entry F.slot_zip_next hT F.entry_zip_next (zip2_end hP hw hK (by exact I.ok.hd hc) V D1 D2 I (hf z (by simp)) (hf TO (by simp)) (hf i1 (by simp)) (hf i2 (by simp)) hz hTI hTO t1 t2 hg ?_) (F.args_zip_next_1 _))))
    intro e h' tk I2 he
    obtain ⟨o, ho, hcl⟩ := he
    refine wpAny_bind (wpAny_isInstance (T := "StopIteration") (b := true) ⟨o, ho, hcl⟩ isSubtype_stop ?_)
    exact wpAny_pure ⟨rfl, I2⟩
  self := fun A i s Q E st h => iterZ st.1 h
end
end L2.RL
end
section
set_option Elab.async false
set_option linter.all false
set_option maxRecDepth 100000
set_option maxHeartbeats 4000000
/-! the items of a dict of the module's text, as a source of a zip. -/
namespace L2.RL
open PySem PySem.Spec PyProof.Rows
open PySem.Sem (wp)

theorem alive_any {M : Model} {A : Around} {s : Shared} {E : Value → Shared → Prop} {a : Addr} {Q : Option Obj → Shared → Prop} (h : Q (s.heap.get? a) s) : wpAny M A (loadIfAlive a) Q E s :=
  fun Γ p _ => by unfold loadIfAlive; rw [Sem.wp_loadIfAlive]; exact h

abbrev ItemsAt (h : Heap) (it d : Addr) (i n ep : Nat) (f0 f1 k v : Value) : Prop :=
  h.get? it = some { cls := .type "dict_itemiterator", dict := none, data := .fields #[f0, f1, .ref d, .int i 0, .int n 0, .int ep 0, k, v], slots := #[] }
def Handed (f0 : Value) : Prop := f0 = .none ∨ ∃ a : Nat, f0 = rawInt (a : Nat)

section
variable {prog : Program} {w : World} {A : Around} {E : Value → Shared → Prop} {s : Shared}
theorem free_cases {it d : Addr} {i n ep : Nat} {f0 f1 k v : Value} {Q : Bool → Shared → Prop} (hf : Handed f0) (hit : ItemsAt s.heap it d i n ep f0 f1 k v)
    (h : ∀ (b : Bool) f1' h', ItemsAt h' it d i n ep f0 f1' k v → (∀ c o, c ≠ it → s.heap.get? c = some o → h'.get? c = some o) → h'.objs.size = s.heap.objs.size → Q b { s with heap := h' }) :
    wpAny (model prog w) A (Builtin.Dict_items.ownedTupleIsFree (.ref it)) Q E s := by
  obtain ⟨hp, g, dr, tk, os⟩ := s
  unfold Builtin.Dict_items.ownedTupleIsFree
  rcases hf with rfl | ⟨a, rfl⟩
  · exact wpAny_bind (wpAny_field hit rfl (x := .none) rfl (wpAny_pure (h true f1 hp hit (fun _ _ _ e => e) rfl)))
  · refine wpAny_bind (wpAny_field hit rfl (x := rawInt (a : Nat)) rfl ?_)
    refine wpAny_bind (alive_any ?_)
    refine wpAny_ite ?_
    split
    · exact wpAny_pure (h true f1 hp hit (fun _ _ _ e => e) rfl)
    · refine wpAny_bind (wpAny_field hit rfl (x := f1) rfl ?_)
      refine wpAny_ite ?_
      split
      · refine wpAny_bind (wpAny_setField_rec hit (by simp) fun h1 e1 s1 => wpAny_pure ?_)
        exact h false (.bool true) h1 e1 (fun c o hc e => s1.extBut c o hc e) s1.1
      · exact wpAny_pure (h false f1 hp hit (fun _ _ _ e => e) rfl)

theorem pair_out {it d : Addr} {i n ep : Nat} {f0 f1 k v key val : Value} {Q : Value → Shared → Prop} (hf : Handed f0) (hit : ItemsAt s.heap it d i n ep f0 f1 k v)
    (h : ∀ T g0 g1 k' v' h', Handed g0 → ItemsAt h' it d i n ep g0 g1 k' v' → s.heap.objs.size ≤ T → h'.get? T = some { cls := .type "tuple", data := .seq #[key, val] } → (∀ c o, c ≠ it → s.heap.get? c = some o → h'.get? c = some o) →
      Q (.ref T) { s with heap := h' }) :
    wpAny (model prog w) A (Builtin.Dict_items.pairFromOwner (.ref it) 6 key val) Q E s := by
  obtain ⟨hp, g, dr, tk, os⟩ := s
  have hil : it < hp.objs.size := Heap.lt_size hit
  unfold Builtin.Dict_items.pairFromOwner
  refine wpAny_bind (wpAny_newTuple ?_)
  have h0 : ItemsAt (hp.push { cls := .type "tuple", data := .seq #[key, val] }) it d i n ep f0 f1 k v := Heap.get?_push_of_some _ hit
  have t0 : (hp.push { cls := .type "tuple", data := .seq #[key, val] }).get? hp.objs.size = some { cls := .type "tuple", data := .seq #[key, val] } := Heap.get?_push_size _ rfl
  have k0 : ∀ c o, hp.get? c = some o → (hp.push { cls := .type "tuple", data := .seq #[key, val] }).get? c = some o := fun c o e => Heap.get?_push_of_some _ e
  refine wpAny_bind (free_cases (s := ⟨hp.push { cls := .type "tuple", data := .seq #[key, val] }, g, dr, tk, os⟩) hf h0 fun b f1' h1 e1 k1 z1 => ?_)
  have t1 : h1.get? hp.objs.size = some { cls := .type "tuple", data := .seq #[key, val] } := k1 _ _ (Nat.ne_of_gt hil) t0
  refine wpAny_ite ?_
  split
  · refine wpAny_bind (wpAny_field e1 rfl (x := k) rfl ?_)
    refine wpAny_bind (wpAny_field e1 rfl (x := v) rfl ?_)
    refine wpAny_bind (wpAny_setField_rec e1 (by simp) fun h2 e2 s2 => ?_)
    replace e2 : ItemsAt h2 it d i n ep f0 f1' key v := e2
    refine wpAny_bind (wpAny_setField_rec e2 (by simp) fun h3 e3 s3 => ?_)
    replace e3 : ItemsAt h3 it d i n ep f0 f1' key val := e3
    refine wpAny_bind (wpAny_setField_rec e3 (by simp) fun h4 e4 s4 => ?_)
    replace e4 : ItemsAt h4 it d i n ep (rawInt (hp.objs.size : Nat)) f1' key val := e4
    refine wpAny_bind (wpAny_setField_rec e4 (by simp) fun h5 e5 s5 => ?_)
    replace e5 : ItemsAt h5 it d i n ep (rawInt (hp.objs.size : Nat)) (.bool false) key val := e5
    refine wpAny_bind (wpAny_letGo (wpAny_pure ?_))
    have up : ∀ c o, c ≠ it → h1.get? c = some o → h5.get? c = some o := fun c o hc e => s5.extBut _ _ hc (s4.extBut _ _ hc (s3.extBut _ _ hc (s2.extBut _ _ hc e)))
    exact h hp.objs.size _ _ _ _ h5 (.inr ⟨_, rfl⟩) e5 (Nat.le_refl _) (up _ _ (Nat.ne_of_gt hil) t1) fun c o hc e => up c o hc (k1 c o hc (k0 c o e))
  · exact wpAny_pure (h hp.objs.size _ _ _ _ h1 hf e1 (Nat.le_refl _) t1 fun c o hc e => k1 c o hc (k0 c o e))

theorem items_next {it d : Addr} {i ep : Nat} {es : Array DictEntry} {f0 f1 k v : Value} {Q : Value → Shared → Prop} (hf : Handed f0) (hit : ItemsAt s.heap it d i es.size ep f0 f1 k v) (hm : s.heap.DictRaw d es ep) (hlt : i < es.size)
    (h : ∀ T g0 g1 k' v' h', Handed g0 → ItemsAt h' it d (i + 1) es.size ep g0 g1 k' v' → s.heap.objs.size ≤ T → h'.get? T = some { cls := .type "tuple", data := .seq #[es[i].key, es[i].val] } →
      (∀ c o, c ≠ it → s.heap.get? c = some o → h'.get? c = some o) → Q (.ref T) { s with heap := h' }) :
    wpAny (model prog w) A (Builtin.SmallTypes.nextOf (.ref it)) Q E s := by
  obtain ⟨hp, g, dr, tk, os⟩ := s
  obtain ⟨od, hod, hcd, hdd⟩ := id hm
  have hT : Shared.TypeIs ⟨hp, g, dr, tk, os⟩ (.ref it) "dict_itemiterator" := ⟨_, hit, rfl⟩
  unfold Builtin.SmallTypes.nextOf
  refine wpAny_bind (wpAny_callSpecial?_slot (name := Str.ofString "__next__") hT F.slot_dict_itemiterator_next
    (wpAny_call_entry F.slot_dict_itemiterator_next hT F.entry_dict_itemiterator_next ?_ (F.args_dict_itemiterator_next_1 _)))
  refine wpAny_bind (wpAny_pure ?_)
  refine wpAny_bind ?_
  refine wpAny_bind ?_
  first | refine wpAny_bind (wpAny_typeNameOfWhole_itemiter hT (wpAny_pure ?_)) | refine wpAny_bind (wpAny_typeNameOf_itemiter hT (wpAny_pure ?_))
  refine wpAny_bind (wpAny_fieldsOf hit rfl ?_)
  have own : Builtin.Dict_items.ownsTuple "dict_itemiterator" = true := by decide
  simp only [own, if_true]
  show wpAny _ _ (if (Value.ref d == Value.none) = true then _ else _) _ _ _
  rw [if_neg (show ¬ ((Value.ref d == Value.none) = true) from Bool.false_ne_true)]
  refine wpAny_bind (wpAny_pure ?_)
  refine wpAny_bind (wpAny_dictEntries hod hdd ?_)
  rw [if_neg (by simp)]
  refine wpAny_bind (wpAny_pure ?_)
  refine wpAny_bind (wpAny_dictEpoch hod hdd ?_)
  rw [if_neg (by simp)]
  refine wpAny_pure ?_
  simp only [show ¬ ((i : Int) < 0) from by omega, if_false, Int.toNat_natCast, Array.getElem?_eq_getElem hlt]
  refine wpAny_bind ?_
  first | refine wpAny_bind (wpAny_typeNameOfWhole_itemiter hT (wpAny_pure ?_)) | refine wpAny_bind (wpAny_typeNameOf_itemiter hT (wpAny_pure ?_))
  refine wpAny_bind (wpAny_isOneOf_itemiter hT ?_)
  show wpAny _ _ (setField (.ref it) 3 (rawInt ((i : Int) + 1)) >>= _) _ _ ⟨hp, g, dr, tk, os⟩
  refine wpAny_bind (wpAny_setField_rec hit (by simp) fun h1 e1 s1 => ?_)
  replace e1 : ItemsAt h1 it d (i + 1) es.size ep f0 f1 k v := by
    have e : ((i + 1 : Nat) : Int) = (i : Int) + 1 := by omega
    unfold ItemsAt
    rw [e]
    simpa [rawInt] using e1
  have hT1 : Shared.TypeIs ⟨h1, g, dr, tk, os⟩ (.ref it) "dict_itemiterator" := ⟨_, e1, rfl⟩
  refine wpAny_bind (wpAny_holding ?_)
  refine wpAny_bind (wpAny_isOneOf_itemiter hT1 ?_)
  refine wpAny_bind (wpAny_isOneOf_itemiter hT1 ?_)
  show wpAny _ _ (Builtin.Dict_items.pairFromOwner (.ref it) 6 es[i].key es[i].val) _ _ ⟨h1, g, dr, tk, os⟩
  refine pair_out (s := ⟨h1, g, dr, tk, os⟩) hf e1 fun T g0 g1 k' v' h2 hg e2 hT2 t2 k2 => ?_
  refine wpAny_pure ⟨_, rfl, wpAny_pure (h T g0 g1 k' v' h2 hg e2 (by have := s1.1; show hp.objs.size ≤ T; rw [← this]; exact hT2) t2 fun c o hc e => k2 c o hc (s1.extBut c o hc e))⟩

theorem items_last {it d : Addr} {i ep : Nat} {es : Array DictEntry} {f0 f1 k v : Value} {Q : Value → Shared → Prop} (hh : A.handled = none) (hit : ItemsAt s.heap it d i es.size ep f0 f1 k v) (hm : s.heap.DictRaw d es ep) (hge : es.size ≤ i)
    (h : ∀ e h', (∃ o, h'.get? e = some o ∧ o.cls = .type "StopIteration") → (∀ c o, c ≠ it → s.heap.get? c = some o → h'.get? c = some o) → E (.ref e) { s with heap := h' }) :
    wpAny (model prog w) A (Builtin.SmallTypes.nextOf (.ref it)) Q E s := by
  obtain ⟨hp, g, dr, tk, os⟩ := s
  obtain ⟨od, hod, hcd, hdd⟩ := id hm
  have hT : Shared.TypeIs ⟨hp, g, dr, tk, os⟩ (.ref it) "dict_itemiterator" := ⟨_, hit, rfl⟩
  unfold Builtin.SmallTypes.nextOf
  refine wpAny_bind (wpAny_callSpecial?_slot (name := Str.ofString "__next__") hT F.slot_dict_itemiterator_next
    (wpAny_call_entry F.slot_dict_itemiterator_next hT F.entry_dict_itemiterator_next ?_ (F.args_dict_itemiterator_next_1 _)))
  refine wpAny_bind (wpAny_pure ?_)
  refine wpAny_bind ?_
  refine wpAny_bind ?_
  first | refine wpAny_bind (wpAny_typeNameOfWhole_itemiter hT (wpAny_pure ?_)) | refine wpAny_bind (wpAny_typeNameOf_itemiter hT (wpAny_pure ?_))
  refine wpAny_bind (wpAny_fieldsOf hit rfl ?_)
  have own : Builtin.Dict_items.ownsTuple "dict_itemiterator" = true := by decide
  simp only [own, if_true]
  show wpAny _ _ (if (Value.ref d == Value.none) = true then _ else _) _ _ _
  rw [if_neg (show ¬ ((Value.ref d == Value.none) = true) from Bool.false_ne_true)]
  refine wpAny_bind (wpAny_pure ?_)
  refine wpAny_bind (wpAny_dictEntries hod hdd ?_)
  rw [if_neg (by simp)]
  refine wpAny_bind (wpAny_pure ?_)
  refine wpAny_bind (wpAny_dictEpoch hod hdd ?_)
  rw [if_neg (by simp)]
  refine wpAny_pure ?_
  simp only [show ¬ ((i : Int) < 0) from by omega, if_false, Int.toNat_natCast, Array.getElem?_eq_none hge]
  refine wpAny_bind ?_
  first | refine wpAny_bind (wpAny_typeNameOfWhole_itemiter hT (wpAny_pure ?_)) | refine wpAny_bind (wpAny_typeNameOf_itemiter hT (wpAny_pure ?_))
  show wpAny _ _ (setField (.ref it) 2 .none >>= _) _ _ _
  refine wpAny_bind (wpAny_setField_rec hit (by simp) fun h1 e1 s1 => ?_)
  refine stop_raise (s := ⟨h1, g, dr, tk, os⟩) (by exact hh) fun e h2 k2 he => ?_
  exact h e h2 he fun c o hc q => k2 c o (s1.extBut c o hc q)
end

def KItems (K : PySem.W.Frag) (d : Addr) (kvs : List (V × V)) : Prop :=
  ∃ o es ep, K.lookup d = some o ∧ o.ExactDict ∧ o.data = .dict es ep ∧ Paired (fun (p : V × V) (e : DictEntry) => RelV p.1 e.key ∧ RelV p.2 e.val) kvs es.toList ∧ (d == sysModules) = false
def ItI (kvs : List (V × V)) : It :=
  ⟨fun i _ => i < kvs.length, fun i H x H' => ∃ T k v, kvs[i]? = some (k, v) ∧ x = .ref T ∧ H T = none ∧ H' = upd H T (.tup [k, v]), fun i _ => kvs.length ≤ i⟩
theorem Paired.at {α β : Type} {F : α → β → Prop} : ∀ {l : List α} {m : List β} {i : Nat} {a : α}, Paired F l m → l[i]? = some a → ∃ b, m[i]? = some b ∧ F a b
  | _, _, _, _, .nil, e => by simp at e
  | _, _, 0, _, .cons r _, e => by
    have q := Option.some.inj e
    subst q
    exact ⟨_, rfl, r⟩
  | _, _, i + 1, a, .cons _ t, e => by
    obtain ⟨b, h1, h2⟩ := Paired.at (i := i) (a := a) t (by simpa using e)
    exact ⟨b, by simpa using h1, h2⟩
section
variable {P : Program} {w : World} {K : PySem.W.Frag}
theorem dr_items {d : Addr} {kvs : List (V × V)} {o : Obj} {es : Array DictEntry} {ep : Nat} (it : Addr) (hk : K.lookup d = some o) (hx : o.ExactDict) (hd : o.data = .dict es ep)
    (hp : Paired (fun (p : V × V) (e : DictEntry) => RelV p.1 e.key ∧ RelV p.2 e.val) kvs es.toList) :
    Dr P w K (ItI kvs) it (fun i h => ∃ f0 f1 k v, Handed f0 ∧ ItemsAt h it d i es.size ep f0 f1 k v) where
  obj := fun i h ⟨f0, f1, k, v, _, e⟩ => ⟨_, e, fun v z => nomatch z⟩
  keep := fun i h h' ⟨f0, f1, k, v, hf, e⟩ q => ⟨f0, f1, k, v, hf, q _ e⟩
  item := by
    intro X hP hw hK A' i pins s σ H E Q I f st hg hQ
    subst hP hw hK
    obtain ⟨f0, f1, k, v, hf, hit⟩ := st
    have hl : kvs.length = es.toList.length := Paired.length hp
    have hi : i < es.size := by
      have : i < kvs.length := hg
      rw [hl] at this
      simpa using this
    obtain ⟨⟨kk, vv⟩, hkv⟩ : ∃ p, kvs[i]? = some p := ⟨kvs[i]'hg, List.getElem?_eq_getElem hg⟩
    obtain ⟨e, he, rk, rv⟩ := Paired.at hp hkv
    have he' : es[i] = e := by
      have h2 : es.toList[i]? = some es[i] := by simp [hi]
      rw [h2] at he
      exact Option.some.inj he
    have hil : it < s.heap.objs.size := Heap.lt_size hit
    refine items_next hf hit ⟨o, I.kIn d o hk, hx, hd⟩ hi fun T g0 g1 k' v' h' hg' e' hT t' keep => ?_
    rw [he'] at t'
    have new : ObjOk X.prog X.w (upd H T (.tup [kk, vv])) h' T (.tup [kk, vv]) := ⟨by show 2 ≤ sizeLine; rw [sizeLine_eq]; omega, [e.key, e.val], .cons rk (.cons rv .nil), ⟨_, t', rfl, _, rfl⟩⟩
    have I1 : Inv X pins σ (upd H T (.tup [kk, vv])) { s with heap := h' } := I.turnedNew (t' := s.toks) (ch := [it]) (fun c ob hc q => keep c ob (fun z => hc (by simp [z])) q) (fun c hc => by
      have z : c = it := by simpa using hc
      rw [z]; exact f) hT new
    exact hQ (.ref T) (.ref T) _ h' s.toks I1 rfl ⟨T, kk, vv, hkv, rfl, I.hok.fresh hT, rfl⟩ ⟨g0, g1, k', v', hg', e'⟩ keep fun c ob q n => by
      rw [upd_ne (Nat.ne_of_lt (Nat.lt_of_lt_of_le (Heap.lt_size q) hT))]; exact n
  done := by
    intro X hP hw hK A' i pins s σ H E Q hh I f st hg hE
    subst hP hw hK
    obtain ⟨f0, f1, k, v, hf, hit⟩ := st
    have hl : kvs.length = es.toList.length := Paired.length hp
    have hi : es.size ≤ i := by
      have : kvs.length ≤ i := hg
      rw [hl] at this
      simpa using this
    refine items_last hh hit ⟨o, I.kIn d o hk, hx, hd⟩ hi fun e h' he keep => ?_
    exact hE e h' s.toks (Inv.turn1 I f keep) he keep
end
end L2.RL
end
section
set_option Elab.async false
set_option linter.all false
set_option maxRecDepth 100000
set_option maxHeartbeats 4000000
/-! zip(a, b), zip(a, b, strict=True) walked; d.items() as a value. -/
namespace L2.RL
open PySem PySem.Spec PyProof.Rows
open PySem.Sem (wp)

def IsView (v d : Addr) : Heap → Prop := fun h => h.IsItemsView v d
section
variable {X : Cx} {e : Expr} {te : TE} {apos cpos : Pos}
def tItemsK (K : PySem.W.Frag) (te : TE) : TE := fun σ H Q => te σ H fun x H1 => ∃ d kvs, x = .ref d ∧ KItems K d kvs ∧ ∀ v, H1 v = none → Q (.ref v) (upd H1 v (.ext (IsView v d)))
theorem pe_itemsK (he : PE X e te) (hbase : attributeBase e "items" X.env (eval e X.env) = eval e X.env := by rfl) (hline : (apos.endLine == cpos.line) = true := by rfl) :
    PE X (.Call (.Attribute e "items" apos) [] [] cpos) (tItemsK X.K te) := by
  refine ⟨fun pins s σ H Q I h => ?_⟩
  refine wpAny_Call_method0_late hbase hline (thn (he.run pins s σ H _ I h) fun u s1 ⟨x, H1, I1, r1, d, kvs, ex, hk, q⟩ => ?_)
  subst ex
  obtain rfl : u = Value.ref d := r1
  obtain ⟨o, es, ep, lk, hx, hd, hp, hs⟩ := hk
  have ho := I1.kIn d o lk
  have hT : s1.TypeIs (.ref d) "dict" := ⟨o, ho, hx.1⟩
  refine ⟨"dict", "dict.items", F.plainAttrs_dict, F.slot_dict_items, F.type_dict_items, hT, fun a ea => ?_, ?_⟩
  · cases ea
    exact ⟨o, ho, hx.2.1⟩
  · refine method_meetsIn F.slot_dict_items F.entry_dict_items rfl (PySem.evalArgs_none ⟨rfl, hT, F.args_dict_items_1 _, _, meets_dict_items_raw d hs, ⟨⟨es, ep, o, ho, hx, hd⟩, ?_⟩⟩)
    have hv : (s1.heap.push { cls := .type "dict_items", data := .fields #[.ref d] }).IsItemsView s1.heap.objs.size d := ⟨_, Heap.get?_push_size _ rfl, rfl, rfl⟩
    refine ⟨.ref s1.heap.objs.size, _, I1.laid (t' := s1.toks) (a := s1.heap.objs.size) (o := .ext (IsView s1.heap.objs.size d)) (fun b ob q => Heap.get?_push_of_some _ q) (Nat.le_refl _) ⟨hv, ⟨_, Heap.get?_push_size _ rfl⟩, fun h1 h2 ⟨o1, g1, g2, g3⟩ k => ⟨o1, k _ g1, g2, g3⟩⟩, rfl, q _ (I1.hok.fresh (Nat.le_refl _))⟩
end

def Src (K : PySem.W.Frag) (H : Hp) (x : V) (J : It) : Prop :=
  (∃ a xs, x = .ref a ∧ SqL K H a xs ∧ J = Itl K a) ∨ (∃ a xs, x = .ref a ∧ SqT K H a xs ∧ J = Itt K a) ∨
    ∃ v d kvs, x = .ref v ∧ H v = some (.ext (IsView v d)) ∧ KItems K d kvs ∧ J = ItI kvs
theorem Src.begins {X : Cx} {pins : List (Addr × Obj)} {σ : St} {H : Hp} {s : Shared} {x : V} {u : Value} {J : It} (I : Inv X pins σ H s) (h : Src X.K H x J) (r : RelV x u) :
    ∃ (o : Obj) (G : Heap → Prop), Begins u o G ∧ G s.heap ∧ ∀ it, ∃ tn, Dr X.prog X.w X.K J it tn ∧ ∀ h, h.get? it = some o → tn 0 h := by
  rcases h with ⟨a, xs, rfl, hq, rfl⟩ | ⟨a, xs, rfl, hq, rfl⟩ | ⟨v, d, kvs, rfl, hv, hk, rfl⟩
  · obtain rfl : u = Value.ref a := r
    obtain ⟨its, _, p, _⟩ := I.list hq
    exact ⟨_, _, begins_list a its.toArray, p.isList, fun it => ⟨_, dr_list a it, fun h e => ⟨_, e, rfl, rfl⟩⟩⟩
  · obtain rfl : u = Value.ref a := r
    obtain ⟨its, _, p, _⟩ := I.tuple hq
    exact ⟨_, _, begins_tuple a its.toArray, p, fun it => ⟨_, dr_tup a it, fun h e => ⟨_, e, rfl, rfl⟩⟩⟩
  · obtain rfl : u = Value.ref v := r
    obtain ⟨o, es, ep, lk, hx, hd, hp, hs⟩ := hk
    refine ⟨{ cls := .type "dict_itemiterator", data := .fields #[.none, .bool false, .ref d, .int 0 0, .int es.size 0, .int ep 0, .none, .none] }, fun h => h.IsItemsView v d ∧ h.DictRaw d es ep, ⟨fun prog w A E s Q g h => ?_, fun h h' g k => ?_, rfl⟩, ?_, fun it => ⟨_, dr_items it lk hx hd hp, fun h e => ⟨_, _, _, _, .inl rfl, e⟩⟩⟩
    · exact wpAny_pyIter_items_raw g.1 g.2 h
    · obtain ⟨⟨o1, g1, g2, g3⟩, o2, q1, q2⟩ := g
      exact ⟨⟨o1, k _ _ g1, g2, g3⟩, o2, k _ _ q1, q2⟩
    · exact ⟨(I.hok v _ hv).1, o, I.kIn d o lk, hx, hd⟩

/-! ### the zip's making -/
def strictKw (b : Bool) : List (Str × Value) := if b = true then [(Str.ofString "strict", .bool true)] else []
section
variable {prog : Program} {w : World} {A : Around} {E : Value → Shared → Prop} {s : Shared}
theorem tc_strict (a c : Value) : checkTypeCall "zip" ⟨[a, c], [(Str.ofString "strict", .bool true)]⟩ = pure () := by kernel_rfl
theorem nc_strict (a c : Value) : checkBuiltinCall "zip.__new__" ⟨[.type "zip", a, c], [(Str.ofString "strict", .bool true)]⟩ = pure () := by kernel_rfl
theorem ac_strict (o a c : Value) : argsOk "object.__init__" ⟨[o, a, c], [(Str.ofString "strict", .bool true)]⟩ := by unfold argsOk; kernel_rfl
abbrev hT2 (h : Heap) (o1 o2 : Obj) : Heap := ((h.push o1).push o2).push { cls := .type "tuple", data := .seq #[.ref h.objs.size, .ref (h.push o1).objs.size] }
abbrev hO2 (h : Heap) (o1 o2 : Obj) : Heap := (hT2 h o1 o2).push { cls := .type "tuple", data := .seq #[.none, .none] }
abbrev hZ2 (h : Heap) (o1 o2 : Obj) : Heap := (hO2 h o1 o2).push { cls := .type "zip", data := .fields #[.none, .bool false, .bool true, .ref ((h.push o1).push o2).objs.size, .ref (hT2 h o1 o2).objs.size] }
theorem new_strict {v1 v2 : Value} {o1 o2 : Obj} {G1 G2 : Heap → Prop} (B1 : Begins v1 o1 G1) (B2 : Begins v2 o2 G2) :
    Meets (Builtin.«zip.__new__» ⟨[.type "zip", v1, v2], [(Str.ofString "strict", .bool true)]⟩) (fun _ R s => (G1 s.heap ∧ G2 s.heap) ∧
      R (.ok (.ret (.ref (hO2 s.heap o1 o2).objs.size))) { s with heap := hZ2 s.heap o1 o2 }) :=
  .of_wp fun prog w A R s h => by
    obtain ⟨hp, g, d, tk, os⟩ := s
    obtain ⟨⟨h1, h2⟩, h⟩ := h
    have hsub := sub_zip
    have e1 : (Str.ofString "strict" != ("strict" : Str)) = false := by decide +kernel
    have q1 : ∀ {A' : Around} {E : Value → Shared → Prop} {Q : Value → Shared → Prop}, Q (.ref hp.objs.size) ⟨hp.push o1, g, d, tk, os⟩ → wpAny (model prog w) A' (pyIter v1) Q E ⟨hp, g, d, tk, os⟩ :=
      fun q => B1.iter prog w _ _ ⟨hp, g, d, tk, os⟩ _ h1 q
    have q2 : ∀ {A' : Around} {E : Value → Shared → Prop} {Q : Value → Shared → Prop}, Q (.ref (hp.push o1).objs.size) ⟨(hp.push o1).push o2, g, d, tk, os⟩ → wpAny (model prog w) A' (pyIter v2) Q E ⟨hp.push o1, g, d, tk, os⟩ :=
      fun q => B2.iter prog w _ _ ⟨hp.push o1, g, d, tk, os⟩ _ (B2.keeps _ _ h2 fun b o' e => Heap.get?_push_of_some _ e) q
    wp_walk using q1, q2
    exact ⟨_, rfl, h⟩
end
end L2.RL
end
section
set_option Elab.async false
set_option linter.all false
set_option maxRecDepth 100000
set_option maxHeartbeats 4000000
namespace L2.RL
open PySem PySem.Spec PyProof.Rows
open PySem.Sem (wp)
section
variable {prog : Program} {w : World} {A : Around} {E : Value → Shared → Prop} {s : Shared}
theorem begins_strict {v1 v2 : Value} {o1 o2 : Obj} {G1 G2 : Heap → Prop} {Q : Value → Shared → Prop} (B1 : Begins v1 o1 G1) (B2 : Begins v2 o2 G2) (h1 : G1 s.heap) (h2 : G2 s.heap)
    (h : ∀ h', ZipAt h' true (s.heap.objs.size + 4) (s.heap.objs.size + 2) (s.heap.objs.size + 3) .none → IsPair h' (s.heap.objs.size + 2) (.ref s.heap.objs.size) (.ref (s.heap.objs.size + 1)) →
      IsPair h' (s.heap.objs.size + 3) .none .none → h'.get? s.heap.objs.size = some o1 → h'.get? (s.heap.objs.size + 1) = some o2 →
      (∀ c o, s.heap.get? c = some o → h'.get? c = some o) → Q (.ref (s.heap.objs.size + 4)) { s with heap := h' }) :
    wpAny (model prog w) A (call (.type "zip") [v1, v2] [(Str.ofString "strict", .bool true)]) Q E s := by
  refine callType_newKw F.called_zip (by decide) (tc_strict _ _) (nc_strict _ _) (fun o => ac_strict o _ _) F.entry_zip_new (new_strict B1 B2) ⟨⟨h1, h2⟩, ?_⟩
  have z1 : (s.heap.push o1).objs.size = s.heap.objs.size + 1 := by rw [Heap.size_push]
  have z2 : ((s.heap.push o1).push o2).objs.size = s.heap.objs.size + 2 := by rw [Heap.size_push, z1]
  have zT : (hT2 s.heap o1 o2).objs.size = s.heap.objs.size + 3 := by rw [Heap.size_push, z2]
  have zO : (hO2 s.heap o1 o2).objs.size = s.heap.objs.size + 4 := by rw [Heap.size_push, zT]
  have k1 : ∀ {x y : Obj} {h : Heap} {c : Addr}, h.get? c = some x → (h.push y).get? c = some x := fun e => Heap.get?_push_of_some _ e
  have gZ : (hZ2 s.heap o1 o2).get? (hO2 s.heap o1 o2).objs.size = some { cls := .type "zip", data := .fields #[.none, .bool false, .bool true, .ref ((s.heap.push o1).push o2).objs.size, .ref (hT2 s.heap o1 o2).objs.size] } := Heap.get?_push_size _ rfl
  have gO : (hZ2 s.heap o1 o2).get? (hT2 s.heap o1 o2).objs.size = some { cls := .type "tuple", data := .seq #[.none, .none] } := k1 (Heap.get?_push_size _ rfl)
  have gT : (hZ2 s.heap o1 o2).get? ((s.heap.push o1).push o2).objs.size = some { cls := .type "tuple", data := .seq #[.ref s.heap.objs.size, .ref (s.heap.push o1).objs.size] } := k1 (k1 (Heap.get?_push_size _ rfl))
  have g1 : (hZ2 s.heap o1 o2).get? s.heap.objs.size = some o1 := k1 (k1 (k1 (k1 (Heap.get?_push_size _ B1.free))))
  have g2 : (hZ2 s.heap o1 o2).get? (s.heap.push o1).objs.size = some o2 := k1 (k1 (k1 (Heap.get?_push_size _ B2.free)))
  rw [zO, zT, z2] at gZ
  rw [zT] at gO
  rw [z2, z1] at gT
  rw [z1] at g2
  show _ ∧ _
  rw [zO]
  exact ⟨⟨_, gZ, rfl⟩, h _ gZ gT gO g1 g2 fun c o e => k1 (k1 (k1 (k1 (k1 e))))⟩
theorem begins_plain {v1 v2 : Value} {o1 o2 : Obj} {G1 G2 : Heap → Prop} {Q : Value → Shared → Prop} (B1 : Begins v1 o1 G1) (B2 : Begins v2 o2 G2) (h1 : G1 s.heap) (h2 : G2 s.heap)
    (h : ∀ h', ZipAt h' false (s.heap.objs.size + 4) (s.heap.objs.size + 2) (s.heap.objs.size + 3) .none → IsPair h' (s.heap.objs.size + 2) (.ref s.heap.objs.size) (.ref (s.heap.objs.size + 1)) →
      IsPair h' (s.heap.objs.size + 3) .none .none → h'.get? s.heap.objs.size = some o1 → h'.get? (s.heap.objs.size + 1) = some o2 →
      (∀ c o, s.heap.get? c = some o → h'.get? c = some o) → Q (.ref (s.heap.objs.size + 4)) { s with heap := h' }) :
    wpAny (model prog w) A (call (.type "zip") [v1, v2]) Q E s := zip_begins2 B1 B2 h1 h2 fun h' a b c d e _ f => h h' a b c d e f
end
theorem callWith_typeKw {M : Model} {A : Around} {E : Value → Shared → Prop} {s : Shared} {pos : Pos} {T : String} {first : List Value} {args : List (Bool × Sem Value)} {kws : List (Option Str × Sem Value)} {Q : Value → Shared → Prop}
    (hp : (args.any (·.1) || kws.any (·.1.isNone)) = false) (h : wpAny M A (evalArgs (.type T) true args kws) (fun a s₁ => wpAny M A (call (.type T) (first ++ a.pos) a.kw) Q E s₁) E s) :
    wpAny M A (callWith pos (.type T) first args kws) Q E s := by
  unfold callWith
  refine wpAny_bind (wpAny_holding (wpAny_mono h (fun a s₁ h₁ => wpAny_bind (wpAny_standAt ?_)) fun _ _ x => x))
  rw [hp]
  refine wpAny_bind (wpAny_pure ?_)
  exact wpAny_bind (wpAny_mono h₁ (fun r s₂ hr => wpAny_bind (wpAny_holding (wpAny_point (wpAny_pure hr)))) fun _ _ x => x)

def iZip2 (K : PySem.W.Frag) (b : Bool) (ta : TA) : TI := fun σ H R => ta σ H fun vs H1 => ∃ x y J1 J2, vs = [x, y] ∧ Src K H1 x J1 ∧ Src K H1 y J2 ∧ R (It2 b J1 J2) H1
theorem five_nat (n : Nat) : n + 2 ≠ n + 4 ∧ n + 3 ≠ n + 4 ∧ n ≠ n + 4 ∧ n + 1 ≠ n + 4 ∧ n + 2 ≠ n + 3 ∧ n + 2 ≠ n ∧ n + 2 ≠ n + 1 ∧ n + 3 ≠ n ∧ n + 3 ≠ n + 1 ∧ n ≠ n + 1 := by omega
theorem five_new (n : Addr) : Five (n + 4) (n + 2) (n + 3) n (n + 1) :=
  let ⟨a, b, c, d, e, f, g, h, i, j⟩ := five_nat n
  ⟨a, b, c, d, e, f, g, h, i, j⟩
section
variable {X : Cx}
theorem zip_made {tg : Expr} {elts : List Expr} {kk : Nat} {tpos : Pos} {b : Bool} {pins : List (Addr × Obj)} {σ : St} {H : Hp} {s : Shared} {R : It → Hp → Prop} {x y : V} {u1 u2 : Value} {J1 J2 : It} (I : Inv X pins σ H s) (r1 : RelV x u1) (r2 : RelV y u2)
    (s1 : Src X.K H x J1) (s2 : Src X.K H y J2) (q : R (It2 b J1 J2) H) :
    wpAny (model X.prog X.w) X.A (call (.type "zip") [u1, u2] (strictKw b)) (fun v s1 => wpAny (model X.prog X.w) X.A (pyIter v) (PIE X pins σ (.Tuple elts kk tpos) R) X.xe s1) X.xe s := by
  obtain ⟨o1, G1, B1, g1, D1⟩ := s1.begins I r1
  obtain ⟨o2, G2, B2, g2, D2⟩ := s2.begins I r2
  have fin : ∀ h', ZipAt h' b (s.heap.objs.size + 4) (s.heap.objs.size + 2) (s.heap.objs.size + 3) .none → IsPair h' (s.heap.objs.size + 2) (.ref s.heap.objs.size) (.ref (s.heap.objs.size + 1)) →
      IsPair h' (s.heap.objs.size + 3) .none .none → h'.get? s.heap.objs.size = some o1 → h'.get? (s.heap.objs.size + 1) = some o2 → (∀ c o, s.heap.get? c = some o → h'.get? c = some o) →
      wpAny (model X.prog X.w) X.A (pyIter (.ref (s.heap.objs.size + 4))) (PIE X pins σ (.Tuple elts kk tpos) R) X.xe { s with heap := h' } := fun h' hz hT hO e1 e2 hk => by
    obtain ⟨tn1, d1, t1⟩ := D1 s.heap.objs.size
    obtain ⟨tn2, d2, t2⟩ := D2 (s.heap.objs.size + 1)
    have I2 : Inv X pins σ H { s with heap := h' } := I.kept (t' := s.toks) hk
    refine iterZ hz ⟨s.heap.objs.size + 4, [s.heap.objs.size + 4, s.heap.objs.size + 2, s.heap.objs.size + 3, s.heap.objs.size, s.heap.objs.size + 1], _, _, H, rfl, I2, turn_zip2 (five_new _) d1 d2, ⟨hz, hT, ⟨_, _, hO⟩, t1 _ e1, t2 _ e2⟩, fun c hc => ?_, q⟩
    have e' : c = s.heap.objs.size + 4 ∨ c = s.heap.objs.size + 2 ∨ c = s.heap.objs.size + 3 ∨ c = s.heap.objs.size ∨ c = s.heap.objs.size + 1 := by simpa using hc
    have hle : s.heap.objs.size ≤ c := by
      have h1 : (s.heap.objs.size : Nat) ≤ (c : Nat) := by rcases e' with z | z | z | z | z <;> (rw [z]; omega)
      exact h1
    exact I.fpOk hle (I.hok.fresh hle)
  cases b with
  | true => exact begins_strict B1 B2 g1 g2 fin
  | false => exact begins_plain B1 B2 g1 g2 fin
theorem pi_zip2 {e e2 : Expr} {ta : TA} {p pos tpos : Pos} {elts : List Expr} {kk : Nat} (hg : Gl X "zip") (hm : X.mg "zip" = none) (ha : PA X [e, e2] ta)
    (hs : starEach [e, e2] X.env = (false, eval e X.env) :: starEach [e2] X.env := by rfl) (hpl : (backTo pos (starEach [e2] X.env)).any (·.1) = false := by rfl) :
    PI X (.Tuple elts kk tpos) (.Call (.Name "zip" p) [e, e2] [] pos) (iZip2 X.K false ta) := by
  refine ⟨fun pins s σ H R I h => ?_⟩
  refine Call_ (ld_blt I hg hm PyProof.Rows.boot_zip (PyProof.Rows.callWith_type1 (thn (ha.run pos pins s σ H _ I h) fun us s1 ⟨vs, H1, I1, r1, q1⟩ => ?_) hs hpl))
  obtain ⟨x, y, J1, J2, ex, h1, h2, q⟩ := q1
  subst ex
  obtain ⟨u1, u2, rfl, ra, rb⟩ := vals2 r1
  exact zip_made (tg := e) (b := false) I1 ra rb h1 h2 q
theorem pi_zip2S {e e2 : Expr} {ta : TA} {p pos tpos kp cp : Pos} {elts : List Expr} {kk j : Nat} (hg : Gl X "zip") (hm : X.mg "zip" = none) (ha : PA X [e, e2] ta)
    (hs : starEach [e, e2] X.env = (false, eval e X.env) :: starEach [e2] X.env := by rfl)
    (hall : (backToKw pos (keywordEach [⟨some "strict", .Constant (.bool true) j cp, kp⟩] X.env)).all (·.1.isSome) = true := by rfl)
    (hks : (backToKw pos (keywordEach [⟨some "strict", .Constant (.bool true) j cp, kp⟩] X.env)).filterMap (·.1) = (["strict"] : List Str) := by rfl)
    (hpl : ((backTo pos (starEach [e, e2] X.env)).any (·.1) || (backToKw pos (keywordEach [⟨some "strict", .Constant (.bool true) j cp, kp⟩] X.env)).any (·.1.isNone)) = false := by rfl) :
    PI X (.Tuple elts kk tpos) (.Call (.Name "zip" p) [e, e2] [⟨some "strict", .Constant (.bool true) j cp, kp⟩] pos) (iZip2 X.K true ta) := by
  refine ⟨fun pins s σ H R I h => ?_⟩
  refine wpAny_Call_Name_kw (ld_blt I hg hm PyProof.Rows.boot_zip (callWith_typeKw hpl (evalArgs_kw2 hall (thn (ha.run pos pins s σ H _ I h) fun us s1 ⟨vs, H1, I1, r1, q1⟩ => ?_) hs)))
  obtain ⟨x, y, J1, J2, ex, h1, h2, q⟩ := q1
  subst ex
  obtain ⟨u1, u2, rfl, ra, rb⟩ := vals2 r1
  have pk : PK X [⟨some "strict", .Constant (.bool true) j cp, kp⟩] (tCons (tC (.bl true)) tNil) := pk_cons pe_bl pk_nil
  refine thn (pk.run pos pins s1 σ H1 (fun zs H2 => zs = [.bl true] ∧ H2 = H1) I1 ⟨rfl, rfl⟩) fun ws s2 ⟨zs, H2, I2, rz, ez, eh⟩ => ?_
  subst ez eh
  obtain ⟨w1, rfl, rw1⟩ := vals1 rz
  obtain rfl : w1 = Value.bool true := rw1
  rw [hks]
  exact zip_made (tg := e) (b := true) I2 ra rb h1 h2 q
end
end L2.RL
end
section
set_option Elab.async false
set_option linter.all false
set_option maxRecDepth 100000
set_option maxHeartbeats 4000000
/-! what stands in the module by names; readings, one rule a piece. -/
namespace L2.RL
open PySem PySem.Spec PyProof.Rows

/-! ### facts of the text -/
structure Tx (fa : List He.Fa) (fn : List He.DefD) (ex : List (PySem.W.Frag → Bool)) (K : PySem.W.Frag) (mg : Str → Option Value) : Prop where
  says : He.SaysD fa fn K
  more : (ex.all fun f => f K) = true
  env : ∃ h : Heap, K.In h ∧ h.Ns mainGlobals mg
section
variable {fa : List He.Fa} {fn : List He.DefD} {exs : List (PySem.W.Frag → Bool)} {K : PySem.W.Frag} {mg : Str → Option Value}
theorem Tx.glo (T : Tx fa fn exs K mg) (i : Nat) {x : Str} (h : fa[i]? = some (.glo x) := by rfl) : mg x = some (.ref (He.ga K x)) := let ⟨_, X, G⟩ := T.env; He.glo_ok X G (T.says.fact i h)
theorem Tx.free (T : Tx fa fn exs K mg) (i : Nat) {x : Str} (h : fa[i]? = some (.free x) := by rfl) : mg x = none := let ⟨_, X, G⟩ := T.env; He.free_ok X G (T.says.fact i h)
theorem Tx.int (T : Tx fa fn exs K mg) (i : Nat) {x : Str} {n : Int} (h : fa[i]? = some (.int x n) := by rfl) : ∃ t, mg x = some (.int n t) := let ⟨_, X, G⟩ := T.env; He.int_ok X G (T.says.fact i h)
theorem Tx.str (T : Tx fa fn exs K mg) (i : Nat) {x z : Str} (h : fa[i]? = some (.str x z) := by rfl) : ∃ t, mg x = some (.str z t) := let ⟨_, X, G⟩ := T.env; He.str_ok X G (T.says.fact i h)
theorem Tx.cls (T : Tx fa fn exs K mg) (i : Nat) {x : Str} (h : fa[i]? = some (.cls x) := by rfl) : Cls K (He.ga K x) := He.cls_ok (T.says.fact i h)
theorem Tx.noat (T : Tx fa fn exs K mg) (i : Nat) {x f : Str} (h : fa[i]? = some (.noat x f) := by rfl) : NoAttr K (He.ga K x) f := He.noat_ok (T.says.fact i h)
theorem Tx.meth (T : Tx fa fn exs K mg) (i : Nat) {x m : Str} (h : fa[i]? = some (.meth x m) := by rfl) : Meth K (He.ga K x) m (He.ma K (He.ga K x) m) := He.meth_ok (T.says.fact i h)
theorem Tx.mkr (T : Tx fa fn exs K mg) (i : Nat) {x : Str} (h : fa[i]? = some (.mkr x) := by rfl) : Mk K (He.ga K x) (He.ma K (He.ga K x) "__init__") := He.mkr_ok (T.says.fact i h)
theorem Tx.keep (T : Tx fa fn exs K mg) (i : Nat) {x : Str} (h : fa[i]? = some (.keep x) := by rfl) : PySem.W.keepIn K (.ref (He.ga K x)) = true := He.keep_ok (T.says.fact i h)
theorem Tx.say (T : Tx fa fn exs K mg) (i : Nat) {f : PySem.W.Frag → Bool} (h : exs[i]? = some f := by rfl) : f K = true := List.all_eq_true.mp T.more f (List.mem_of_getElem? h)
end

structure Ld (P : Program) (w : World) (K : PySem.W.Frag) (mg : Str → Option Value) (base : Heap) (CX : CXT) (k : Nat) (x : Str) (ps : List Str) (dvs : List V) (sp : Sp) : Prop where
  ex : ∃ fd ds, FnOk P w K mg base CX k (He.ga K x) fd ps sp ∧ Binds K fd ps ds ∧ Vals dvs ds
  g : mg x = some (.ref (He.ga K x))
  kp : PySem.W.keepIn K (.ref (He.ga K x)) = true
structure Lm (P : Program) (w : World) (K : PySem.W.Frag) (mg : Str → Option Value) (base : Heap) (CX : CXT) (k : Nat) (C : Str) (m : Str) (ps : List Str) (dvs : List V) (sp : Sp) : Prop where
  ex : ∃ fd ds, FnOk P w K mg base CX k (He.ma K (He.ga K C) m) fd ps sp ∧ Binds K fd ps ds ∧ Vals dvs ds

/-! ### readings, one rule a piece -/
section
variable {K : PySem.W.Frag} {σ : St} {H : Hp} {Q : VK} {D : Ends}
theorem w_seq {t u : TS} (h : t { D with nx := u D } σ H) : tSeq t u D σ H := h
theorem w_next (h : D.nx σ H) : tNext D σ H := h
theorem w_drop {te : TE} (h : te σ H fun _ H1 => D.nx σ H1) : tDrop te D σ H := h
theorem w_ret {te : TE} (h : te σ H D.rt) : tRet te D σ H := h
theorem w_retN (h : D.rt .non H) : tRetN D σ H := h
theorem w_ifS {c : TT} {t u : TS} (h : c σ H fun b H1 => if b = true then t D σ H1 else u D σ H1) : tIfS c t u D σ H := h
theorem w_asg {te : TE} {g : TG} (h : te σ H fun x H1 => g x σ H1 D.nx) : tAsg te g D σ H := h
theorem w_par {i j : Nat} {ta : TA} (h : ta σ H fun vs H1 => ∃ v w, vs = [v, w] ∧ D.nx ((σ.set i (some v)).set j (some w)) H1) : tPar i j ta D σ H := h
theorem w_par2 {i j : Nat} {v w : V} (h : D.nx ((σ.set i (some v)).set j (some w)) H) : ∃ v' w', [v, w] = [v', w'] ∧ D.nx ((σ.set i (some v')).set j (some w')) H := ⟨v, w, rfl, h⟩
theorem w_aug {i : Nat} {te : TE} {ti : TIp} {x : V} (e : σ[i]? = some (some x)) (h : te σ H fun y H1 => ti x y H1 fun z H2 => D.nx (σ.set i (some z)) H2) : tAug i te ti D σ H := ⟨x, e, h⟩
theorem w_ipI {f : Int → Int → Int} {i j : Int} (h : Q (.int (f i j)) H) : ipI f (.int i) (.int j) H Q := ⟨i, j, rfl, rfl, h⟩
theorem w_nx {f : St → Hp → Prop} {r : VK} {b c : St → Hp → Prop} (h : f σ H) : Ends.nx ⟨f, r, b, c⟩ σ H := h
theorem w_rt {f : St → Hp → Prop} {r : VK} {b c : St → Hp → Prop} {v : V} (h : r v H) : Ends.rt ⟨f, r, b, c⟩ v H := h
theorem w_nxD {D : Ends} {f : St → Hp → Prop} {r : VK} {b c : St → Hp → Prop} (e : D = ⟨f, r, b, c⟩) (h : f σ H) : Ends.nx D σ H := by rw [e]; exact h
theorem w_rtD {D : Ends} {f : St → Hp → Prop} {r : VK} {b c : St → Hp → Prop} {v : V} (e : D = ⟨f, r, b, c⟩) (h : r v H) : Ends.rt D v H := by rw [e]; exact h
theorem w_bkD {D : Ends} {f : St → Hp → Prop} {r : VK} {b c : St → Hp → Prop} (e : D = ⟨f, r, b, c⟩) (h : b σ H) : Ends.bk D σ H := by rw [e]; exact h
theorem w_ctD {D : Ends} {f : St → Hp → Prop} {r : VK} {b c : St → Hp → Prop} (e : D = ⟨f, r, b, c⟩) (h : c σ H) : Ends.ct D σ H := by rw [e]; exact h
theorem w_bk {f : St → Hp → Prop} {r : VK} {b c : St → Hp → Prop} (h : b σ H) : Ends.bk ⟨f, r, b, c⟩ σ H := h
theorem w_ct {f : St → Hp → Prop} {r : VK} {b c : St → Hp → Prop} (h : c σ H) : Ends.ct ⟨f, r, b, c⟩ σ H := h
theorem w_break (h : D.bk σ H) : tBreak D σ H := h
theorem w_cont (h : D.ct σ H) : tCont D σ H := h
-- targets
theorem w_gName {i : Nat} {v : V} {R : St → Hp → Prop} (h : R (σ.set i (some v)) H) : gName i v σ H R := h
theorem w_gTup {n : Nat} {t : TGs} {a : Addr} {xs : List V} {R : St → Hp → Prop} (hs : SqT K H a xs) (hn : xs.length = n) (h : t xs σ H R) : gTup K n t (.ref a) σ H R := ⟨a, xs, rfl, hs, hn, h⟩
theorem w_gCons {t : TG} {u : TGs} {v : V} {vs : List V} {R : St → Hp → Prop} (h : t v σ H fun σ' H' => u vs σ' H' R) : gCons t u (v :: vs) σ H R := ⟨v, vs, rfl, h⟩
theorem w_gNil {R : St → Hp → Prop} (h : R σ H) : gNil [] σ H R := ⟨rfl, h⟩
theorem w_gSub {to ti : TE} {t : TSet} {v : V} {R : St → Hp → Prop} (h : to σ H fun o H1 => ti σ H1 fun i H2 => t o i v H2 fun H3 => R σ H3) : gSub to ti t v σ H R := h
theorem w_setL {p : Addr} {xs : List V} {i : Int} {j : Nat} {v : V} {R : Hp → Prop} (h : H p = some (.lst xs)) (hj : ixN xs.length i = some j) (k : R (upd H p (.lst (xs.set j v)))) : rSetL (.ref p) (.int i) v H R := ⟨p, xs, i, j, rfl, rfl, h, hj, k⟩
-- expressions
theorem w_var {i : Nat} {v : V} (e : σ[i]? = some (some v)) (h : Q v H) : tVar i σ H Q := ⟨v, e, h⟩
theorem w_c {v : V} (h : Q v H) : tC v σ H Q := h
theorem w_op {r : R2} {ta tb : TE} (h : ta σ H fun x H1 => tb σ H1 fun y H2 => r x y H2 Q) : tOp r ta tb σ H Q := h
theorem w_un {r : V → Hp → VK → Prop} {ta : TE} (h : ta σ H fun x H1 => r x H1 Q) : tUn r ta σ H Q := h
theorem w_I0 {g : Int → Int → V} {i j : Int} (h : Q (g i j) H) : rI0 g (.int i) (.int j) H Q := ⟨i, j, rfl, rfl, h⟩
theorem w_I {C : Int → Int → Prop} {g : Int → Int → V} {i j : Int} (hc : C i j) (h : Q (g i j) H) : rI C g (.int i) (.int j) H Q := ⟨i, j, rfl, rfl, hc, h⟩
theorem w_U {g : Int → V} {i : Int} (h : Q (g i) H) : rU g (.int i) H Q := ⟨i, rfl, h⟩
theorem dd_int {i j : Int} : decide (V.int i = V.int j) = decide (i = j) := by simp
theorem dd_str {i j : Str} : decide (V.str i = V.str j) = decide (i = j) := by simp
theorem dd_bl {i j : Bool} : decide (V.bl i = V.bl j) = decide (i = j) := by simp
theorem w_eqI {i j : Int} (h : Q (.bl (decide (i = j))) H) : rEq (.int i) (.int j) H Q := ⟨rfl, by rw [dd_int]; exact h⟩
theorem w_neI {i j : Int} (h : Q (.bl (!decide (i = j))) H) : rNe (.int i) (.int j) H Q := ⟨rfl, by rw [dd_int]; exact h⟩
theorem w_eqS {i j : Str} (h : Q (.bl (decide (i = j))) H) : rEq (.str i) (.str j) H Q := ⟨rfl, by rw [dd_str]; exact h⟩
theorem w_neS {i j : Str} (h : Q (.bl (!decide (i = j))) H) : rNe (.str i) (.str j) H Q := ⟨rfl, by rw [dd_str]; exact h⟩
theorem w_eqB {i j : Bool} (h : Q (.bl (decide (i = j))) H) : rEq (.bl i) (.bl j) H Q := ⟨rfl, by rw [dd_bl]; exact h⟩
theorem w_neB {i j : Bool} (h : Q (.bl (!decide (i = j))) H) : rNe (.bl i) (.bl j) H Q := ⟨rfl, by rw [dd_bl]; exact h⟩
theorem w_test {t : TE} {R : Bool → Hp → Prop} (h : t σ H fun x H' => ∃ k, x = .bl k ∧ R k H') : tTest t σ H R := h
theorem w_B {t : TE} {R : Bool → Hp → Prop} (h : t σ H fun x H' => ∃ k, x = .bl k ∧ R k H') : tB t σ H R := h
theorem w_bl {b : Bool} {R : Bool → Hp → Prop} (h : R b H) : ∃ k, V.bl b = .bl k ∧ R k H := ⟨b, rfl, h⟩
theorem w_and {t u : TT} {R : Bool → Hp → Prop} (h : t σ H fun c H1 => if c = true then u σ H1 R else R false H1) : tAnd t u σ H R := h
theorem w_or {t u : TT} {R : Bool → Hp → Prop} (h : t σ H fun c H1 => if c = true then R true H1 else u σ H1 R) : tOr t u σ H R := h
theorem w_not {t : TT} {R : Bool → Hp → Prop} (h : t σ H fun c H1 => R (!c) H1) : tNot t σ H R := h
theorem w_andV {ta tb : TE} (h : ta σ H fun x H1 => ∃ c, x = .bl c ∧ if c = true then tb σ H1 Q else Q (.bl false) H1) : tAndV ta tb σ H Q := h
theorem w_orV {ta tb : TE} (h : ta σ H fun x H1 => ∃ c, x = .bl c ∧ if c = true then Q (.bl true) H1 else tb σ H1 Q) : tOrV ta tb σ H Q := h
theorem w_notV {ta : TE} (h : ta σ H fun x H1 => ∃ c, x = .bl c ∧ Q (.bl (!c)) H1) : tNotV ta σ H Q := h
theorem w_bl1 {b : Bool} {A B : Bool → Prop} (h : if b = true then A b else B b) : ∃ c, V.bl b = .bl c ∧ if c = true then A c else B c := ⟨b, rfl, h⟩
theorem w_if {t : TT} {ta tb : TE} (h : t σ H fun c H1 => if c = true then ta σ H1 Q else tb σ H1 Q) : tIf t ta tb σ H Q := h
theorem w_chain {r r' : R2} {ta tb tc : TE} (h : ta σ H fun x H1 => tb σ H1 fun y H2 => r x y H2 fun z H3 => ∃ k, z = .bl k ∧ (if k = true then tc σ H3 fun w' H4 => r' y w' H4 Q else Q (.bl false) H3)) : tChain r r' ta tb tc σ H Q := h
theorem w_cons {ta : TE} {tr : TA} {R : List V → Hp → Prop} (h : ta σ H fun x H1 => tr σ H1 fun xs H2 => R (x :: xs) H2) : tCons ta tr σ H R := h
theorem w_nil {R : List V → Hp → Prop} (h : R [] H) : tNil σ H R := h
theorem same_upd {H : Hp} {p : Addr} {o : HO} (n : H p = none) : Same H (upd H p o) := fun b x e => by
  rw [upd_ne (ne_of_none e n)]
  exact e
def NewO (n : Nat) (o : HO) (H : Hp) (Q : VK) : Prop := n ≤ sizeLine ∧ ∀ p, H p = none → Q (.ref p) (upd H p o)
theorem w_tup {t : TA} (h : t σ H fun xs H1 => NewO xs.length (.tup xs) H1 Q) : tTup t σ H Q := h
theorem w_lst {t : TA} (h : t σ H fun xs H1 => NewO xs.length (.lst xs) H1 Q) : tLst t σ H Q := h
theorem w_newO {n : Nat} {o : HO} (hn : n ≤ 100000) (h : ∀ p H', H p = none → Same H H' → H' p = some o → Q (.ref p) H') : NewO n o H Q := ⟨Nat.le_trans hn (by decide), fun p e => h p _ e (same_upd e) upd_same⟩
theorem w_new {n : Nat} {A : Prop} (hn : n ≤ 100000) (h : A) : n ≤ sizeLine ∧ A := ⟨Nat.le_trans hn (by decide), h⟩
theorem w_mk {o : HO} {R : Addr → Hp → Prop} (h : ∀ p H', H p = none → Same H H' → H' p = some o → R p H') : ∀ p, H p = none → R p (upd H p o) := fun p n => h p _ n (fun b x e => by
  rw [upd_ne (ne_of_none e n)]
  exact e) upd_same
theorem w_ixL {p : Addr} {xs : List V} {i : Int} {v : V} (hs : SqL K H p xs) (e : atI xs i = some v) (h : Q v H) : rIxL K (.ref p) (.int i) H Q := ⟨p, xs, i, v, rfl, rfl, hs, e, h⟩
theorem w_ixT {p : Addr} {xs : List V} {i : Int} {v : V} (hs : SqT K H p xs) (e : atI xs i = some v) (h : Q v H) : rIxT K (.ref p) (.int i) H Q := ⟨p, xs, i, v, rfl, rfl, hs, e, h⟩
theorem w_call {sp : Sp} {dvs : List V} {E : XK} {t : TA} (h : t σ H fun vs H1 => sp (vs ++ dvs) H1 Q E) : tCall sp dvs E t σ H Q := h
theorem w_cb {r : List V → Hp → VK → Prop} {t : TA} (h : t σ H fun vs H1 => r vs H1 Q) : tCB r t σ H Q := h
theorem w_fld {ta : TE} {f : Str} (h : ta σ H fun x H1 => ∃ a C dx fs v, x = .ref a ∧ H1 a = some (.ins C dx fs) ∧ Cls K C ∧ NoAttr K C f ∧ fs.lookup f = some v ∧ Q v H1) : tFld K ta f σ H Q := h
theorem w_fld1 {a C dx : Addr} {fs : List (Str × V)} {f : Str} {v : V} {R : V → Prop} (e : H a = some (.ins C dx fs)) (c : Cls K C) (n : NoAttr K C f) (l : fs.lookup f = some v) (h : R v) :
    ∃ a' C' dx' fs' v', V.ref a = .ref a' ∧ H a' = some (.ins C' dx' fs') ∧ Cls K C' ∧ NoAttr K C' f ∧ fs'.lookup f = some v' ∧ R v' := ⟨a, C, dx, fs, v, rfl, e, c, n, l, h⟩
theorem w_meth {C : Addr} {m : Str} {sp : Sp} {dvs : List V} {E : XK} {ta : TE} {t : TA} (h : ta σ H fun x H1 => ∃ a dx fs, x = .ref a ∧ H1 a = some (.ins C dx fs) ∧ fs.lookup m = none ∧ t σ H1 fun vs H2 => sp (x :: (vs ++ dvs)) H2 Q E) : tMeth C m sp dvs E ta t σ H Q := h
theorem w_meth1 {C a dx : Addr} {m : Str} {fs : List (Str × V)} {A : Prop} (e : H a = some (.ins C dx fs)) (l : fs.lookup m = none) (h : A) : ∃ a' dx' fs', V.ref a = .ref a' ∧ H a' = some (.ins C dx' fs') ∧ fs'.lookup m = none ∧ A := ⟨a, dx, fs, rfl, e, l, h⟩
end
-- loops
theorem w_wh {σ : St} {H : Hp} {D : Ends} {c : TT} {tb : TS} (W : Nat → St → Hp → Prop) (m0 : Nat) (h0 : W m0 σ H)
    (h : ∀ m σ H, W m σ H → c σ H fun b H1 => if b = true then ∃ N : St → Hp → Prop, (∀ σ' H', N σ' H' → ∃ m', m' < m ∧ W m' σ' H') ∧ tb { D with nx := N, ct := N, bk := D.nx } σ H1 else D.nx σ H1) : tWhile c tb D σ H := ⟨W, ⟨m0, h0⟩, h⟩
theorem w_N {W : Nat → St → Hp → Prop} {m : Nat} {σ : St} {H : Hp} {r : VK} {b : St → Hp → Prop} {tb : TS} (h : tb ⟨fun σ' H' => ∃ m', m' < m ∧ W m' σ' H', r, b, fun σ' H' => ∃ m', m' < m ∧ W m' σ' H'⟩ σ H) :
    ∃ N : St → Hp → Prop, (∀ σ' H', N σ' H' → ∃ m', m' < m ∧ W m' σ' H') ∧ tb ⟨N, r, b, N⟩ σ H := ⟨_, fun _ _ z => z, h⟩
theorem w_for {σ : St} {H : Hp} {D : Ends} {wi : TI} {g : TG} {tb : TS} (h : wi σ H fun J H1 => ∃ W : Nat → Nat → St → Hp → Prop, (∃ m, W 0 m σ H1) ∧ ∀ i m σ H, W i m σ H →
  (J.stop i H ∧ D.nx σ H) ∨ (J.go i H ∧ ∃ N : St → Hp → Prop, (∀ σ' H', N σ' H' → ∃ m', m' < m ∧ W (i + 1) m' σ' H') ∧ ∀ x H', J.yld i H x H' → g x σ H' fun σ2 H2 => tb { D with nx := N, ct := N, bk := D.nx } σ2 H2)) : tFor wi g tb D σ H := h
theorem w_iList {K : PySem.W.Frag} {σ : St} {H : Hp} {tl : TE} {R : It → Hp → Prop} (h : tl σ H fun x H1 => ∃ a, x = .ref a ∧ (∃ xs, SqL K H1 a xs) ∧ R (Itl K a) H1) : iList K tl σ H R := h
theorem w_iTup {K : PySem.W.Frag} {σ : St} {H : Hp} {tl : TE} {R : It → Hp → Prop} (h : tl σ H fun x H1 => ∃ a, x = .ref a ∧ (∃ xs, SqT K H1 a xs) ∧ R (Itt K a) H1) : iTup K tl σ H R := h
theorem w_rng1 {σ : St} {H : Hp} {ta : TA} {R : It → Hp → Prop} (h : ta σ H fun vs H1 => ∃ j : Int, vs = [.int j] ∧ -(2 ^ 62) ≤ j ∧ j < 2 ^ 62 ∧ R (Itr 0 j.toNat) H1) : iRng1 ta σ H R := h
theorem w_rng1a {j : Int} {R : Int → Prop} (h1 : -(2 ^ 62) ≤ j) (h2 : j < 2 ^ 62) (h : R j) : ∃ j' : Int, [V.int j] = [V.int j'] ∧ -(2 ^ 62) ≤ j' ∧ j' < 2 ^ 62 ∧ R j' := ⟨j, rfl, h1, h2, h⟩
theorem w_rng2 {σ : St} {H : Hp} {ta : TA} {R : It → Hp → Prop} (h : ta σ H fun vs H1 => ∃ i j : Int, vs = [.int i, .int j] ∧ (-(2 ^ 62) ≤ i ∧ i < 2 ^ 62 ∧ -(2 ^ 62) ≤ j ∧ j < 2 ^ 62) ∧ R (Itr i (j - i).toNat) H1) : iRng2 ta σ H R := h
theorem w_rng2a {i j : Int} {R : Int → Int → Prop} (h1 : -(2 ^ 62) ≤ i ∧ i < 2 ^ 62 ∧ -(2 ^ 62) ≤ j ∧ j < 2 ^ 62) (h : R i j) : ∃ i' j' : Int, [V.int i, V.int j] = [V.int i', V.int j'] ∧ (-(2 ^ 62) ≤ i' ∧ i' < 2 ^ 62 ∧ -(2 ^ 62) ≤ j' ∧ j' < 2 ^ 62) ∧ R i' j' := ⟨i, j, rfl, h1, h⟩
theorem w_zip2 {K : PySem.W.Frag} {b : Bool} {σ : St} {H : Hp} {ta : TA} {R : It → Hp → Prop} (h : ta σ H fun vs H1 => ∃ x y J1 J2, vs = [x, y] ∧ Src K H1 x J1 ∧ Src K H1 y J2 ∧ R (It2 b J1 J2) H1) : iZip2 K b ta σ H R := h
theorem w_lc {wi : TI} {g : TG} {tt : TT} {te : TE} {vs : List Nat} {σ : St} {H : Hp} {Q : VK} (h : wi σ H fun J H1 => ∀ D, H1 D = none → ∃ W : Nat → Nat → Hp → Prop, (∃ m, W 0 m (upd H1 D (.lst []))) ∧ ∀ i m H, W i m H →
  (J.stop i H ∧ Q (.ref D) H) ∨ (J.go i H ∧ ∃ Nx : Hp → Prop, (∀ H', Nx H' → ∃ m', m' < m ∧ W (i + 1) m' H') ∧ ∀ x H', J.yld i H x H' → g x (wipe σ vs) H' fun σ2 H2 => wipe σ2 vs = wipe σ vs ∧ tt σ2 H2 fun b H3 =>
    if b = true then te σ2 H3 fun y H4 => ∃ acc, H4 D = some (.lst acc) ∧ acc.length < sizeLine ∧ Nx (upd H4 D (.lst (acc ++ [y]))) else Nx H3)) : tLc wi g tt te vs σ H Q := h
theorem w_overL {K : PySem.W.Frag} {H : Hp} {a : Addr} {xs : List V} {R : Addr → Prop} (hs : SqL K H a xs) (h : R a) : ∃ a', V.ref a = .ref a' ∧ (∃ xs, SqL K H a' xs) ∧ R a' := ⟨a, rfl, ⟨xs, hs⟩, h⟩
theorem w_overT {K : PySem.W.Frag} {H : Hp} {a : Addr} {xs : List V} {R : Addr → Prop} (hs : SqT K H a xs) (h : R a) : ∃ a', V.ref a = .ref a' ∧ (∃ xs, SqT K H a' xs) ∧ R a' := ⟨a, rfl, ⟨xs, hs⟩, h⟩
-- isinstance
theorem w_isi {K : PySem.W.Frag} {H : Hp} {x : V} {a b : String} {r : Bool} {R : Bool → Prop} (ty : TyX K H x (.type a)) (hk : kitB a b = some r) (h : R r) :
    ∃ (x' c : V) (t u : Value) (b' : Bool), [x, .ty b] = [x', c] ∧ ClsV c u ∧ TyX K H x' t ∧ PySem.W.kitOne K t u = some b' ∧ R b' := ⟨x, .ty b, .type a, .type b, r, rfl, .ty b, ty, kit_ty hk, h⟩
def kitB2 (a b c : String) : Option Bool := match kitB a b with
  | some true => some true
  | some false => kitB a c
  | none => none
theorem kitB2_ok {K : PySem.W.Frag} {a b c : String} {r : Bool} (h : kitB2 a b c = some r) : PySem.W.kitAny K (.type a) [.type b, .type c] = some r := by
  unfold kitB2 at h
  cases e : kitB a b with
  | none => rw [e] at h; cases h
  | some z =>
    rw [e] at h
    cases z with
    | true =>
      cases h
      exact kitAny_cons (kit_ty e) (fun z => nomatch z) fun _ => rfl
    | false => exact kitAny_cons (kit_ty e) (fun _ => kitAny_cons (kit_ty (r := r) h) (fun e => by rw [e]; exact kitAny_nil) id) (fun z => nomatch z)
theorem w_isi2 {K : PySem.W.Frag} {H : Hp} {x : V} {tp : Addr} {a b c : String} {r : Bool} {R : Bool → Prop} (hT : H tp = some (.tup [.ty b, .ty c])) (ty : TyX K H x (.type a)) (hk : kitB2 a b c = some r) (h : R r) :
    ∃ (x' : V) (tp' : Addr) (cs : List V) (t : Value) (us : List Value) (b' : Bool), [x, .ref tp] = [x', .ref tp'] ∧ H tp' = some (.tup cs) ∧ Paired ClsV cs us ∧ TyX K H x' t ∧ PySem.W.kitAny K t us = some b' ∧ R b' :=
  ⟨x, tp, _, .type a, [.type b, .type c], r, rfl, hT, .cons (.ty b) (.cons (.ty c) .nil), ty, kitB2_ok hk, h⟩
theorem w_isiT {K : PySem.W.Frag} {H : Hp} {Q : VK} {xs : List V} (h : ∃ (x : V) (tp : Addr) (cs : List V) (t : Value) (us : List Value) (b : Bool), xs = [x, .ref tp] ∧ H tp = some (.tup cs) ∧ Paired ClsV cs us ∧ TyX K H x t ∧ PySem.W.kitAny K t us = some b ∧ Q (.bl b) H) : rIsiT K xs H Q := h
theorem w_isiO {K : PySem.W.Frag} {H : Hp} {Q : VK} {xs : List V} (h : ∃ (x c : V) (t u : Value) (b : Bool), xs = [x, c] ∧ ClsV c u ∧ TyX K H x t ∧ PySem.W.kitOne K t u = some b ∧ Q (.bl b) H) : rIsi K xs H Q := h
theorem iteT' {b : Bool} {A B : Prop} (e : b = true) (h : A) : if b = true then A else B := by rw [if_pos e]; exact h
theorem iteF' {b : Bool} {A B : Prop} (e : b = false) (h : B) : if b = true then A else B := by rw [e, if_neg Bool.false_ne_true]; exact h
theorem w_rflA {x : V} {A : Prop} (h : A) : x = x ∧ A := ⟨rfl, h⟩
-- stores
theorem w_sFld {K : PySem.W.Frag} {σ : St} {H : Hp} {D : Ends} {ta tv : TE} {f : Str} (h : tv σ H fun y H1 => ta σ H1 fun x H2 => ∃ a C dx fs, x = .ref a ∧ H2 a = some (.ins C dx fs) ∧ Cls K C ∧ NoAttr K C f ∧ fs.length < 1000 ∧ D.nx σ (upd H2 a (.ins C dx (putF f y fs)))) : sFld K ta tv f D σ H := h
theorem w_sFld1 {K : PySem.W.Frag} {H0 : Hp} {a C dx : Addr} {f : Str} {y : V} {fs fs' : List (Str × V)} {R : Hp → Prop} (c : Cls K C) (n : NoAttr K C f) (hl : fs.length < 1000) (e : putF f y fs = fs') (h : R (upd H0 a (.ins C dx fs'))) :
    ∃ a' C' dx' fs1, V.ref a = .ref a' ∧ (upd H0 a (.ins C dx fs)) a' = some (.ins C' dx' fs1) ∧ Cls K C' ∧ NoAttr K C' f ∧ fs1.length < 1000 ∧ R (upd (upd H0 a (.ins C dx fs)) a' (.ins C' dx' (putF f y fs1))) :=
  ⟨a, C, dx, fs, rfl, upd_same, c, n, hl, by rw [upd_upd, e]; exact h⟩
-- texts
def rAddS2 : R2 := fun x y H Q => ∃ i j, x = .str i ∧ y = .str j ∧ i.length + j.length ≤ sizeLine ∧ Q (.str (i ++ j)) H
theorem op_addS {X : Cx} : OpR X (binaryOp .Add) rAddS2 := op_add_str
theorem w_addS {H : Hp} {Q : VK} {i j : Str} (hl : i.length + j.length ≤ sizeLine) (h : Q (.str (i ++ j)) H) : rAddS2 (.str i) (.str j) H Q := ⟨i, j, rfl, rfl, hl, h⟩
def rIntS : List V → Hp → VK → Prop := fun xs H Q => ∃ a n, xs = [.str a] ∧ PySem.intText? a = some n ∧ a.length ≤ 640 ∧ Q (.int n) H
theorem call_intS {X : Cx} : CallR X (.type "int") rIntS := call_int_str
theorem w_intS {H : Hp} {Q : VK} {a : Str} {n : Int} (hn : PySem.intText? a = some n) (hl : a.length ≤ 640) (h : Q (.int n) H) : rIntS [.str a] H Q := ⟨a, n, rfl, hn, hl, h⟩
-- calls of built-ins
theorem w_int1 {i : Int} {R : Int → Prop} {S : Bool → Prop} (h : R i) : (∃ i', [V.int i] = [V.int i'] ∧ R i') ∨ ∃ k, [V.int i] = [V.bl k] ∧ S k := .inl ⟨i, rfl, h⟩
theorem w_intb {k : Bool} {R : Int → Prop} {S : Bool → Prop} (h : S k) : (∃ i', [V.bl k] = [V.int i'] ∧ R i') ∨ ∃ k', [V.bl k] = [V.bl k'] ∧ S k' := .inr ⟨k, rfl, h⟩
theorem w_one {i : Int} {R : Int → Prop} (h : R i) : ∃ i', [V.int i] = [V.int i'] ∧ R i' := ⟨i, rfl, h⟩
theorem w_two {i j : Int} {R : Int → Int → Prop} (h : R i j) : ∃ i' j', [V.int i, V.int j] = [V.int i', V.int j'] ∧ R i' j' := ⟨i, j, rfl, h⟩
theorem w_lenL {K : PySem.W.Frag} {H : Hp} {p : Addr} {ys : List V} {R : List V → Prop} (hs : SqL K H p ys) (h : R ys) : ∃ p' ys', [V.ref p] = [V.ref p'] ∧ (SqL K H p' ys' ∨ SqT K H p' ys') ∧ R ys' := ⟨p, ys, rfl, .inl hs, h⟩
theorem w_lenT {K : PySem.W.Frag} {H : Hp} {p : Addr} {ys : List V} {R : List V → Prop} (hs : SqT K H p ys) (h : R ys) : ∃ p' ys', [V.ref p] = [V.ref p'] ∧ (SqL K H p' ys' ∨ SqT K H p' ys') ∧ R ys' := ⟨p, ys, rfl, .inr hs, h⟩
theorem w_I2 {C : Int → Int → Prop} {g : Int → Int → V} {i j : Int} {H : Hp} {Q : VK} (hc : C i j) (h : Q (g i j) H) : rI C g (.int i) (.int j) H Q := w_I hc h
theorem cm_of {i j : Int} (n : Nat) (hi : i.natAbs < 2 ^ n) (hj : j.natAbs < 2 ^ n) (h0 : 0 < n) (h1 : n ≤ 400000) : CMulW i j := wide_mul hi hj h0 h0 (by omega)
theorem cd_of {i j : Int} (n : Nat) (h : 0 < j) (hj : j.natAbs < 2 ^ n) (h0 : 0 < n) (h1 : n ≤ 9000) : CDivW i j := wide_div h hj h0 h1
theorem fmod_lo {a b : Int} (h : 0 < b) : 0 ≤ a.fmod b := Int.fmod_nonneg_of_pos a h
theorem fmod_hi {a b : Int} (h : 0 < b) : a.fmod b < b := Int.fmod_lt_of_pos a h
theorem ite_dec {p A B : Prop} [Decidable p] (h1 : p → A) (h2 : ¬ p → B) : if decide p = true then A else B := by
  by_cases h : p
  · rw [if_pos (decide_eq_true h)]; exact h1 h
  · rw [if_neg (by simpa using h)]; exact h2 h
theorem ite_ndec {p A B : Prop} [Decidable p] (h1 : ¬ p → A) (h2 : p → B) : if (!decide p) = true then A else B := by
  by_cases h : p
  · rw [if_neg (by simpa using h)]; exact h2 h
  · rw [if_pos (by simpa using h)]; exact h1 h
theorem ite_bool {b : Bool} {A B : Prop} (h1 : b = true → A) (h2 : b = false → B) : if b = true then A else B := by
  cases b with
  | true => rw [if_pos rfl]; exact h1 rfl
  | false => rw [if_neg Bool.false_ne_true]; exact h2 rfl
theorem Same.sqT {K : PySem.W.Frag} {H H' : Hp} {a : Addr} {xs : List V} (e : Same H H') (h : SqT K H a xs) : SqT K H' a xs := by
  rcases h with (h | ⟨o, h⟩) | h
  · exact .inl (.inl (e _ _ h))
  · exact .inl (.inr ⟨o, e _ _ h⟩)
  · exact .inr h
def But (a : Addr) (H H' : Hp) : Prop := ∀ b o, b ≠ a → H b = some o → H' b = some o
theorem But.of_same {a : Addr} {H H' : Hp} (s : Same H H') : But a H H' := fun b o _ e => s b o e
theorem But.trans {a : Addr} {H H1 H2 : Hp} (x : But a H H1) (y : But a H1 H2) : But a H H2 := fun b o n e => y b o n (x b o n e)
theorem But.refl (a : Addr) (H : Hp) : But a H H := fun _ _ _ e => e
theorem But.upd {a : Addr} {H : Hp} {o : HO} : But a H (upd H a o) := fun b x n e => by rw [upd_ne n]; exact e
end L2.RL
end
section
set_option Elab.async false
set_option linter.all false
set_option maxRecDepth 100000
set_option maxHeartbeats 4000000
/-! a few more operators: great powers, a text many times. -/
namespace L2.RL
open PySem PySem.Spec PyProof.Rows
def CPowW (i j : Int) : Prop := i.natAbs.log2 < 4000 ∧ 0 ≤ j ∧ j ≤ 1000
section
variable {X : Cx}
theorem op_powG : OpR X (binaryOp .Pow) (rI CPowW fun i j => .int (i ^ j.toNat)) := opI fun i j _ _ _ _ _ hc q => by
  obtain ⟨h1, h2, h3⟩ := hc
  refine pow_int h2 ?_ q
  have b : Builtin.Int.intBits i ≤ i.natAbs.log2 + 1 := by
    unfold Builtin.Int.intBits
    split <;> omega
  have b2 : (Builtin.Int.intBits i : Int) ≤ 4000 := by omega
  have b3 : (Builtin.Int.intBits i : Int) * j ≤ 4000 * 1000 := Int.mul_le_mul b2 h3 h2 (by omega)
  omega
def repS (z : Str) (n : Nat) : Str := ⟨(List.replicate n z.cps).foldl (· ++ ·) #[]⟩
def rRepS : R2 := fun x y H Q => ∃ z n, x = .str z ∧ y = .int n ∧ 0 ≤ n ∧ n ≤ 1000 ∧ 1 ≤ z.length ∧ z.length ≤ 1000 ∧ Q (.str (repS z n.toNat)) H
theorem op_repS : OpR X (binaryOp .Mult) rRepS := by
  intro pins s σ H x y u v Q I r1 r2 h
  obtain ⟨z, n, rfl, rfl, h0, h1, h3, h2, q⟩ := h
  obtain ⟨t, rfl⟩ := r1
  obtain ⟨t', rfl⟩ := r2
  refine PySem.P.mul_str (by rw [decide_eq_false (by omega), decide_eq_false (by omega)]; rfl) (fun c _ => ?_) (fun c _ => ?_) ?_
  · have a1 : (n : Int) * 1000 ≤ 2 ^ 63 - 1 := by omega
    have a2 : (1000 : Int) ≤ (2 ^ 63 - 1) / n := by
      rw [Int.le_ediv_iff_mul_le (by omega)]
      omega
    omega
  · have a1 : z.length * n.toNat ≤ 1000 * 1000 := Nat.mul_le_mul h2 (by omega)
    unfold Builtin.Str.tooLong
    rw [sizeLine_eq] <;> simp <;> omega
  · by_cases c : n < 1
    · rw [if_pos c]
      have e : n = 0 := by omega
      subst e
      exact ⟨by decide, ⟨.str (repS z 0), H, I.tok _, ⟨_, rfl⟩, q⟩⟩
    · rw [if_neg c]
      have e0 : (z.length == 0) = false := by
        rw [beq_eq_false_iff_ne]
        omega
      rw [e0, Bool.or_false]
      by_cases c1 : n = 1
      · subst c1
        have e : repS z 1 = z := by
          unfold repS
          simp [List.replicate]
        have q' : Q (.str z) H := by
          have q2 : Q (.str (repS z 1)) H := q
          rw [e] at q2
          exact q2
        exact ⟨.str z, H, I, ⟨_, rfl⟩, q'⟩
      · rw [if_neg (by simpa using c1)]
        have hl : (repS z n.toNat).cps.size = z.length * n.toNat := by
          unfold repS
          generalize n.toNat = k
          have key : ∀ (k : Nat) (acc : Array Nat), ((List.replicate k z.cps).foldl (· ++ ·) acc).size = acc.size + z.length * k := by
            intro k
            induction k with
            | zero => intro acc; simp
            | succ k ih =>
              intro acc
              rw [List.replicate_succ, List.foldl_cons, ih, Array.size_append, Nat.mul_succ]
              show acc.size + z.cps.size + _ = _
              have : z.length = z.cps.size := rfl
              omega
          rw [key]
          simp
        refine ⟨?_, ⟨.str (repS z n.toNat), H, I.tok _, ⟨_, rfl⟩, q⟩⟩
        have a1 : z.length * n.toNat ≤ 1000 * 1000 := Nat.mul_le_mul h2 (by omega)
        show (repS z n.toNat).cps.size ≤ sizeLine
        rw [hl, sizeLine_eq]
        omega
theorem w_repS {z : Str} {n : Int} {H : Hp} {Q : VK} (h0 : 0 ≤ n) (h1 : n ≤ 1000) (h2 : 1 ≤ z.length) (h3 : z.length ≤ 1000) (h : Q (.str (repS z n.toNat)) H) : rRepS (.str z) (.int n) H Q := ⟨z, n, rfl, rfl, h0, h1, h2, h3, h⟩
theorem ten_text {n : Nat} (h : n ≤ 8) : PySem.intText? (("1" : Str) ++ repS "0" n) = some ((10 : Int) ^ n) ∧ (("1" : Str) ++ repS "0" n).length ≤ 640 ∧ ("1" : Str).length + (repS "0" n).length ≤ sizeLine := by
  have c : n = 0 ∨ n = 1 ∨ n = 2 ∨ n = 3 ∨ n = 4 ∨ n = 5 ∨ n = 6 ∨ n = 7 ∨ n = 8 := by omega
  rcases c with rfl | rfl | rfl | rfl | rfl | rfl | rfl | rfl | rfl <;> exact ⟨by decide +kernel, by decide +kernel, by decide +kernel⟩
end
end L2.RL
end
section
set_option Elab.async false
set_option linter.all false
set_option maxRecDepth 100000
/-! a module's dict of tuples, told by a check of the heap -/
namespace L2.RL
open PySem PySem.Spec PyProof.Rows He
def tupAtB (K : PySem.W.Frag) (a : Addr) (vs : List V) : Bool := match K.lookup a with
  | some ⟨.type c, _, .seq its _, _⟩ => decide (c = "tuple") && (decide (its.size ≤ sizeLine) && relAll vs its.toList)
  | _ => false
theorem tupAtB_ok {K : PySem.W.Frag} {a : Addr} {vs : List V} (h : tupAtB K a vs = true) (H : Hp) : SqT K H a vs := by
  unfold tupAtB at h
  cases q : K.lookup a with
  | none =>
    rw [q] at h
    cases h
  | some o =>
    obtain ⟨oc, od, dt, osl⟩ := o
    rw [q] at h
    cases oc with
    | type c =>
      cases dt with
      | seq its n =>
        obtain ⟨h1, h2⟩ := ba (show (decide (c = "tuple") && (decide (its.size ≤ sizeLine) && relAll vs its.toList)) = true from h)
        obtain ⟨h3, h4⟩ := ba h2
        exact .inr ⟨_, its, n, q, congrArg Value.type (of_decide_eq_true h1), rfl, of_decide_eq_true h3, relAll_ok h4⟩
      | _ => cases h
    | _ => cases dt <;> cases h
def entsB (K : PySem.W.Frag) : List (V × List V) → List DictEntry → Bool
  | [], [] => true
  | p :: l, e :: m => relB p.1 e.key && ((match e.val with | .ref b => tupAtB K b p.2 | _ => false) && entsB K l m)
  | _, _ => false
def dicTB (K : PySem.W.Frag) (a : Addr) (l : List (V × List V)) : Bool := match K.lookup a with
  | some ⟨.type c, none, .dict es _, sl⟩ => decide (c = "dict") && (decide (sl.size = 0) && (!(a == sysModules) && entsB K l es.toList))
  | _ => false
def TupItems (K : PySem.W.Frag) (l : List (V × List V)) (kvs : List (V × V)) : Prop := Paired (fun (p : V × List V) (q : V × V) => q.1 = p.1 ∧ ∃ b, q.2 = .ref b ∧ ∀ H : Hp, SqT K H b p.2) l kvs
theorem entsB_ok {K : PySem.W.Frag} : ∀ {l : List (V × List V)} {m : List DictEntry}, entsB K l m = true →
    ∃ kvs, TupItems K l kvs ∧ Paired (fun (p : V × V) (e : DictEntry) => RelV p.1 e.key ∧ RelV p.2 e.val) kvs m
  | [], [], _ => ⟨[], .nil, .nil⟩
  | [], _ :: _, h => by cases h
  | _ :: _, [], h => by cases h
  | p :: l, e :: m, h => by
    obtain ⟨h1, h2⟩ := ba (show (relB p.1 e.key && ((match e.val with | .ref b => tupAtB K b p.2 | _ => false) && entsB K l m)) = true from h)
    obtain ⟨h3, h4⟩ := ba h2
    obtain ⟨kvs, q1, q2⟩ := entsB_ok h4
    obtain ⟨eh, ek, ev⟩ := e
    cases ev with
    | ref b => exact ⟨(p.1, .ref b) :: kvs, .cons ⟨rfl, b, rfl, fun H => tupAtB_ok h3 H⟩ q1, .cons ⟨relB_ok h1, rfl⟩ q2⟩
    | _ => cases h3
theorem dicTB_ok {K : PySem.W.Frag} {a : Addr} {l : List (V × List V)} (h : dicTB K a l = true) : ∃ kvs, TupItems K l kvs ∧ KItems K a kvs := by
  unfold dicTB at h
  cases q : K.lookup a with
  | none =>
    rw [q] at h
    cases h
  | some o =>
    obtain ⟨oc, od, dt, osl⟩ := o
    rw [q] at h
    cases oc with
    | type c =>
      cases od with
      | none =>
        cases dt with
        | dict es ep =>
          obtain ⟨h1, h2⟩ := ba (show (decide (c = "dict") && (decide (osl.size = 0) && (!(a == sysModules) && entsB K l es.toList))) = true from h)
          obtain ⟨h3, h4⟩ := ba h2
          obtain ⟨h5, h6⟩ := ba h4
          obtain ⟨kvs, q1, q2⟩ := entsB_ok h6
          refine ⟨kvs, q1, _, es, ep, q, ⟨congrArg Value.type (of_decide_eq_true h1), rfl, ?_⟩, rfl, q2, by simpa using h5⟩
          exact Array.eq_empty_of_size_eq_zero (of_decide_eq_true h3)
        | _ => cases h
      | some d => cases dt <;> cases h
    | _ => cases od <;> cases dt <;> cases h
def kdfAt (f : Str × Option Str) (x : Str) (K : PySem.W.Frag) : Addr := match K.lookup (fAd K f) with
  | some ⟨_, _, .func fd, _⟩ => (match fd.kwdefaults with
    | .ref D => (match PySem.W.nsIn K D x with
      | some (some (.ref b)) => b
      | _ => 0)
    | _ => 0)
  | _ => 0
end L2.RL
end
section
set_option Elab.async false
set_option linter.all false
set_option maxRecDepth 100000
/-! more readings: truth, membership, loops of a known length -/
namespace L2.RL
open PySem PySem.Spec PyProof.Rows
theorem ty_sqT {K : PySem.W.Frag} {H : Hp} {a : Addr} {xs : List V} (h : SqT K H a xs) : TyX K H (.ref a) (.type "tuple") := by
  rcases h with (h | ⟨o, h⟩) | ⟨o, its, n, h, c, _⟩
  · exact .base (.tup h)
  · exact .fTuple h
  · exact .kTuple h c
theorem ty_sqL {K : PySem.W.Frag} {H : Hp} {a : Addr} {xs : List V} (h : SqL K H a xs) : TyX K H (.ref a) (.type "list") := by
  rcases h with (h | ⟨o, h⟩) | ⟨o, its, n, h, c, _⟩
  · exact .base (.lst h)
  · exact .base (.frz h)
  · exact .kList h c
theorem Same.updN {H H' : Hp} {p : Addr} {o : HO} (n : H p = none) (s : Same H H') : Same H (upd H' p o) := fun b x e => by
  rw [upd_ne (ne_of_none e n)]
  exact s _ _ e
section
variable {K : PySem.W.Frag} {σ : St} {H : Hp} {Q : VK} {D : Ends}
theorem w_inT {x : V} {p : Addr} {xs : List V} {b : Bool} (hs : SqT K H p xs) (fx : flatV x = true) (fs : xs.all flatV = true) (h : Q (.bl (if b then !inV x xs else inV x xs)) H) : rIn K b x (.ref p) H Q := ⟨p, xs, rfl, .inr hs, fx, fs, h⟩
theorem w_inL {x : V} {p : Addr} {xs : List V} {b : Bool} (hs : SqL K H p xs) (fx : flatV x = true) (fs : xs.all flatV = true) (h : Q (.bl (if b then !inV x xs else inV x xs)) H) : rIn K b x (.ref p) H Q := ⟨p, xs, rfl, .inl hs, fx, fs, h⟩
theorem w_yes {R : Bool → Hp → Prop} (h : R true H) : tYes σ H R := h
theorem w_trI {i : Int} {R : Bool → Prop} (h : R (i != 0)) : ∃ k, TruV K (.int i) H k ∧ R k := ⟨_, rfl, h⟩
theorem w_trB {b : Bool} {R : Bool → Prop} (h : R b) : ∃ k, TruV K (.bl b) H k ∧ R k := ⟨_, rfl, h⟩
theorem w_trN {R : Bool → Prop} (h : R false) : ∃ k, TruV K .non H k ∧ R k := ⟨_, rfl, h⟩
theorem w_trT {p : Addr} {xs : List V} {R : Bool → Prop} (hs : SqT K H p xs) (h : R (!xs.isEmpty)) : ∃ k, TruV K (.ref p) H k ∧ R k := ⟨_, .inr (.inl ⟨xs, hs, rfl⟩), h⟩
theorem w_trL {p : Addr} {xs : List V} {R : Bool → Prop} (hs : SqL K H p xs) (h : R (!xs.isEmpty)) : ∃ k, TruV K (.ref p) H k ∧ R k := ⟨_, .inl ⟨xs, hs, rfl⟩, h⟩
theorem w_catT {a b : Addr} {xs ys : List V} (ha : SqT K H a xs) (hb : SqT K H b ys) (n1 : xs ≠ []) (n2 : ys ≠ []) (hl : xs.length + ys.length ≤ sizeLine) (h : NewO (xs.length + ys.length) (.tup (xs ++ ys)) H Q) : rCatT K (.ref a) (.ref b) H Q :=
  ⟨a, b, xs, ys, rfl, rfl, ha, hb, n1, hl, fun e => absurd e n2, fun _ => h.2⟩
theorem w_all {a : Addr} {bs : List Bool} (hs : SqL K H a (bs.map V.bl)) (h : Q (.bl (bs.all id)) H) : rAll K [V.ref a] H Q := ⟨a, bs, rfl, hs, h⟩
def NewE (o : Addr → HO) (H : Hp) (Q : VK) : Prop := ∀ p, H p = none → Q (.ref p) (upd H p (o p))
theorem w_newE {o : Addr → HO} (h : ∀ p H', H p = none → Same H H' → H' p = some (o p) → Q (.ref p) H') : NewE o H Q := fun p e => h p _ e (same_upd e) upd_same
theorem w_itemsK {te : TE} (h : te σ H fun x H1 => ∃ d kvs, x = .ref d ∧ KItems K d kvs ∧ NewE (fun v => .ext (IsView v d)) H1 Q) : tItemsK K te σ H Q := h
theorem w_item1 {d : Addr} {kvs : List (V × V)} {R : Addr → Prop} (hk : KItems K d kvs) (h : R d) : ∃ d' kvs', V.ref d = .ref d' ∧ KItems K d' kvs' ∧ R d' := ⟨d, kvs, rfl, hk, h⟩
theorem w_forI {J : It} {g : TG} {tb : TS} (n : Nat) (I : Nat → St → Hp → Prop) (h0 : I 0 σ H)
    (h : ∀ i σ H, i < n → I i σ H → J.go i H ∧ ∀ x H', J.yld i H x H' → g x σ H' fun σ2 H2 => tb { D with nx := fun σ' H' => I (i + 1) σ' H', ct := fun σ' H' => I (i + 1) σ' H', bk := D.nx } σ2 H2)
    (hz : ∀ σ H, I n σ H → J.stop n H ∧ D.nx σ H) :
    ∃ W : Nat → Nat → St → Hp → Prop, (∃ m, W 0 m σ H) ∧ ∀ i m σ H, W i m σ H →
      (J.stop i H ∧ D.nx σ H) ∨ (J.go i H ∧ ∃ N : St → Hp → Prop, (∀ σ' H', N σ' H' → ∃ m', m' < m ∧ W (i + 1) m' σ' H') ∧ ∀ x H', J.yld i H x H' → g x σ H' fun σ2 H2 => tb { D with nx := N, ct := N, bk := D.nx } σ2 H2) := by
  refine ⟨fun i m σ H => i ≤ n ∧ m = n - i ∧ I i σ H, ⟨n, Nat.zero_le _, rfl, h0⟩, fun i m σ H ⟨h1, h2, h3⟩ => ?_⟩
  rcases Nat.lt_or_ge i n with c | c
  · obtain ⟨q1, q2⟩ := h i σ H c h3
    exact .inr ⟨q1, _, fun σ' H' q => ⟨n - (i + 1), by omega, by omega, rfl, q⟩, q2⟩
  · obtain rfl : i = n := by omega
    exact .inl (hz σ H h3)
def LcN (L : Addr) (i : Nat) (I : Nat → List V → Hp → Prop) (H' : Hp) : Prop := ∃ acc, H' L = some (.lst acc) ∧ acc.length ≤ i ∧ I i acc H'
theorem lc_put {L : Addr} {i n : Nat} {I : Nat → List V → Hp → Prop} {acc : List V} {y : V} (e : H L = some (.lst acc)) (hl : acc.length ≤ i) (h1 : i < n) (hn : n ≤ 100000) (h : I (i + 1) (acc ++ [y]) (upd H L (.lst (acc ++ [y])))) :
    ∃ acc, H L = some (.lst acc) ∧ acc.length < sizeLine ∧ LcN L (i + 1) I (upd H L (.lst (acc ++ [y]))) :=
  ⟨acc, e, by rw [sizeLine_eq]; omega, _, upd_same, by rw [List.length_append]; exact Nat.succ_le_succ hl, h⟩
theorem lc_skip {L : Addr} {i : Nat} {I : Nat → List V → Hp → Prop} {acc : List V} (e : H L = some (.lst acc)) (hl : acc.length ≤ i) (h : I (i + 1) acc H) : LcN L (i + 1) I H := ⟨acc, e, by omega, h⟩
theorem w_lcI {J : It} {g : TG} {tt : TT} {te : TE} {vs : List Nat} {R : Addr → Hp → Prop} (n : Nat) (I : Nat → List V → Hp → Prop) (h0 : ∀ L, H L = none → I 0 [] (upd H L (.lst [])))
    (h : ∀ L i acc H2, H L = none → i < n → H2 L = some (.lst acc) → acc.length ≤ i → I i acc H2 → J.go i H2 ∧ ∀ x H', J.yld i H2 x H' → g x (wipe σ vs) H' fun σ2 H2 => wipe σ2 vs = wipe σ vs ∧ tt σ2 H2 fun b H3 =>
      if b = true then te σ2 H3 fun y H4 => ∃ acc, H4 L = some (.lst acc) ∧ acc.length < sizeLine ∧ LcN L (i + 1) I (upd H4 L (.lst (acc ++ [y]))) else LcN L (i + 1) I H3)
    (hz : ∀ L acc H2, H L = none → H2 L = some (.lst acc) → I n acc H2 → J.stop n H2 ∧ R L H2) :
    ∀ L, H L = none → ∃ W : Nat → Nat → Hp → Prop, (∃ m, W 0 m (upd H L (.lst []))) ∧ ∀ i m H, W i m H →
      (J.stop i H ∧ R L H) ∨ (J.go i H ∧ ∃ Nx : Hp → Prop, (∀ H', Nx H' → ∃ m', m' < m ∧ W (i + 1) m' H') ∧ ∀ x H', J.yld i H x H' → g x (wipe σ vs) H' fun σ2 H2 => wipe σ2 vs = wipe σ vs ∧ tt σ2 H2 fun b H3 =>
        if b = true then te σ2 H3 fun y H4 => ∃ acc, H4 L = some (.lst acc) ∧ acc.length < sizeLine ∧ Nx (upd H4 L (.lst (acc ++ [y]))) else Nx H3) := by
  intro L hL
  refine ⟨fun i m H2 => i ≤ n ∧ m = n - i ∧ LcN L i I H2, ⟨n, Nat.zero_le _, rfl, [], upd_same, Nat.le_refl _, h0 L hL⟩, fun i m H2 ⟨h1, h2, acc, h3, h4, h5⟩ => ?_⟩
  rcases Nat.lt_or_ge i n with c | c
  · obtain ⟨q1, q2⟩ := h L i acc H2 hL c h3 h4 h5
    exact .inr ⟨q1, LcN L (i + 1) I, fun H' q => ⟨n - (i + 1), by omega, by omega, rfl, q⟩, q2⟩
  · obtain rfl : i = n := by omega
    exact .inl (hz L acc H2 hL h3 h5)
end
end L2.RL
namespace L2.RL
open PySem PySem.Spec PyProof.Rows
def pick3 {α : Type} : List (Nat × Nat) → List α → List α → List α → List α
  | [], _, _, _ => []
  | q :: l, us, mv, ws => (match (if q.1 = 0 then us else if q.1 = 1 then mv else ws)[q.2]? with
    | some x => x :: pick3 l us mv ws
    | none => pick3 l us mv ws)
theorem pick3_vals : ∀ (l : List (Nat × Nat)) {vs mz zs : List V} {us mv ws : List Value}, Vals vs us → Vals mz mv → Vals zs ws → Vals (pick3 l vs mz zs) (pick3 l us mv ws)
  | [], _, _, _, _, _, _, _, _, _ => .nil
  | q :: l, vs, mz, zs, us, mv, ws, r1, r2, r3 => by
    have r : Vals (if q.1 = 0 then vs else if q.1 = 1 then mz else zs) (if q.1 = 0 then us else if q.1 = 1 then mv else ws) := by
      split
      · exact r1
      · split
        · exact r2
        · exact r3
    have hl := r.length
    have t := pick3_vals l r1 r2 r3
    unfold pick3
    cases e : (if q.1 = 0 then vs else if q.1 = 1 then mz else zs)[q.2]? with
    | none =>
      have e2 : (if q.1 = 0 then us else if q.1 = 1 then mv else ws)[q.2]? = none := by
        rw [List.getElem?_eq_none_iff] at e ⊢
        omega
      rw [e2]
      exact t
    | some x =>
      obtain ⟨u, e2, ru⟩ := r.get e
      rw [e2]
      exact .cons ru t
structure Lk (P : Program) (w : World) (K : PySem.W.Frag) (mg : Str → Option Value) (base : Heap) (CX : CXT) (k : Nat) (C : Str) (ps : List Str) (n : Nat) (ks : List Str) (gV : List V → List V → List V) (sp : Sp) : Prop where
  ex : ∃ fd g, FnOk P w K mg base CX k (He.ma K (He.ga K C) "__init__") fd ps sp ∧ KBn K fd ps n ks g gV
end L2.RL
namespace L2.RL
open PySem PySem.Spec PyProof.Rows
section
variable {K : PySem.W.Frag} {σ : St} {H H' : Hp} {Q : VK} {D : Ends}
theorem w_sFld0 {a C dx : Addr} {f : Str} {y : V} {fs fs' : List (Str × V)} {R : Hp → Prop} (e : H a = some (.ins C dx fs)) (c : Cls K C) (n : NoAttr K C f) (hl : fs.length < 1000) (ep : putF f y fs = fs') (h : R (upd H a (.ins C dx fs'))) :
    ∃ a' C' dx' fs1, V.ref a = .ref a' ∧ H a' = some (.ins C' dx' fs1) ∧ Cls K C' ∧ NoAttr K C' f ∧ fs1.length < 1000 ∧ R (upd H a' (.ins C' dx' (putF f y fs1))) := ⟨a, C, dx, fs, rfl, e, c, n, hl, by rw [ep]; exact h⟩
theorem SqT.but {x C dx a : Addr} {fs : List (Str × V)} {xs : List V} (b : But x H H') (e : H x = some (.ins C dx fs)) (h : SqT K H a xs) : SqT K H' a xs := by
  rcases h with (h | ⟨o, h⟩) | h
  · exact .inl (.inl (b _ _ (ne_of h e (by intro z; cases z)) h))
  · exact .inl (.inr ⟨o, b _ _ (ne_of h e (by intro z; cases z)) h⟩)
  · exact .inr h
theorem make_same {x dx : Addr} {o1 o2 : HO} (n1 : H x = none) (n2 : H dx = none) (b : But x (upd (upd H dx o1) x o2) H') : Same H H' := fun c o e => by
  have c1 := ne_of_none e n1
  have c2 := ne_of_none e n2
  refine b c o c1 ?_
  rw [upd_ne c1, upd_ne c2]
  exact e
theorem w_blR {b : Bool} {R : Bool → Prop} (h : R b) : ∃ k, V.bl b = .bl k ∧ R k := ⟨b, rfl, h⟩
theorem Same.at {b : Addr} {o : HO} (s : Same H H') (e : H b = some o) : H' b = some o := s b o e
theorem But.at {a b : Addr} {o : HO} (s : But a H H') (n : b ≠ a) (e : H b = some o) : H' b = some o := s b o n e
theorem upd_at {a b : Addr} {o o' : HO} (n : b ≠ a) (e : H b = some o) : upd H a o' b = some o := (upd_ne n).trans e
theorem zip_go {b : Bool} {kvs : List (V × V)} {p : Addr} {i : Nat} {ys : List V} {y : V} (hk : i < kvs.length) (hp : SqT K H p ys) (hy : ys[i]? = some y) : (It2 b (ItI kvs) (Itt K p)).go i H := by
  refine ⟨hk, fun x H1 ⟨T, k, v, _, _, n, e⟩ => ?_⟩
  exact ⟨ys, y, Same.sqT (by rw [e]; exact same_upd n) hp, hy⟩
theorem zip_yld {b : Bool} {kvs : List (V × V)} {p : Addr} {i : Nat} {ys : List V} {y k w v : V} (h : (It2 b (ItI kvs) (Itt K p)).yld i H v H') (hk : kvs[i]? = some (k, w)) (hp : SqT K H p ys) (hy : ys[i]? = some y) :
    ∃ T T2, v = .ref T ∧ H' T = some (.tup [.ref T2, y]) ∧ H' T2 = some (.tup [k, w]) ∧ Same H H' := by
  obtain ⟨T, x, y', H1, H2, ⟨T2, k', w', e1, e2, n2, e3⟩, ⟨e4, e5⟩, e6, n6, e7⟩ := h
  rw [hk] at e1
  cases e1
  have s1 : Same H H1 := by rw [e3]; exact same_upd n2
  have q := e5 ys (Same.sqT s1 hp)
  rw [hy] at q
  cases q
  subst e2 e4
  have s2 : Same H2 H' := by rw [e7]; exact same_upd n6
  refine ⟨T, T2, e6, by rw [e7]; exact upd_same, s2 _ _ (by rw [e3]; exact upd_same), s1.trans s2⟩
theorem zip_stop {b : Bool} {kvs : List (V × V)} {p : Addr} {i : Nat} {ys : List V} (hk : kvs.length ≤ i) (hp : SqT K H p ys) (hy : ys.length ≤ i) : (It2 b (ItI kvs) (Itt K p)).stop i H := .inl ⟨hk, fun _ => ⟨ys, hp, hy⟩⟩
theorem w_makeK {C : Addr} {n m : Nat} {sp : Sp} {gV : List V → List V → List V} {E : XK} {t tk : TA} (h : t σ H fun vs H1 => tk σ H1 fun zs H2 => vs.length = n ∧ zs.length = m ∧ ∀ x dx, H2 x = none → H2 dx = none → dx ≠ x →
  sp (gV (.ref x :: vs) zs) (upd (upd H2 dx (.own x)) x (.ins C dx [])) (fun v H3 => v = .non ∧ Q (.ref x) H3) E) : tMakeK C n m sp gV E t tk σ H Q := h
end
end L2.RL
namespace L2.RL
open PySem PySem.Spec PyProof.Rows
def SqJ (J : It) (H : Hp) (xs : List V) : Prop := (∀ i x, xs[i]? = some x → J.go i H ∧ ∀ v H', J.yld i H v H' → H' = H ∧ v = x) ∧ ∀ i, xs.length ≤ i → J.stop i H
section
variable {K : PySem.W.Frag} {H H' : Hp} {a : Addr} {xs ys : List V} {J1 J2 : It} {b : Bool} {i : Nat} {x y v : V}
theorem seqL (h : SqL K H a xs) : SqJ (Itl K a) H xs := ⟨fun i x e => ⟨⟨xs, x, h, e⟩, fun v H' ⟨e1, e2⟩ => ⟨e1, Option.some.inj ((e2 xs h).symm.trans e)⟩⟩, fun i l => ⟨xs, h, l⟩⟩
theorem seqT (h : SqT K H a xs) : SqJ (Itt K a) H xs := ⟨fun i x e => ⟨⟨xs, x, h, e⟩, fun v H' ⟨e1, e2⟩ => ⟨e1, Option.some.inj ((e2 xs h).symm.trans e)⟩⟩, fun i l => ⟨xs, h, l⟩⟩
theorem seq_zip_go (h1 : SqJ J1 H xs) (h2 : SqJ J2 H ys) (e1 : xs[i]? = some x) (e2 : ys[i]? = some y) : (It2 b J1 J2).go i H :=
  ⟨(h1.1 i x e1).1, fun v H1 q => by rw [((h1.1 i x e1).2 v H1 q).1]; exact (h2.1 i y e2).1⟩
theorem seq_zip_yld (h : (It2 b J1 J2).yld i H v H') (h1 : SqJ J1 H xs) (h2 : SqJ J2 H ys) (e1 : xs[i]? = some x) (e2 : ys[i]? = some y) : ∃ T, v = .ref T ∧ H' T = some (.tup [x, y]) ∧ Same H H' := by
  obtain ⟨T, x', y', H1, H2, q1, q2, e3, n, e4⟩ := h
  obtain ⟨a1, a2⟩ := (h1.1 i x e1).2 x' H1 q1
  rw [a1] at q2
  obtain ⟨a3, a4⟩ := (h2.1 i y e2).2 y' H2 q2
  rw [a3] at n e4
  exact ⟨T, e3, by rw [e4, a2, a4]; exact upd_same, by rw [e4]; exact same_upd n⟩
theorem seq_zip_stop (h1 : SqJ J1 H xs) (h2 : SqJ J2 H ys) (l1 : xs.length ≤ i) (l2 : ys.length ≤ i) : (It2 b J1 J2).stop i H := .inl ⟨h1.2 i l1, fun _ => h2.2 i l2⟩
theorem Same.none {L : Addr} (s : Same H H') (n : H' L = none) : H L = none := by
  cases e : H L with
  | none => rfl
  | some o =>
    rw [s _ _ e] at n
    cases n
end
end L2.RL
namespace L2.RL
open PySem PySem.Spec PyProof.Rows
theorem pg_tupN {X : Cx} {pos : Pos} {es : List Expr} {k : Nat} {t : TGs} {n : Nat} {K : PySem.W.Frag} (hc : X.calm = true) (hK : X.K = K) (h : PGs X es t)
    (hn : (assignEach es X.env).length = n := by rfl) (hst : (assignEach es X.env).findIdx? (·.1) = none := by rfl) : PG X (.Tuple es k pos) (gTup K n t) := by
  rw [← hK]
  exact pg_tup hc h hn hst
end L2.RL
end
section
set_option Elab.async false
set_option linter.all false
set_option maxRecDepth 100000
/-! loops over range and over sequences, by the number of turns -/
namespace L2.RL
open PySem PySem.Spec PyProof.Rows
section
variable {K : PySem.W.Frag} {σ : St} {H : Hp} {Q : VK} {D : Ends}
theorem w_gc1 {x : V} {xs : List V} {A : V → List V → Prop} (h : A x xs) : ∃ v r, x :: xs = v :: r ∧ A v r := ⟨x, xs, rfl, h⟩
theorem w_forR {lo : Int} {n : Nat} {g : TG} {tb : TS} (I : Nat → St → Hp → Prop) (h0 : I 0 σ H)
    (h : ∀ i σ H, i < n → I i σ H → g (.int (lo + i)) σ H fun σ2 H2 => tb { D with nx := fun σ' H' => I (i + 1) σ' H', ct := fun σ' H' => I (i + 1) σ' H', bk := D.nx } σ2 H2)
    (hz : ∀ σ H, I n σ H → D.nx σ H) :
    ∃ W : Nat → Nat → St → Hp → Prop, (∃ m, W 0 m σ H) ∧ ∀ i m σ H, W i m σ H →
      ((Itr lo n).stop i H ∧ D.nx σ H) ∨ ((Itr lo n).go i H ∧ ∃ N : St → Hp → Prop, (∀ σ' H', N σ' H' → ∃ m', m' < m ∧ W (i + 1) m' σ' H') ∧ ∀ x H', (Itr lo n).yld i H x H' → g x σ H' fun σ2 H2 => tb { D with nx := N, ct := N, bk := D.nx } σ2 H2) :=
  w_forI n I h0 (fun i σ H hi hI => ⟨hi, fun x H' ⟨e1, e2⟩ => by subst e1 e2; exact h i σ _ hi hI⟩) (fun σ H hI => ⟨Nat.le_refl n, hz σ H hI⟩)
theorem w_forS {J : It} {xs : List V} {g : TG} {tb : TS} (I : Nat → St → Hp → Prop) (hs : ∀ i σ H, I i σ H → SqJ J H xs) (h0 : I 0 σ H)
    (h : ∀ i x σ H, xs[i]? = some x → I i σ H → g x σ H fun σ2 H2 => tb { D with nx := fun σ' H' => I (i + 1) σ' H', ct := fun σ' H' => I (i + 1) σ' H', bk := D.nx } σ2 H2)
    (hz : ∀ σ H, I xs.length σ H → D.nx σ H) :
    ∃ W : Nat → Nat → St → Hp → Prop, (∃ m, W 0 m σ H) ∧ ∀ i m σ H, W i m σ H →
      (J.stop i H ∧ D.nx σ H) ∨ (J.go i H ∧ ∃ N : St → Hp → Prop, (∀ σ' H', N σ' H' → ∃ m', m' < m ∧ W (i + 1) m' σ' H') ∧ ∀ x H', J.yld i H x H' → g x σ H' fun σ2 H2 => tb { D with nx := N, ct := N, bk := D.nx } σ2 H2) :=
  w_forI xs.length I h0 (fun i σ H hi hI => by
    obtain ⟨s1, s2⟩ := (hs i σ H hI).1 i xs[i] (List.getElem?_eq_getElem hi)
    refine ⟨s1, fun x H' y => ?_⟩
    obtain ⟨e1, e2⟩ := s2 x H' y
    subst e1 e2
    exact h i _ σ _ (List.getElem?_eq_getElem hi) hI) (fun σ H hI => ⟨(hs _ σ H hI).2 _ (Nat.le_refl _), hz σ H hI⟩)
theorem w_rep {l : Addr} {k : Int} {xs : List V} {n : Nat} (hH : H l = some (.lst xs)) (hk : k.toNat = n) (h1 : -(2 ^ 63) ≤ k) (h2 : k < 2 ^ 63) (hz : xs.length * n ≤ 100000) (h : ∀ p H', H p = none → Same H H' → H' p = some (.lst (List.replicate n xs).flatten) → Q (.ref p) H') : rRep (.ref l) (.int k) H Q :=
  ⟨l, k, xs, rfl, rfl, hH, h1, h2, by rw [hk]; exact Nat.le_trans hz (by decide), fun p e => by rw [hk]; exact h p _ e (same_upd e) upd_same⟩
theorem But.same {a : Addr} {H H' : Hp} (n : H a = none) (b : But a H H') : Same H H' := fun c o e => b c o (ne_of_none e n) e
theorem SqL.but {x a : Addr} {xs : List V} {H' : Hp} (b : But x H H') (n : a ≠ x) (h : SqL K H a xs) : SqL K H' a xs := by
  rcases h with (h | ⟨o, h⟩) | h
  · exact .inl (.inl (b _ _ n h))
  · exact .inl (.inr ⟨o, b _ _ n h⟩)
  · exact .inr h
end
end L2.RL
end
section
set_option Elab.async false
set_option linter.all false
set_option maxRecDepth 100000
set_option maxHeartbeats 4000000
/-! enumerate(list, start=..) in a for -/
namespace L2.RL
open PySem PySem.Spec PyProof.Rows
open PySem.Sem (wp)
def ItEn (K : PySem.W.Frag) (a : Addr) (k : Int) : It where
  go := fun i H => ∃ ys y, SqL K H a ys ∧ ys[i]? = some y
  yld := fun i H v H' => ∃ T y, v = .ref T ∧ H T = none ∧ H' = upd H T (.tup [.int (k + (i : Nat)), y]) ∧ ∀ ys, SqL K H a ys → ys[i]? = some y
  stop := fun i H => ∃ ys : List V, SqL K H a ys ∧ ys.length ≤ i
theorem en_end {prog : Program} {w : World} {A : Around} {E : Value → Shared → Prop} {s : Shared} {e j l : Addr} {i : Nat} {c : Int} {its : Array Value} {old : Value} {Q : Option Value → Shared → Prop} (hh : A.handled = none)
    (g1 : IsEnum s.heap e j c old) (g2 : s.heap.IsListIter j l i) (g3 : s.heap.IsList l its) (hi : its[i]? = none) (hQ : ∀ h', Heap.ExtBut j s.heap h' → Q none { s with heap := h' }) :
    wpAny (model prog w) A (pyNext (.ref e)) Q E s := by
  have hT : s.TypeIs (.ref e) "enumerate" := ⟨_, g1, rfl⟩
  unfold pyNext
  refine wpAny_bind (wpAny_attempt (wpAny_callSpecial?_slot (name := Str.ofString "__next__") hT F.slot_enumerate_next (wpAny_call_entry F.slot_enumerate_next hT F.entry_enumerate_next ?_ (F.args_enumerate_next_1 _))))
  change wpAny _ _ (field (Value.ref e) 2 >>= _) _ _ _; refine wpAny_bind (wpAny_field g1 rfl (x := .ref j) rfl (wpAny_bind (wpAny_nextOf_list_end hh g2 g3 hi fun h' x he' hx' => ?_)))
  obtain ⟨o, ho, hc⟩ := hx'
  exact wpAny_bind (wpAny_isInstance (T := "StopIteration") (b := true) ⟨o, ho, hc⟩ isSubtype_stop (wpAny_pure (hQ _ he')))
theorem turn_en {P : Program} {w : World} {K : PySem.W.Frag} {els : List Expr} {kk : Nat} {tp : Pos} (a e j : Addr) (k : Int) :
    Turn P w K (.Tuple els kk tp) (ItEn K a k) [e, j] e (fun i h => (∃ old, IsEnum h e j (k + ((i : Nat) : Int)) old) ∧ h.IsListIter j a i ∧ e ≠ j ∧ a ≠ j) where
  mem := List.mem_cons_self ..
  obj := fun i h st b hb => by
    obtain ⟨⟨old, g1⟩, ⟨o, g2, _, g4⟩, _⟩ := st
    rcases (show b = e ∨ b = j by simpa using hb) with rfl | rfl
    · exact ⟨_, g1, fun v z => nomatch z⟩
    · exact ⟨o, g2, fun v z => by rw [g4] at z; cases z⟩
  keep := fun i h h' st m => by
    obtain ⟨⟨old, g1⟩, g2, g3⟩ := st
    exact ⟨⟨old, m e (by simp) _ g1⟩, g2.at fun o z => m j (by simp) o z, g3⟩
  item := by
    intro X e1 e2 e3 hc i pins s σ H E I hf st hg
    subst e1 e2 e3
    obtain ⟨⟨old, g1⟩, g2, g3, g4⟩ := st
    obtain ⟨ys, y, q1, q2⟩ := hg
    obtain ⟨its, rv, p, _⟩ := I.list q1
    obtain ⟨u, hu, ru⟩ := rv.get q2
    have l1 : e < s.heap.objs.size := Heap.lt_size g1
    have l2 : j < s.heap.objs.size := by
      obtain ⟨_, z, _⟩ := g2
      exact Heap.lt_size z
    have hi : i < its.toArray.size := by
      rw [List.size_toArray]
      exact (List.getElem?_eq_some_iff.mp hu).1
    have hd : X.A.in1.handled = none := I.ok.hd hc
    refine wpAny_pyNext_enum_itemC (Draws.list (prog := X.prog) (w := X.w) hd j a g4 its.toArray) g1 ⟨g2, p.isList⟩ hi g3 (fun z => ?_) fun x h' tk px ho hst hT _ up => ?_
    · rcases (show e = j ∨ e = a by simpa using z) with z | z
      · exact g3 z
      · obtain ⟨o, z1, z2, _⟩ := p.isList
        rw [← z, g1] at z1
        cases z1
        exact absurd z2 (by simp)
    · have ex : u = x := by
        have z : its.toArray[i]? = some x := px
        rw [List.getElem?_toArray, hu] at z
        exact Option.some.inj z
      subst ex
      refine ⟨_, rfl, wpAny_letOwnedTupleGo_enum (s := { s with heap := h', toks := tk + 1 }) ho fun h2 he2 sb => ?_⟩
      have hT2 := (sb.2 _ (Nat.ne_of_gt l1)).trans hT
      have new : ObjOk X.prog X.w (upd H s.heap.objs.size (.tup [.int (k + (i : Nat)), y])) h2 s.heap.objs.size (.tup [.int (k + (i : Nat)), y]) :=
        ⟨(show 2 ≤ sizeLine by decide), [.int (k + (i : Nat)) tk, u], .cons ⟨_, rfl⟩ (.cons ru .nil), ⟨_, hT2, rfl, _, rfl⟩⟩
      have I1 : Inv X pins σ (upd H s.heap.objs.size (.tup [.int (k + (i : Nat)), y])) { s with heap := h2, toks := tk + 1 } :=
        I.turnedNew (ch := [e, j]) (fun b ob hb z => by
          have n1 : b ≠ e := fun z => hb (by simp [z])
          have n2 : b ≠ j := fun z => hb (by simp [z])
          exact (sb.2 b n1).trans (up b ob n1 n2 z)) hf (Nat.le_refl _) new
      refine ⟨.ref s.heap.objs.size, _, I1, rfl, ⟨_, y, rfl, I.hok.fresh (Nat.le_refl _), rfl, fun zs hz => by rw [I.list_inj hz q1]; exact q2⟩, ⟨⟨u, ?_⟩, ?_, g3, g4⟩, fun b hb => ?_⟩
      · have z : k + ((i + 1 : Nat) : Int) = k + (i : Int) + 1 := by omega
        rw [z]
        exact he2
      · exact hst.1.at fun o z => (sb.2 j (Ne.symm g3)).trans z
      · have l3 : b < s.heap.objs.size := by
          rcases (show b = e ∨ b = j by simpa using hb) with rfl | rfl
          · exact l1
          · exact l2
        rw [upd_ne (Nat.ne_of_lt l3)]
        exact (hf b hb).1
  done := by
    intro X e1 e2 e3 hc i pins s σ H E I hf st hg
    subst e1 e2 e3
    obtain ⟨⟨old, g1⟩, g2, g3, g4⟩ := st
    obtain ⟨ys, q1, q2⟩ := hg
    obtain ⟨its, rv, p, _⟩ := I.list q1
    have hl := rv.length
    obtain ⟨f0, f1, f2, f3, f4, f5⟩ := hf j (by simp)
    exact en_end (I.ok.hd hc) g1 g2 p.isList (by simp; omega) fun h' up => ⟨rfl, I.turned (t' := s.toks) (fun b o hb z => up b o hb z) f0 f1 f3 f4 f5⟩
  self := fun A i s Q E st h => by
    obtain ⟨⟨_, g⟩, _⟩ := st
    exact wpAny_pyIter_enum g h
def iEnS (K : PySem.W.Frag) (ta tk : TA) : TI := fun σ H R => ta σ H fun vs H1 => tk σ H1 fun zs H2 => ∃ (a : Addr) (ys : List V) (k : Int), vs = [.ref a] ∧ zs = [.int k] ∧ SqL K H2 a ys ∧ (-(2 ^ 63) ≤ k ∧ k < 2 ^ 63) ∧ R (ItEn K a k) H2
theorem pi_enS {X : Cx} {e e2 : Expr} {ta : TA} {te : TE} {p pos tp kp : Pos} {els : List Expr} {kk : Nat} (hg : Gl X "enumerate") (hm : X.mg "enumerate" = none) (ha : PA X [e] ta) (h2 : PE X e2 te)
    (hs : starEach [e] X.env = [(false, eval e X.env)] := by rfl)
    (hall : (backToKw pos (keywordEach [⟨some "start", e2, kp⟩] X.env)).all (·.1.isSome) = true := by rfl)
    (hks : (backToKw pos (keywordEach [⟨some "start", e2, kp⟩] X.env)).filterMap (·.1) = (["start"] : List Str) := by rfl)
    (hpl : ((backTo pos (starEach [e] X.env)).any (·.1) || (backToKw pos (keywordEach [⟨some "start", e2, kp⟩] X.env)).any (·.1.isNone)) = false := by rfl) :
    PI X (.Tuple els kk tp) (.Call (.Name "enumerate" p) [e] [⟨some "start", e2, kp⟩] pos) (iEnS X.K ta (tCons te tNil)) := by
  refine ⟨fun pins s σ H R I h => ?_⟩
  refine wpAny_Call_Name_kw (ld_blt I hg hm boot_enumerate (callWith_typeKw hpl (evalArgs_kw2 hall (thn (ha.run pos pins s σ H _ I h) fun us s1 ⟨vs, H1, I1, r1, q1⟩ => ?_) hs)))
  have pk : PK X [⟨some "start", e2, kp⟩] (tCons te tNil) := pk_cons h2 pk_nil
  refine thn (pk.run pos pins s1 σ H1 _ I1 q1) fun ws s2 ⟨zs, H2, I2, rz, a, ys, k, ez, ek, hq, ⟨k0, k1⟩, q⟩ => ?_
  subst ez ek
  obtain ⟨u1, rfl, ra⟩ := vals1 r1
  obtain rfl : u1 = Value.ref a := ra
  obtain ⟨w1, rfl, rw1⟩ := vals1 rz
  obtain ⟨t, rfl⟩ := rw1
  rw [hks]
  obtain ⟨its, rv, p', _⟩ := I2.list hq
  have hal : a < s2.heap.objs.size := by
    obtain ⟨o, z, _⟩ := p'.isList
    exact Heap.lt_size z
  refine enum_begins_start (begins_list a its.toArray) p'.isList k0 k1 fun h' he hit _ up => wpAny_pyIter_enum he ?_
  have I3 : Inv X pins σ H2 { s2 with heap := h' } := I2.kept (t' := s2.toks) up
  refine ⟨s2.heap.objs.size + 1, [s2.heap.objs.size + 1, s2.heap.objs.size], _, _, H2, rfl, I3, turn_en a (s2.heap.objs.size + 1) s2.heap.objs.size k, ⟨⟨.none, ?_⟩, ⟨_, hit, rfl, rfl⟩, Nat.succ_ne_self _, Nat.ne_of_lt hal⟩, fun b hb => ?_, q⟩
  · have z : k + ((0 : Nat) : Int) = k := by omega
    rw [z]
    exact he
  · have hle : s2.heap.objs.size ≤ b := by
      rcases (show b = s2.heap.objs.size + 1 ∨ b = s2.heap.objs.size by simpa using hb) with z | z
      · rw [z]; exact Nat.le_succ _
      · rw [z]; exact Nat.le_refl _
    exact I2.fpOk hle (I2.hok.fresh hle)
end L2.RL
end
section
set_option Elab.async false
set_option linter.all false
set_option maxRecDepth 100000
set_option maxHeartbeats 2000000
/-! floor quotients by any divisor; the nearest point of a line of fractions -/
namespace L2.RL
open PySem PySem.Spec PyProof.Rows
def CDivG (i j : Int) : Prop := j ≠ 0 ∧ j.natAbs.log2 < 9000
theorem op_fdivG {X : Cx} : OpR X (binaryOp .FloorDiv) (rI CDivG fun i j => .int (i.fdiv j)) := opI fun i j _ _ _ _ _ hc q => floordiv_int hc.1 q (.inl (PyProof.noPylong_of_log2 hc.2))
theorem cg_of {i j : Int} (n : Nat) (h : j ≠ 0) (hj : j.natAbs < 2 ^ n) (h0 : 0 < n) (h1 : n ≤ 9000) : CDivG i j := ⟨h, Nat.lt_of_lt_of_le (PySem.Flt.log2_lt_of h0 hj) h1⟩
theorem abs_if (x : Int) : (if x < 0 then -x else x) = (x.natAbs : Int) := by split <;> omega
structure Line (lo A S D : Int) (T B : Int → Int) : Prop where
  D0 : 0 < D
  B0 : ∀ z, 0 < B z
  on : ∀ z, T z * D = (A + S * (z - lo)) * B z
def gap (lo A S D n d z : Int) : Int := (A + S * (z - lo)) * d - n * D
theorem mul_lt {k a b : Int} (h : 0 < k) : k * a < k * b ↔ a < b := by
  constructor
  · intro x
    exact Int.lt_of_mul_lt_mul_left x (by omega)
  · intro x
    exact Int.mul_lt_mul_of_pos_left x h
theorem natAbs_mulP {k a : Int} (h : 0 ≤ k) : ((k * a).natAbs : Int) = k * (a.natAbs : Int) := by
  rw [Int.natAbs_mul]
  have : (k.natAbs : Int) = k := by omega
  rw [Int.natCast_mul, this]
theorem Line.far {lo A S D n d : Int} {T B : Int → Int} (L : Line lo A S D T B) (z : Int) : D * ((T z * d - n * B z).natAbs : Int) = B z * ((gap lo A S D n d z).natAbs : Int) := by
  have h1 := L.on z
  have h0 := L.D0
  have h2 := L.B0 z
  rw [← natAbs_mulP (by omega), ← natAbs_mulP (by omega)]
  have e : D * (T z * d - n * B z) = B z * gap lo A S D n d z := by
    unfold gap
    grind
  rw [e]
theorem Line.cmp {lo A S D n d : Int} {T B : Int → Int} (L : Line lo A S D T B) (hd : 0 < d) (z w : Int) :
    ((T z * d - n * B z).natAbs : Int) * (B w * d) < ((T w * d - n * B w).natAbs : Int) * (B z * d) ↔ (gap lo A S D n d z).natAbs < (gap lo A S D n d w).natAbs := by
  have f1 := L.far (n := n) (d := d) z
  have f2 := L.far (n := n) (d := d) w
  have p1 := L.B0 z
  have p2 := L.B0 w
  have p0 := L.D0
  generalize ((T z * d - n * B z).natAbs : Int) = a at *
  generalize ((T w * d - n * B w).natAbs : Int) = b at *
  generalize gap lo A S D n d z = g at *
  generalize gap lo A S D n d w = h at *
  rw [← mul_lt (k := D) p0]
  have e1 : D * (a * (B w * d)) = (B z * B w * d) * (g.natAbs : Int) := by grind
  have e2 : D * (b * (B z * d)) = (B z * B w * d) * (h.natAbs : Int) := by grind
  rw [e1, e2, mul_lt (Int.mul_pos (Int.mul_pos p1 p2) hd)]
  omega
structure IsNear (lo hi A S D n d z : Int) : Prop where
  ge : lo ≤ z
  le : z ≤ hi
  least : ∀ w, lo ≤ w → w ≤ hi → (gap lo A S D n d z).natAbs ≤ (gap lo A S D n d w).natAbs
  first : ∀ w, lo ≤ w → w < z → (gap lo A S D n d z).natAbs < (gap lo A S D n d w).natAbs
theorem IsNear.uniq {lo hi A S D n d z w : Int} (a : IsNear lo hi A S D n d z) (b : IsNear lo hi A S D n d w) : z = w := by
  rcases Int.lt_trichotomy z w with c | c | c
  · have := b.first z a.ge c
    have := a.least w b.ge b.le
    omega
  · exact c
  · have := a.first w b.ge c
    have := b.least z a.ge a.le
    omega
def clampI (lo hi x : Int) : Int := if hi < (if lo > x then lo else x) then hi else (if lo > x then lo else x)
def better (g : Int → Nat) (best v : Int) : Int := if g v < g best then v else best
theorem near_core {s r q K : Int} (f : Int → Int) (hs : 0 < s) (r0 : 0 ≤ r) (r1 : r < s) (hK : 0 ≤ K) (hq : f q = -r) (hq1 : f (q + 1) = s - r) (mono : ∀ a b, a < b → f a + s ≤ f b) :
    let b1 := better (fun k => (f k).natAbs) 0 (clampI 0 K q)
    let b2 := better (fun k => (f k).natAbs) b1 (clampI 0 K (q + 1))
    0 ≤ b2 ∧ b2 ≤ K ∧ (∀ w, 0 ≤ w → w ≤ K → (f b2).natAbs ≤ (f w).natAbs) ∧ ∀ w, 0 ≤ w → w < b2 → (f b2).natAbs < (f w).natAbs := by
  have m2 : ∀ a b, a ≤ b → f a ≤ f b := fun a b h => by
    rcases Int.lt_or_eq_of_le h with h | h
    · have := mono a b h
      omega
    · rw [h]
      exact Int.le_refl _
  rcases (show q < 0 ∨ K ≤ q ∨ (0 ≤ q ∧ q < K) by omega) with c | c | ⟨c, c'⟩
  · have e1 : clampI 0 K q = 0 := by
      unfold clampI
      repeat' split
      all_goals omega
    have e2 : clampI 0 K (q + 1) = 0 := by
      unfold clampI
      repeat' split
      all_goals omega
    have e3 : better (fun k => (f k).natAbs) 0 0 = 0 := by unfold better; split <;> rfl
    simp only [e1, e2, e3]
    refine ⟨Int.le_refl _, hK, fun w h0 _ => ?_, fun w h0 h1 => by omega⟩
    have := m2 (q + 1) 0 (by omega)
    have := m2 0 w h0
    omega
  · have e1 : clampI 0 K q = K := by
      unfold clampI
      repeat' split
      all_goals omega
    have e2 : clampI 0 K (q + 1) = K := by
      unfold clampI
      repeat' split
      all_goals omega
    have hKq := m2 K q c
    have key : ∀ w, w < K → (f K).natAbs < (f w).natAbs := fun w h => by
      have := mono w K h
      omega
    have e3 : better (fun k => (f k).natAbs) 0 K = K := by
      unfold better
      rcases Int.lt_or_eq_of_le hK with h | h
      · rw [if_pos (key 0 h)]
      · rw [← h]
        split <;> rfl
    have e4 : better (fun k => (f k).natAbs) K K = K := by unfold better; split <;> rfl
    simp only [e1, e2, e3, e4]
    refine ⟨hK, Int.le_refl _, fun w _ h1 => ?_, fun w _ h1 => key w h1⟩
    rcases Int.lt_or_eq_of_le h1 with h | h
    · exact Nat.le_of_lt (key w h)
    · rw [h]
      exact Nat.le_refl _
  · have e1 : clampI 0 K q = q := by
      unfold clampI
      repeat' split
      all_goals omega
    have e2 : clampI 0 K (q + 1) = q + 1 := by
      unfold clampI
      repeat' split
      all_goals omega
    have lo1 : ∀ w, w < q → (f q).natAbs + s ≤ (f w).natAbs := fun w h => by
      have := mono w q h
      omega
    have hi1 : ∀ w, q + 1 < w → (f (q + 1)).natAbs + s ≤ (f w).natAbs := fun w h => by
      have := mono (q + 1) w h
      omega
    have e3 : better (fun k => (f k).natAbs) 0 q = q := by
      unfold better
      rcases Int.lt_or_eq_of_le c with h | h
      · have hlt : (f q).natAbs < (f 0).natAbs := by have := lo1 0 h; omega
        rw [if_pos hlt]
      · rw [← h]
        split <;> rfl
    simp only [e1, e2, e3]
    unfold better
    split
    · rename_i h
      have h' : (f (q + 1)).natAbs < (f q).natAbs := h
      refine ⟨by omega, by omega, fun w h0 h1 => ?_, fun w h0 h1 => ?_⟩
      · rcases (show w < q ∨ w = q ∨ w = q + 1 ∨ q + 1 < w by omega) with z | z | z | z
        · have := lo1 w z
          omega
        · rw [z]; omega
        · rw [z]; omega
        · have := hi1 w z
          omega
      · rcases (show w < q ∨ w = q by omega) with z | z
        · have := lo1 w z
          omega
        · rw [z]; omega
    · rename_i h
      have h' : ¬ (f (q + 1)).natAbs < (f q).natAbs := h
      refine ⟨by omega, by omega, fun w h0 h1 => ?_, fun w h0 h1 => ?_⟩
      · rcases (show w < q ∨ w = q ∨ w = q + 1 ∨ q + 1 < w by omega) with z | z | z | z
        · have := lo1 w z
          omega
        · rw [z]; omega
        · rw [z]; omega
        · have := hi1 w z
          omega
      · have := lo1 w h1
        omega
theorem clamp_move (lo hi x : Int) : clampI lo hi (lo + x) = lo + clampI 0 (hi - lo) x := by
  unfold clampI
  repeat' split
  all_goals omega
theorem better_move (g : Int → Nat) (lo a b : Int) : better g (lo + a) (lo + b) = lo + better (fun k => g (lo + k)) a b := by
  unfold better
  split <;> rfl
theorem better_congr {g h : Int → Nat} (e : ∀ k, g k = h k) (a b : Int) : better g a b = better h a b := by
  rw [show g = h from funext e]
theorem near_found {lo hi A S D n d far : Int} (hl : lo ≤ hi) (hS : S * d ≠ 0) (hf : far = (n * D - A * d).fdiv (S * d)) :
    let g := fun z => (gap lo A S D n d z).natAbs
    IsNear lo hi A S D n d (better g (better g lo (clampI lo hi (lo + far))) (clampI lo hi (lo + (far + 1)))) := by
  intro g
  obtain ⟨s, hs⟩ : ∃ s, s = S * d := ⟨_, rfl⟩
  obtain ⟨c, hc⟩ : ∃ c, c = n * D - A * d := ⟨_, rfl⟩
  have hg : ∀ k, gap lo A S D n d (lo + k) = s * k - c := fun k => by
    unfold gap
    rw [hs, hc]
    grind
  rw [← hs, ← hc] at hf
  rw [← hs] at hS
  have hm := Int.fmod_def c s
  rw [← hf] at hm
  obtain ⟨s', r', f, p1, p2, p3, p4, p5, p6, p7⟩ : ∃ (s' r' : Int) (f : Int → Int), 0 < s' ∧ 0 ≤ r' ∧ r' < s' ∧ f far = -r' ∧ f (far + 1) = s' - r' ∧ (∀ a b, a < b → f a + s' ≤ f b) ∧ ∀ k, (gap lo A S D n d (lo + k)).natAbs = (f k).natAbs := by
    rcases Int.lt_or_gt_of_ne hS with h | h
    · have a1 := Int.fmod_nonneg_of_pos (-c) (b := -s) (by omega)
      have a2 := Int.fmod_lt_of_pos (-c) (b := -s) (by omega)
      rw [Int.neg_fmod_neg] at a1 a2
      refine ⟨-s, -(c.fmod s), fun k => -(s * k - c), by omega, by omega, by omega, ?_, ?_, fun a b ab => ?_, fun k => ?_⟩
      · show -(s * far - c) = _
        omega
      · show -(s * (far + 1) - c) = _
        rw [Int.mul_add, Int.mul_one]
        omega
      · show -(s * a - c) + -s ≤ -(s * b - c)
        have : (-s) * 1 ≤ (-s) * (b - a) := Int.mul_le_mul_of_nonneg_left (by omega) (by omega)
        grind
      · rw [hg, Int.natAbs_neg]
    · have a1 := Int.fmod_nonneg_of_pos c h
      have a2 := Int.fmod_lt_of_pos c h
      refine ⟨s, c.fmod s, fun k => s * k - c, h, a1, a2, ?_, ?_, fun a b ab => ?_, fun k => by rw [hg]⟩
      · show s * far - c = _
        omega
      · show s * (far + 1) - c = _
        rw [Int.mul_add, Int.mul_one]
        omega
      · show s * a - c + s ≤ s * b - c
        have : s * 1 ≤ s * (b - a) := Int.mul_le_mul_of_nonneg_left (by omega) (by omega)
        grind
  have core := near_core (K := hi - lo) f p1 p2 p3 (by omega) p4 p5 p6
  have e : better g (better g lo (clampI lo hi (lo + far))) (clampI lo hi (lo + (far + 1))) = lo + better (fun k => (f k).natAbs) (better (fun k => (f k).natAbs) 0 (clampI 0 (hi - lo) far)) (clampI 0 (hi - lo) (far + 1)) := by
    have e0 : better g lo (clampI lo hi (lo + far)) = lo + better (fun k => (f k).natAbs) 0 (clampI 0 (hi - lo) far) := by
      rw [clamp_move, show better g lo (lo + clampI 0 (hi - lo) far) = better g (lo + 0) (lo + clampI 0 (hi - lo) far) from by rw [Int.add_zero], better_move, better_congr p7]
    rw [e0, clamp_move, better_move, better_congr p7]
  rw [e]
  simp only at core
  obtain ⟨c1, c2, c3, c4⟩ := core
  generalize better (fun k => (f k).natAbs) (better (fun k => (f k).natAbs) 0 (clampI 0 (hi - lo) far)) (clampI 0 (hi - lo) (far + 1)) = b at *
  refine ⟨by omega, by omega, fun w w0 w1 => ?_, fun w w0 w1 => ?_⟩
  · have := c3 (w - lo) (by omega) (by omega)
    rw [p7, show w = lo + (w - lo) by omega, p7]
    exact this
  · have := c4 (w - lo) (by omega) (by omega)
    rw [p7, show w = lo + (w - lo) by omega, p7]
    exact this
theorem near_flat {lo hi A D n d : Int} (hl : lo ≤ hi) : IsNear lo hi A 0 D n d lo := by
  have e : ∀ z, gap lo A 0 D n d z = A * d - n * D := fun z => by
    unfold gap
    rw [Int.zero_mul, Int.add_zero]
  exact ⟨Int.le_refl _, hl, fun w _ _ => by rw [e, e]; exact Nat.le_refl _, fun w _ _ => by omega⟩
theorem fdiv_mulP {k c e : Int} (hk : 0 < k) (he : e ≠ 0) : (k * c).fdiv (k * e) = c.fdiv e := by
  have pos : ∀ {c e : Int}, 0 < e → (k * c).fdiv (k * e) = c.fdiv e := fun {c e} he => by
    rw [Int.fdiv_eq_ediv_of_nonneg _ (Int.le_of_lt (Int.mul_pos hk he)), Int.fdiv_eq_ediv_of_nonneg _ (Int.le_of_lt he)]
    exact Int.mul_ediv_mul_of_pos c e hk
  rcases Int.lt_or_gt_of_ne he with h | h
  · rw [← Int.neg_fdiv_neg (k * c), ← Int.mul_neg, ← Int.mul_neg, pos (by omega), Int.neg_fdiv_neg]
  · exact pos h
theorem fdiv_terms {x y a b : Int} (hy : y ≠ 0) (hb : b ≠ 0) (h : x * b = y * a) : x.fdiv y = a.fdiv b := by
  have key : ∀ (k c e : Int), k ≠ 0 → e ≠ 0 → (k * c).fdiv (k * e) = c.fdiv e := fun k c e hk he => by
    rcases Int.lt_or_gt_of_ne hk with h | h
    · rw [← Int.neg_fdiv_neg, ← Int.neg_mul, ← Int.neg_mul]
      exact fdiv_mulP (by omega) he
    · exact fdiv_mulP h he
  have h1 := key b x y hb hy
  have h2 := key y a b hy hb
  rw [← h1, Int.mul_comm b x, Int.mul_comm b y, h, h2]
end L2.RL
end
section
set_option Elab.async false
set_option linter.all false
set_option maxRecDepth 100000
/-! lists that grow; enumerate from a number; a comprehension over range -/
namespace L2.RL
open PySem PySem.Spec PyProof.Rows
section
variable {K : PySem.W.Frag} {σ : St} {H : Hp} {Q : VK} {D : Ends}
theorem w_cat {a b : Addr} {xs ys : List V} (ha : H a = some (.lst xs)) (hb : H b = some (.lst ys)) (hl : xs.length + ys.length ≤ 100000) (h : ∀ p H', H p = none → Same H H' → H' p = some (.lst (xs ++ ys)) → Q (.ref p) H') : rCat (.ref a) (.ref b) H Q :=
  ⟨a, b, xs, ys, rfl, rfl, ha, hb, Nat.le_trans hl (by decide), fun p e => h p _ e (same_upd e) upd_same⟩
theorem w_append {a : Addr} {xs : List V} {y : V} (ha : H a = some (.lst xs)) (hl : xs.length < 100000) (h : Q .non (upd H a (.lst (xs ++ [y])))) : rAppend (.ref a) [y] H Q := ⟨a, xs, y, rfl, rfl, ha, Nat.lt_of_lt_of_le hl (by decide), h⟩
theorem w_enS {ta tk : TA} {R : It → Hp → Prop} (h : ta σ H fun vs H1 => tk σ H1 fun zs H2 => ∃ (a : Addr) (ys : List V) (k : Int), vs = [.ref a] ∧ zs = [.int k] ∧ SqL K H2 a ys ∧ (-(2 ^ 63) ≤ k ∧ k < 2 ^ 63) ∧ R (ItEn K a k) H2) : iEnS K ta tk σ H R := h
theorem w_bm {T : String} {r : V → List V → Hp → VK → Prop} {to : TE} {t : TA} (h : to σ H fun x H1 => tyV K T x H1 ∧ t σ H1 fun xs H2 => r x xs H2 Q) : tBM K T r to t σ H Q := h
theorem w_tyL {a : Addr} {xs : List V} {A : Prop} (hs : SqL K H a xs) (h : A) : tyV K "list" (.ref a) H ∧ A := ⟨.inl ⟨rfl, xs, hs⟩, h⟩
theorem w_forE {a : Addr} {k : Int} {xs : List V} {g : TG} {tb : TS} (I : Nat → St → Hp → Prop) (hs : ∀ i σ H, I i σ H → SqL K H a xs) (h0 : I 0 σ H)
    (h : ∀ i x σ H T H', xs[i]? = some x → I i σ H → H T = none → Same H H' → H' T = some (.tup [.int (k + (i : Nat)), x]) → g (.ref T) σ H' fun σ2 H2 => tb { D with nx := fun σ' H' => I (i + 1) σ' H', ct := fun σ' H' => I (i + 1) σ' H', bk := D.nx } σ2 H2)
    (hz : ∀ σ H, I xs.length σ H → D.nx σ H) :
    ∃ W : Nat → Nat → St → Hp → Prop, (∃ m, W 0 m σ H) ∧ ∀ i m σ H, W i m σ H →
      ((ItEn K a k).stop i H ∧ D.nx σ H) ∨ ((ItEn K a k).go i H ∧ ∃ N : St → Hp → Prop, (∀ σ' H', N σ' H' → ∃ m', m' < m ∧ W (i + 1) m' σ' H') ∧ ∀ x H', (ItEn K a k).yld i H x H' → g x σ H' fun σ2 H2 => tb { D with nx := N, ct := N, bk := D.nx } σ2 H2) :=
  w_forI xs.length I h0 (fun i σ H hi hI => by
    have q := hs i σ H hI
    refine ⟨⟨xs, xs[i], q, List.getElem?_eq_getElem hi⟩, fun v H' ⟨T, x, e1, n, e2, e3⟩ => ?_⟩
    subst e1 e2
    exact h i x σ H T _ (e3 xs q) hI n (same_upd n) upd_same) (fun σ H hI => ⟨⟨xs, hs _ σ H hI, Nat.le_refl _⟩, hz σ H hI⟩)
theorem w_lcR {lo : Int} {g : TG} {tt : TT} {te : TE} {vs : List Nat} {R : Addr → Hp → Prop} (n : Nat) (I : Nat → List V → Hp → Prop) (h0 : ∀ L, H L = none → I 0 [] (upd H L (.lst [])))
    (h : ∀ L i acc H2, H L = none → i < n → H2 L = some (.lst acc) → acc.length ≤ i → I i acc H2 → g (.int (lo + (i : Nat))) (wipe σ vs) H2 fun σ2 H2 => wipe σ2 vs = wipe σ vs ∧ tt σ2 H2 fun b H3 =>
      if b = true then te σ2 H3 fun y H4 => ∃ acc, H4 L = some (.lst acc) ∧ acc.length < sizeLine ∧ LcN L (i + 1) I (upd H4 L (.lst (acc ++ [y]))) else LcN L (i + 1) I H3)
    (hz : ∀ L acc H2, H L = none → H2 L = some (.lst acc) → I n acc H2 → R L H2) :
    ∀ L, H L = none → ∃ W : Nat → Nat → Hp → Prop, (∃ m, W 0 m (upd H L (.lst []))) ∧ ∀ i m H, W i m H →
      ((Itr lo n).stop i H ∧ R L H) ∨ ((Itr lo n).go i H ∧ ∃ Nx : Hp → Prop, (∀ H', Nx H' → ∃ m', m' < m ∧ W (i + 1) m' H') ∧ ∀ x H', (Itr lo n).yld i H x H' → g x (wipe σ vs) H' fun σ2 H2 => wipe σ2 vs = wipe σ vs ∧ tt σ2 H2 fun b H3 =>
        if b = true then te σ2 H3 fun y H4 => ∃ acc, H4 L = some (.lst acc) ∧ acc.length < sizeLine ∧ Nx (upd H4 L (.lst (acc ++ [y]))) else Nx H3) :=
  w_lcI n I h0 (fun L i acc H2 a1 a2 a3 a4 a5 => ⟨a2, fun x H' ⟨e1, e2⟩ => by subst e1 e2; exact h L i acc _ a1 a2 a3 a4 a5⟩) (fun L acc H2 a1 a2 a3 => ⟨Nat.le_refl n, hz L acc H2 a1 a2 a3⟩)
end
end L2.RL
end
section
set_option Elab.async false
set_option linter.all false
set_option maxRecDepth 100000
/-! == and != of numbers and pairs; lowest terms are one's own; nearest by hand -/
namespace L2.RL
open PySem PySem.Spec PyProof.Rows
section
variable {K : PySem.W.Frag} {H : Hp} {Q : VK}
theorem eqv_pair (a b c d : Int) : PyData.eqv (.tuple [.int a, .int b]) (.tuple [.int c, .int d]) = decide (a = c ∧ b = d) := by
  show (a == c && (b == d && true)) = _
  by_cases h : a = c <;> by_cases g : b = d <;> simp [h, g]
theorem dp_pair {p : Addr} {a b : Int} (h : SqT K H p [.int a, .int b]) : Dp K H (.ref p) (.tuple [.int a, .int b]) := .tup h (.cons (.int a) (.cons (.int b) .nil))
theorem w_eqP {p q : Addr} {a b c d : Int} (hp : SqT K H p [.int a, .int b]) (hq : SqT K H q [.int c, .int d]) (h : Q (.bl (decide (a = c ∧ b = d))) H) : rEqD K (.ref p) (.ref q) H Q :=
  ⟨_, _, dp_pair hp, dp_pair hq, rfl, rfl, by rw [eqv_pair]; exact h⟩
theorem w_neP {p q : Addr} {a b c d : Int} (hp : SqT K H p [.int a, .int b]) (hq : SqT K H q [.int c, .int d]) (h : Q (.bl (!decide (a = c ∧ b = d))) H) : rNeD K (.ref p) (.ref q) H Q :=
  ⟨_, _, dp_pair hp, dp_pair hq, rfl, rfl, by rw [eqv_pair]; exact h⟩
theorem eqv_int (a b : Int) : PyData.eqv (.int a) (.int b) = decide (a = b) := by
  show (a == b) = _
  by_cases h : a = b <;> simp [h]
theorem w_eqDI {a b : Int} (h : Q (.bl (decide (a = b))) H) : rEqD K (.int a) (.int b) H Q := ⟨_, _, .int a, .int b, rfl, rfl, by rw [eqv_int]; exact h⟩
theorem w_neDI {a b : Int} (h : Q (.bl (!decide (a = b))) H) : rNeD K (.int a) (.int b) H Q := ⟨_, _, .int a, .int b, rfl, rfl, by rw [eqv_int]; exact h⟩
end
theorem near_by {lo hi A S D n d z v c k m : Int} (h : IsNear lo hi A S D n d z) (hc : c ≠ 0) (e : ∀ x, gap lo A S D n d x = c * (k * (x - v) - m)) :
    (∀ w, lo ≤ w → w ≤ hi → (k * (z - v) - m).natAbs ≤ (k * (w - v) - m).natAbs) ∧ ∀ w, lo ≤ w → w < z → (k * (z - v) - m).natAbs < (k * (w - v) - m).natAbs := by
  have p : 0 < c.natAbs := by omega
  refine ⟨fun w w0 w1 => ?_, fun w w0 w1 => ?_⟩
  · have := h.least w w0 w1
    rw [e, e, Int.natAbs_mul, Int.natAbs_mul] at this
    exact Nat.le_of_mul_le_mul_left this p
  · have := h.first w w0 w1
    rw [e, e, Int.natAbs_mul, Int.natAbs_mul] at this
    exact Nat.lt_of_mul_lt_mul_left this
end L2.RL
end
section
set_option Elab.async false
set_option linter.all false
set_option maxRecDepth 100000
set_option maxHeartbeats 4000000
/-! own exceptions right under any built-in error class, their __init__ walked as a def -/
namespace PySem
namespace RLX
open PySem.W PySem.Calls PyProof.Rows PySem.HandSPX
section
open Builtin Builtin.ObjectAttr
variable {prog : Program} {w : World} {A : Around} {R : Result → Shared → Prop} {hp : Heap} {gn : Array GenState} {dr : Drawn} {tt : Nat} {os : OsState}
variable {K : W.Frag} {B : String} {bm : List Value} {f : Str} {tk : Tok} {y : Value} {e C : Addr} {fv : Array Value} {cd : ClassData}
theorem ahead (S : StoreFacts B bm "object.__setattr__" "object") (X : K.In hp) {od : Option Addr} {oo : Option Obj} (I : W.InstAt hp e { cls := .ref C, dict := od, data := .fields fv } C oo) (hcd : W.clsIn K C = some cd) (hm : cd.mro = .ref C :: bm) (ha : W.findIn K (.ref C) f = some none)
    (h : wpAny (model prog w) A.in1 (storeInOwnDict (.ref e) (.ref C) (.str f tk) f y false)
      (fun fin s' => match fin with | .done z => R (.ok z) s' | .again c' => c'.quiet = true ∧ codeAny (model prog w) A c' R s') (fun x s' => R (.error x) s') ⟨hp, gn, dr, tt, os⟩) :
    codeAny (model prog w) A (.call (.builtin "object.__setattr__") ⟨[.ref e, .str f tk, y], []⟩) R ⟨hp, gn, dr, tt, os⟩ := by
  have SF := F.store_object
  have n0 : cd.mro.isEmpty = false := by rw [hm]; rfl
  have n1 : cd.mro.contains (.type "object") = true := by
    rw [hm, List.contains_cons, S.hasOwner, Bool.or_true]
  have q1 : W.Looks (model prog w) hp (isInstance (.ref e) (.type "object")) true :=
    I.type.andThen (W.looks_mroIn X (by unfold W.mroIn; rw [hcd, Option.bind_some, if_neg (by rw [n0]; exact Bool.false_ne_true), n1]))
  have q2 : W.Looks (model prog w) hp (mroOf (.ref C)) cd.mro := (W.looks_clsIn X hcd).andThen .now
  have q3 : W.Looks (model prog w) hp (storeTaker? none) none := .now
  refine codeAny_call_builtin SF.slot.plain SF.entry (@W.check_slot (model prog w) _ _ ⟨hp, gn, dr, tt, os⟩ "object.__setattr__" "object" "__setattr__" (.ref e) [.str f tk, y] [] _ SF.kind SF.split q1 (SF.args (.ref e) (.str f tk) y) ?_)
  rw [W.osa_eq, refuse_eq]
  refine wpAny_bind (wpAny_bind (I.type.at (wpAny_bind (q2.at ?_))))
  rw [hm, refuseLoop_ref, S.passes]
  exact wpAny_pure (wpAny_bind (I.type.at (wpAny_bind ((W.looks_findIn X ha).at (wpAny_bind (q3.at h))))))
theorem store1 (S : StoreFacts B bm "object.__setattr__" "object") (X : K.In hp) (hx : hp.get? e = some { cls := .ref C, data := .fields fv }) (hcd : W.clsIn K C = some cd) (hm : cd.mro = .ref C :: bm) (hh : cd.hasDict = true) (ha : W.findIn K (.ref C) f = some none)
    (hq : ∀ h' tk' dx, (∀ b o, b ≠ e → hp.get? b = some o → h'.get? b = some o) → hp.objs.size ≤ dx → dx ≠ e → h'.get? e = some { cls := .ref C, dict := some dx, data := .fields fv } →
      h'.Ns1 dx (fun z => if z = f then some y else none) → R (.ok (.ret .none)) ⟨h', gn, dr, tk', os⟩) :
    codeAny (model prog w) A (.call (.builtin "object.__setattr__") ⟨[.ref e, .str f tk, y], []⟩) R ⟨hp, gn, dr, tt, os⟩ := by
  have ne : e ≠ hp.objs.size := Nat.ne_of_lt (Heap.lt_size hx)
  have q0 : W.Looks (model prog w) hp (classData C) cd := W.looks_clsIn X hcd
  refine ahead S X (od := none) (oo := none) ⟨hx, rfl, rfl, trivial⟩ hcd hm ha ?_
  obtain ⟨nm, bs, mro, ns, qn, hd, sn, sb, ab, col, del⟩ := cd
  obtain rfl : hd = true := hh
  unfold storeInOwnDict ownDictForStores
  repeat (first | with_reducible refine store_in_new ?_ ?_ | with_reducible refine wpAny_loadPart_at hx ?_ | with_reducible refine q0.at ?_ | wp_step)
  · exact ⟨_, #[], _, (Heap.get?_update_ne _ _ _ _ (Ne.symm ne)).trans (Heap.get?_push_at rfl rfl), rfl, fun z hz => absurd hz (by simp), fun _ => rfl⟩
  intro h' tk' hn hs
  have h1 : (hp.push { cls := .type "dict", data := .dict #[] }).get? e = some { cls := .ref C, data := .fields fv } := Heap.get?_push_of_some _ hx
  refine hq h' tk' hp.objs.size (fun b o hb ho => ?_) (Nat.le_refl _) (Ne.symm ne) ((hs.2 e ne).trans (Heap.get?_update_self _ h1 rfl)) hn
  have nb : b ≠ hp.objs.size := Nat.ne_of_lt (Heap.lt_size ho)
  exact (hs.2 b nb).trans ((Heap.get?_update_ne _ _ _ _ hb).trans (Heap.get?_push_of_some _ ho))
theorem store2 {dx : Addr} {m0 : Str → Option Value} {nl : List Str} (S : StoreFacts B bm "object.__setattr__" "object") (X : K.In hp) (hx : hp.get? e = some { cls := .ref C, dict := some dx, data := .fields fv }) (hns : hp.Ns1 dx m0) (hw : Within m0 nl) (hz : nl.length ≤ 1000)
    (hcd : W.clsIn K C = some cd) (hm : cd.mro = .ref C :: bm) (hh : cd.hasDict = true) (ha : W.findIn K (.ref C) f = some none)
    (hq : ∀ h' tk', (∀ b o, b ≠ dx → hp.get? b = some o → h'.get? b = some o) → h'.Ns1 dx (fun z => if z = f then some y else m0 z) → R (.ok (.ret .none)) ⟨h', gn, dr, tk', os⟩) :
    codeAny (model prog w) A (.call (.builtin "object.__setattr__") ⟨[.ref e, .str f tk, y], []⟩) R ⟨hp, gn, dr, tt, os⟩ := by
  obtain ⟨od, _, _, g1, _, _⟩ := hns.count hw
  have q0 : W.Looks (model prog w) hp (classData C) cd := W.looks_clsIn X hcd
  refine ahead S X (od := some dx) (oo := some od) ⟨hx, rfl, rfl, g1⟩ hcd hm ha ?_
  obtain ⟨nm, bs, mro, ns, qn, hd, sn, sb, ab, col, del⟩ := cd
  obtain rfl : hd = true := hh
  unfold storeInOwnDict ownDictForStores
  repeat (first | with_reducible refine PySem.OEX.store_in_old hns hw hz ?_ | with_reducible refine wpAny_loadPart_at hx ?_ | with_reducible refine q0.at ?_ | wp_step)
  intro h' tk' hn hs
  exact hq h' tk' (fun b o nb ho => (hs.2 b nb).trans ho) hn
end
end RLX
end PySem
end
section
set_option Elab.async false
set_option linter.all false
set_option maxRecDepth 100000
set_option maxHeartbeats 4000000
/-! .. as rules of the hand layer -/
namespace L2.RL
open PySem PySem.Spec PyProof.Rows
structure ErrB (B newId initId : String) (bm : List Value) : Prop where
  st : StoreFacts B bm "object.__setattr__" "object"
  ex : ExcBaseFacts B newId initId bm
  boot : bootBuiltins (Str.ofString B) = some (.type B)
  ty : typeOf (.type B) = pure (.type "type")
  stub : Manifest.isStub B = false
  nn : Str.ofString B ≠ "__name__"
  nd : (Str.ofString B == ("__debug__" : Str)) = false
  hand : PySem.W.handedIn (.builtin initId) = true
abbrev bmV : List Value := [.type "ValueError", .type "Exception", .type "BaseException", .type "object"]
abbrev bmT : List Value := [.type "TypeError", .type "Exception", .type "BaseException", .type "object"]
abbrev bmL : List Value := [.type "LookupError", .type "Exception", .type "BaseException", .type "object"]
abbrev bmA : List Value := [.type "ArithmeticError", .type "Exception", .type "BaseException", .type "object"]
abbrev bmO : List Value := [.type "OverflowError", .type "ArithmeticError", .type "Exception", .type "BaseException", .type "object"]
theorem errV : ErrB "ValueError" "ValueError.__new__" "ValueError.__init__" bmV := ⟨F.store_ValueError, F.excBase_ValueError, Boot.«ValueError», by kernel_rfl, by decide +kernel, by decide, by decide, by decide +kernel⟩
theorem errT : ErrB "TypeError" "TypeError.__new__" "TypeError.__init__" bmT := ⟨F.store_TypeError, F.excBase_TypeError, Boot.«TypeError», by kernel_rfl, by decide +kernel, by decide, by decide, by decide +kernel⟩
theorem errL : ErrB "LookupError" "LookupError.__new__" "LookupError.__init__" bmL := ⟨F.store_LookupError, F.excBase_LookupError, Boot.«LookupError», by kernel_rfl, by decide +kernel, by decide, by decide, by decide +kernel⟩
theorem errA : ErrB "ArithmeticError" "ArithmeticError.__new__" "ArithmeticError.__init__" bmA := ⟨F.store_ArithmeticError, F.excBase_ArithmeticError, Boot.«ArithmeticError», by kernel_rfl, by decide +kernel, by decide, by decide, by decide +kernel⟩
theorem errO : ErrB "OverflowError" "OverflowError.__new__" "OverflowError.__init__" bmO := ⟨F.store_OverflowError, F.excBase_OverflowError, Boot.«OverflowError», by kernel_rfl, by decide +kernel, by decide, by decide, by decide +kernel⟩
structure OexB (K : PySem.W.Frag) (newId : String) (bm : List Value) (C : Addr) : Prop where
  cls : ∃ nm q N bs sn sub ab col dd k0 k1 k2 k3 k5, K.lookup C = some (excClassObj nm q C N bs bm true sn sub ab col dd k0 k1 k2 k3 k5 newId)
  sa : PySem.W.findIn K (.ref C) "__setattr__" = some (some (.builtin "object.__setattr__"))
  exC : PySem.W.subIn K (.ref C) (.type "BaseException") = some true
  tyC : PySem.W.typeIn K (.ref C) = some (.type "type")
  kC : PySem.W.keepIn K (.ref C) = true
def clsB (K : PySem.W.Frag) (newId : String) (bm : List Value) (C : Addr) : Bool := match K.lookup C with
  | some ⟨.type c, _, .cls cd, sl⟩ => (match cd.mro, sl.toList with
    | .ref D :: m, [_, _, _, _, some (.builtin n), _] => decide (c = "type") && (D == C && (m == bm && (n == newId && (cd.hasDict && !cd.hasDel))))
    | _, _ => false)
  | _ => false
theorem clsB_ok {K : PySem.W.Frag} {newId : String} {bm : List Value} {C : Addr} (h : clsB K newId bm C = true) : ∃ nm q N bs sn sub ab col dd k0 k1 k2 k3 k5, K.lookup C = some (excClassObj nm q C N bs bm true sn sub ab col dd k0 k1 k2 k3 k5 newId) := by
  unfold clsB at h
  split at h
  · rename_i c dd cd sl ho
    split at h
    · rename_i D m k0 k1 k2 k3 n k5 hm hs
      obtain ⟨h1, h⟩ := He.ba h
      obtain ⟨h2, h⟩ := He.ba h
      obtain ⟨h3, h⟩ := He.ba h
      obtain ⟨h4, h⟩ := He.ba h
      obtain ⟨h5, h6⟩ := He.ba h
      obtain rfl := of_decide_eq_true h1
      obtain rfl : D = C := by simpa using h2
      obtain rfl : m = bm := by simpa using h3
      obtain rfl : n = newId := by simpa using h4
      obtain ⟨nm, bs, mro, ns, qn, hd, sn, sub, ab, col, del⟩ := cd
      dsimp only at hm h5 h6
      subst hm h5
      obtain rfl : del = false := by simpa using h6
      obtain ⟨l⟩ := sl
      dsimp only at hs
      subst hs
      exact ⟨nm, qn, ns, bs, sn, sub, ab, col, dd, k0, k1, k2, k3, k5, ho⟩
    · cases h
  · cases h
def oexB (K : PySem.W.Frag) (newId : String) (bm : List Value) (C : Addr) : Bool := clsB K newId bm C && (decide (PySem.W.findIn K (.ref C) "__setattr__" = some (some (.builtin "object.__setattr__"))) && (decide (PySem.W.subIn K (.ref C) (.type "BaseException") = some true) && (decide (PySem.W.typeIn K (.ref C) = some (.type "type")) && PySem.W.keepIn K (.ref C))))
theorem oexB_ok {K : PySem.W.Frag} {newId : String} {bm : List Value} {C : Addr} (h : oexB K newId bm C = true) : OexB K newId bm C := by
  obtain ⟨h1, h⟩ := He.ba h
  obtain ⟨h2, h⟩ := He.ba h
  obtain ⟨h3, h⟩ := He.ba h
  obtain ⟨h4, h5⟩ := He.ba h
  exact ⟨clsB_ok h1, of_decide_eq_true h2, of_decide_eq_true h3, of_decide_eq_true h4, h5⟩
section
variable {X : Cx} {pins : List (Addr × Obj)} {σ : St} {H : Hp} {s : Shared} {a C dx : Addr} {f : Str} {y : V} {u : Value} {fs : List (Str × V)} {B newId initId : String} {bm : List Value}
theorem OexB.clsIn {K : PySem.W.Frag} (T : OexB K newId bm C) : ∃ cd, PySem.W.clsIn K C = some cd ∧ cd.mro = .ref C :: bm ∧ cd.hasDict = true := by
  obtain ⟨nm, q, N, bs, sn, sub, ab, col, dd, k0, k1, k2, k3, k5, h⟩ := T.cls
  exact ⟨_, by unfold PySem.W.clsIn; rw [h] <;> rfl, rfl, rfl⟩
theorem set_first {Q : Unit → Shared → Prop} {E : Value → Shared → Prop} {A : Around} (G : ErrB B newId initId bm) (T : OexB X.K newId bm C) (I : Inv X pins σ H s) (e : H a = some (exo a C none)) (hno : PySem.W.findIn X.K (.ref C) f = some none) (ry : RelV y u)
    (h : ∀ dx s', H dx = none → dx ≠ a → Inv X pins σ (upd (upd H dx (exd dx [(f, y)])) a (exo a C (some dx))) s' → Q () s') : wpAny (model X.prog X.w) A (setAttr (.ref a) f u) Q E s := by
  obtain ⟨cd, c1, c2, c3⟩ := T.clsIn
  obtain ⟨t1, ho⟩ := exo_at I.hok e
  obtain ⟨hp, g, d, t, os⟩ := s
  refine PySem.W.set_plain I.kIn (ox := { cls := .ref C, dict := none, data := .fields #[.ref t1, .none, .none, .none, .bool false, .none] }) (od := none) ⟨ho, rfl, rfl, trivial⟩ T.sa (PySem.RLX.store1 G.st I.kIn ho c1 c2 c3 hno fun h' tk' dx k dn dne hx hn => ?_)
  have n0 : H dx = none := I.hok.fresh dn
  have ndx : ∀ {b : Addr} {o : Obj}, hp.get? b = some o → b ≠ dx := fun {b o} q => Nat.ne_of_lt (Nat.lt_of_lt_of_le (Heap.lt_size q) dn)
  have na : ∀ {b : Addr}, H b = none → b ≠ a := fun {b} q => (ne_of_none e q).symm
  refine h dx _ n0 dne (I.un (t' := tk') ⟨fun b o q n _ _ => k b o (na n) q, fun b o q n _ _ => ⟨o.slots, k b o (na n) q⟩, fun b o q n _ => ?_, fun b o q _ => ?_, fun b xs q => ?_, fun b o v q => ?_, fun b ps q => ?_⟩ fun b o q => ?_)
  · rw [upd_ne (na n), upd_ne (ndx q), n]
  · by_cases hb : b = a
    · rw [hb]
      exact ⟨_, hx⟩
    · exact ⟨o, k b o hb q⟩
  · rw [upd_ne (at_ne e q exo_tup), upd_ne (ne_of_none q n0), q]
  · rw [upd_ne (at_ne e q exo_frz), upd_ne (ne_of_none q n0), q]
  · refine ⟨#[], ?_⟩
    rw [upd_ne (at_ne e q exo_tbl), upd_ne (ne_of_none q n0), q, Array.append_empty]
  · by_cases hb : b = a
    · subst hb
      rw [upd_same] at q
      cases q
      exact exo_ok hx
    rw [upd_ne hb] at q
    by_cases hd : b = dx
    · subst hd
      rw [upd_same] at q
      cases q
      exact exd_ok hn (relO_put (fs := []) ry fun _ => trivial)
    rw [upd_ne hd] at q
    refine (I.hok b o q).stay (fun c v hc z => k c v ?_ z) (fun c hc => ?_) fun c xs hc => ?_
    · rcases hc with hc | hc
      · rw [hc]; exact hb
      · exact at_ne e hc exo_own
    · rw [upd_ne (at_ne e hc exo_own), upd_ne (ne_of_none hc n0), hc]
    · rw [upd_ne (at_ne e hc exo_tup), upd_ne (ne_of_none hc n0), hc]
theorem set_more {Q : Unit → Shared → Prop} {E : Value → Shared → Prop} {A : Around} (G : ErrB B newId initId bm) (T : OexB X.K newId bm C) (I : Inv X pins σ H s) (e : H a = some (exo a C (some dx))) (ed : H dx = some (exd dx fs)) (hl : fs.length ≤ 900) (hno : PySem.W.findIn X.K (.ref C) f = some none) (ry : RelV y u)
    (h : ∀ s', Inv X pins σ (upd H dx (exd dx ((f, y) :: fs))) s' → Q () s') : wpAny (model X.prog X.w) A (setAttr (.ref a) f u) Q E s := by
  obtain ⟨cd, c1, c2, c3⟩ := T.clsIn
  obtain ⟨t1, ho⟩ := exo_at I.hok e
  obtain ⟨mA, hns, rel⟩ := exd_at I.hok ed
  have hw := within_of rel
  obtain ⟨hp, g, d, t, os⟩ := s
  obtain ⟨oD, _, _, hoD, _, _⟩ := hns.count hw
  refine PySem.W.set_plain I.kIn (ox := { cls := .ref C, dict := some dx, data := .fields #[.ref t1, .none, .none, .none, .bool false, .none] }) (od := some oD) ⟨ho, rfl, rfl, hoD⟩ T.sa
    (PySem.RLX.store2 G.st I.kIn ho hns hw (by rw [List.length_map]; omega) c1 c2 c3 hno fun h' tk' k hn => ?_)
  obtain ⟨o1, es1, ep1, g1, g2⟩ := hn
  exact h _ (I.write (t' := tk') (x := dx) (e := dx) (o := exd dx ((f, y) :: fs)) (by rw [ed]; trivial) (.inl rfl) k ⟨o1, g1⟩ (exd_ok ⟨o1, es1, ep1, g1, g2⟩ (relO_put ry rel)))
theorem base_init {us : List Value} {Q : Value → Shared → Prop} {E : Value → Shared → Prop} {A : Around} (G : ErrB B newId initId bm) (T : OexB X.K newId bm C) (I : Inv X pins σ H s) (e : H a = some (exo a C none)) (hl : us.length ≤ sizeLine) (h : ∀ s', Inv X pins σ H s' → Q .none s') :
    wpAny (model X.prog X.w) A (call (.builtin initId) (.ref a :: us)) Q E s := by
  obtain ⟨nm, q, N, bs, sn, sub, ab, col, dd, k0, k1, k2, k3, k5, hC⟩ := T.cls
  obtain ⟨t1, ho⟩ := exo_at I.hok e
  obtain ⟨hp, g, d, t, os⟩ := s
  refine wpAny_call (PySem.HandSPX.init_base G.ex (fun _ => rfl) (I.kIn _ _ hC) ho hl fun h' t2 k hx => ?_)
  have J := I.write (t' := t) (x := a) (e := a) (o := exo a C none) (by rw [e]; trivial) (.inl rfl) k ⟨_, hx⟩ (exo_ok hx)
  have eu : upd H a (exo a C none) = H := funext fun b => by
    by_cases hb : b = a
    · rw [hb, upd_same, e]
    · exact upd_ne hb
  rw [eu] at J
  exact h _ J
end
end L2.RL
end
section
set_option Elab.async false
set_option linter.all false
set_option maxRecDepth 100000
set_option maxHeartbeats 4000000
/-! the rules: B.__init__(self, ..), self.f = e, C(e, ..), isinstance of the caught error -/
namespace L2.RL
open PySem PySem.Spec PyProof.Rows
def tBI (K : PySem.W.Frag) (newId : String) (bm : List Value) (ta : TA) : TE := fun σ H Q => ta σ H fun vs H1 => ∃ (a C : Addr) (ws : List V), vs = .ref a :: ws ∧ ws.length ≤ 1000 ∧ OexB K newId bm C ∧ H1 a = some (exo a C none) ∧ Q .non H1
def tSetB (K : PySem.W.Frag) (newId : String) (bm : List Value) (f : Str) (to te : TE) : TS := fun D σ H => te σ H fun y H1 => to σ H1 fun x H2 => ∃ a C : Addr, x = .ref a ∧ OexB K newId bm C ∧ PySem.W.findIn K (.ref C) f = some none ∧
  ((H2 a = some (exo a C none) ∧ ∀ dx, H2 dx = none → dx ≠ a → D.nx σ (upd (upd H2 dx (exd dx [(f, y)])) a (exo a C (some dx)))) ∨
    ∃ (dx : Addr) (fs : List (Str × V)), H2 a = some (exo a C (some dx)) ∧ H2 dx = some (exd dx fs) ∧ fs.length ≤ 900 ∧ D.nx σ (upd H2 dx (exd dx ((f, y) :: fs))))
section
variable {X : Cx} {o e : Expr} {es : List Expr} {to te : TE} {ta : TA} {f : Str} {p p' p1 p2 pos : Pos} {B newId initId : String} {bm : List Value}
theorem pe_binit {nm : Str} {pl : Sem Bool} (G : ErrB B newId initId bm) (en : Str.ofString B = nm) (hg : Gl X nm) (hm : X.mg nm = none) (vV : PySem.W.findCls X.K (.type B) (.type "type") "__init__" = some (.val (.builtin initId))) (ha : PA X (e :: es) ta)
    (hc : eval (.Call (.Attribute (.Name nm p1) "__init__" p2) (e :: es) [] pos) X.env = (do
      let ov ← eval (.Name nm p1) X.env
      standAt p2.atName
      let (f, first) ← holding [ov] (getMethod ov "__init__" pl)
      callWith pos f first (backTo pos (starEach (e :: es) X.env)) (backToKw pos (keywordEach [] X.env))) := by rfl)
    (he : starEach (e :: es) X.env = (false, eval e X.env) :: starEach es X.env := by rfl) (hpl : (backTo pos (starEach es X.env)).any (·.1) = false := by rfl) :
    PE X (.Call (.Attribute (.Name nm p1) "__init__" p2) (e :: es) [] pos) (tBI X.K newId bm ta) := by
  subst en
  refine ⟨fun pins s σ H Q I h => PySem.W.methodCall_KW (ld_blt I hg hm G.boot ?_ G.nn G.nd) hc⟩
  obtain ⟨m, fr⟩ := I.fr
  refine PySem.W.method_type fr I.ok.mod.kin G.ty G.stub vV G.hand ?_
  refine PyProof.Rows.callWith_method1 (thn (ha.run pos pins _ σ H _ (I.tok _) h) fun us s1 ⟨vs, H1, I1, r1, a, C, ws, ev, hl, T, ea, q⟩ => ?_) he hpl
  subst ev
  cases r1 with
  | @cons _ u0 _ ur ra rw' =>
    obtain rfl : u0 = Value.ref a := ra
    have hlen : ur.length ≤ sizeLine := by rw [← Paired.length rw', sizeLine_eq]; omega
    exact base_init G T I1 ea hlen fun s' J => ⟨.non, H1, J, rfl, q⟩
theorem ps_setB (G : ErrB B newId initId bm) (ho : PE X o to) (he : PE X e te) (hs : swapsWith e (some (.Attribute o f p')) pos.line X.env = pure false := by rfl) : PS X (.Assign [.Attribute o f p'] e pos) (tSetB X.K newId bm f to te) := by
  refine ⟨fun pins s σ H D I h => plainObj_wpAny_Assign_Attribute (thn (he.run pins s σ H _ I h) fun v s1 ⟨y, H1, I1, r1, q1⟩ => thn (ho.run pins s1 σ H1 _ I1 q1) fun u s2 ⟨x, H2, I2, r2, a, C, ex, T, hno, q⟩ => ?_) hs⟩
  subst ex
  obtain rfl : u = Value.ref a := r2
  rcases q with ⟨ea, q⟩ | ⟨dx, fs, ea, ed, hl, q⟩
  · exact set_first G T I2 ea hno r1 fun dx s' n ne J => ⟨σ, _, J, q dx n ne⟩
  · exact set_more G T I2 ea ed hl hno r1 fun s' J => ⟨σ, _, J, q⟩
theorem pmk_oexB {CX : CXT} {x : Str} {C fI : Addr} {k : Nat} {fd : FuncData} {ps : List Str} {sp : Sp} {ds : List Value} {dvs : List V} (G : ErrB B newId initId bm) (T : OexB X.K newId bm C) (iC : PySem.W.findIn X.K (.ref C) "__init__" = some (some (.ref fI))) (tI : PySem.W.typeIn X.K (.ref fI) = some (.type "function"))
    (F1 : FnOk X.prog X.w X.K X.mg X.base CX k fI fd ps sp) (hr : Room (k + 1) X.A) (hb : Binds X.K fd ps ds) (hd : Vals dvs ds) (hx : Passes CX X (fun _ _ _ => False)) (hg : Gl X x) (hm : X.mg x = some (.ref C)) (ha : PA X (e :: es) ta)
    (hdb : (x == ("__debug__" : Str)) = false := by decide) (he : starEach (e :: es) X.env = (false, eval e X.env) :: starEach es X.env := by rfl) (hpl : (backTo pos (starEach es X.env)).any (·.1) = false := by rfl) :
    PMk X (.Call (.Name x p) (e :: es) [] pos) (tMkO C sp dvs ta) := by
  intro pins s σ H Q I h
  obtain ⟨nm, q, N, bs, sn, sub, ab, col, dd, k0, k1, k2, k3, k5, hC⟩ := T.cls
  refine wpAny_Call_Name_kw (ld_glob I hg hm (PySem.W.callWith_K (h₀ := X.base) I.ok.mod.kin T.kC (thn (ha.run pos pins s σ H _ I h) fun us s1 ⟨vs, H1, I1, r1, hz, q1⟩ => ⟨I1.kIn, ?_⟩) he hpl) hdb)
  change wpAny _ _ (call (.ref C) us) _ _ _
  obtain ⟨hp, g, dr, tk, os⟩ := s1
  have sz1 : hp.objs.size ≤ hp.objs.size + 1 := Nat.le_succ _
  have n1 : H1 (hp.objs.size + 1) = none := I1.hok.fresh sz1
  have hq := q1 (hp.objs.size + 1) n1
  have kk : ∀ b o, hp.get? b = some o → ((hp.push (PySem.W.kdv_tup us)).push (PySem.HandSPX.excO C hp.objs.size)).get? b = some o := fun b o z => Heap.get?_push_of_some _ (Heap.get?_push_of_some _ z)
  have at1 : ((hp.push (PySem.W.kdv_tup us)).push (PySem.HandSPX.excO C hp.objs.size)).get? (hp.objs.size + 1) = some (PySem.HandSPX.excO C hp.objs.size) := by heap_get
  have I2 : Inv X pins σ (upd H1 (hp.objs.size + 1) (exo (hp.objs.size + 1) C none)) ⟨(hp.push (PySem.W.kdv_tup us)).push (PySem.HandSPX.excO C hp.objs.size), g, dr, tk, os⟩ := I1.laid (t' := tk) (h' := (hp.push (PySem.W.kdv_tup us)).push (PySem.HandSPX.excO C hp.objs.size)) kk sz1 (exo_ok at1)
  have r2 : Vals (V.ref (hp.objs.size + 1) :: (vs ++ dvs)) (Value.ref (hp.objs.size + 1) :: (us ++ ds)) := .cons rfl (r1.append hd)
  have hl : (Value.ref (hp.objs.size + 1) :: us ++ ds).length = ps.length := (r2.length.symm.trans (F1.len _ _ _ _ hq))
  have hus : us.length ≤ sizeLine := by rw [← Paired.length r1, sizeLine_eq]; omega
  refine wpAny_call (PySem.HandSPX.call_own G.ex (fun _ => rfl) (I1.kIn _ _ hC) (PySem.W.looks_findIn I1.kIn iC) (fun self => PySem.W.bind_fn I1.kIn self tI) hus
    (codeAny_mono (F1.run _ X.stack _ _ ⟨Value.ref (hp.objs.size + 1) :: us, []⟩ (Value.ref (hp.objs.size + 1) :: (us ++ ds)) _ _ (fun _ _ _ => False) (hr.make C us []) (I2.env0.make C us []) (hb _ (Value.ref (hp.objs.size + 1) :: us) I2.kIn hl) r2 hq) fun r s' z => ?_))
  cases r with
  | error er => exact hx pins σ _ _ er s' I2 z
  | ok fl =>
    cases fl with
    | ret u =>
      obtain ⟨v, H2, os2, bare2, un2, hok2, rv, ev, d, fs, ea, ed, hd1, q2⟩ := z
      subst ev
      obtain ⟨h2, g2, d2, t2, os'⟩ := s'
      exact ⟨rv, mk_end (raises_own T.exC T.tyC) I1 sz1 kk un2 hok2 os2 bare2 ea ed hd1 q2⟩
    | next => exact False.elim z
    | brk => exact False.elim z
    | cont => exact False.elim z
end
def rIsX (K : PySem.W.Frag) (a : Addr) (cls : Value) (d : Option Addr) (D : Addr) : List V → Hp → VK → Prop := fun xs H Q => ∃ (c : V) (cv : Value) (b : Bool) (dd : Addr) (fs : List (Str × V)), xs = [.ref a, c] ∧ cls = .ref D ∧ d = some dd ∧ H dd = some (.xd fs) ∧ (∀ u, RelV c u → u = cv) ∧ PySem.W.kitOne K (.ref D) cv = some b ∧ Q (.bl b) H
theorem call_isX {X : Cx} {a D : Addr} {oe : Obj} {cls : Value} {d : Option Addr} {pn : List (Addr × Obj)} (C : ExcC X.K D) (hz : Zc cls d oe) (hf : ∃ vs, oe.data = .fields vs) : CallR (X.suite a ((a, oe) :: pn)) (.builtin "isinstance") (rIsX X.K a cls d D) := by
  intro pins s σ H xs us Q I r h
  obtain ⟨c, cv, b, dd, fs, rfl, rfl, rfl, ea, hcv, ek, q⟩ := h
  obtain ⟨u1, u2, rfl, ra, rc⟩ := vals2 r
  obtain rfl : u1 = Value.ref a := ra
  have e2 := hcv _ rc
  subst e2
  obtain ⟨g1, _⟩ := I.pin (a, oe) (List.mem_append_left _ List.mem_cons_self)
  obtain ⟨vs, hv⟩ := hf
  have ox : ObjOk X.prog X.w H s.heap dd (.xd fs) := I.hok dd _ ea
  obtain ⟨mA, ⟨od, es, ep, g2, g3⟩, _⟩ := ox
  have J : PySem.W.InstAt s.heap a oe D (some od) := ⟨g1, hz.1, by unfold PySem.W.notCls; rw [hv] <;> rfl, by rw [hz.2]; exact g2⟩
  obtain ⟨cd, k1, _⟩ := PySem.W.any_some C.hd
  exact PySem.W.kia_one (PySem.W.kitx_exc (by rw [k1]; rfl) C.hg C.hk C.hs C.ha C.hn C.ht C.hm) I.kIn J ek (fun z => nomatch z) fun tk => ⟨.bl b, H, I.kept (t' := tk) fun _ _ z => z, rfl, q⟩
end L2.RL
end
section
set_option Elab.async false
set_option linter.all false
set_option maxRecDepth 100000
set_option maxHeartbeats 2000000
/-! data with lists, tuples and two small dicts, all of it at addresses of B; repr of it -/
namespace L2.RL
open PySem PySem.Spec PyProof.Rows
mutual
inductive Dq (H : Hp) (B : Addr → Prop) : V → PyData → Prop
  | non : Dq H B .non .none
  | bl (b : Bool) : Dq H B (.bl b) (.bool b)
  | int (i : Int) : Dq H B (.int i) (.int i)
  | str (x : Str) : Dq H B (.str x) (.str x)
  | lst {a : Addr} {xs : List V} {ds : List PyData} : H a = some (.lst xs) → B a → DqAll H B xs ds → Dq H B (.ref a) (.list ds)
  | tup {a : Addr} {xs : List V} {ds : List PyData} : H a = some (.tup xs) → B a → DqAll H B xs ds → Dq H B (.ref a) (.tuple ds)
  | dk0 {a : Addr} : H a = some (.dK []) → B a → Dq H B (.ref a) (.dict [])
  | dk1 {a : Addr} {x : Str} {i : Int} : H a = some (.dK [(.inr x, .int i)]) → B a → Dq H B (.ref a) (.dict [(.str x, .int i)])
inductive DqAll (H : Hp) (B : Addr → Prop) : List V → List PyData → Prop
  | nil : DqAll H B [] []
  | cons {v : V} {vs : List V} {d : PyData} {ds : List PyData} : Dq H B v d → DqAll H B vs ds → DqAll H B (v :: vs) (d :: ds)
end
mutual
theorem Dq.keep {H H' : Hp} {B C : Addr → Prop} (k : ∀ a o, B a → H a = some o → H' a = some o ∧ C a) : ∀ (d : PyData) (v : V), Dq H B v d → Dq H' C v d
  | .none, _, h => by cases h; exact .non
  | .bool _, _, h => by cases h; exact .bl _
  | .int _, _, h => by cases h; exact .int _
  | .str _, _, h => by cases h; exact .str _
  | .list ds, _, h => by
    cases h with
    | lst e n ha => exact .lst (k _ _ n e).1 (k _ _ n e).2 (Dq.keepAll k ds _ ha)
  | .tuple ds, _, h => by
    cases h with
    | tup e n ha => exact .tup (k _ _ n e).1 (k _ _ n e).2 (Dq.keepAll k ds _ ha)
  | .dict _, _, h => by
    cases h with
    | dk0 e n => exact .dk0 (k _ _ n e).1 (k _ _ n e).2
    | dk1 e n => exact .dk1 (k _ _ n e).1 (k _ _ n e).2
theorem Dq.keepAll {H H' : Hp} {B C : Addr → Prop} (k : ∀ a o, B a → H a = some o → H' a = some o ∧ C a) : ∀ (ds : List PyData) (vs : List V), DqAll H B vs ds → DqAll H' C vs ds
  | [], _, h => by cases h; exact .nil
  | d :: ds, _, h => by
    cases h with
    | cons h1 h2 => exact .cons (Dq.keep k d _ h1) (Dq.keepAll k ds _ h2)
end
theorem Dq.same {H H' : Hp} {B : Addr → Prop} {v : V} {d : PyData} (s : Same H H') (h : Dq H B v d) : Dq H' B v d := Dq.keep (fun a o n e => ⟨s a o e, n⟩) d v h
def Sh (P : Program) (w : World) (h : Heap) (d : PyData) (u : Value) : Prop := (∃ as, Reads h u d as) ∧ ∃ bs, ReadAtMost h d.depth bs ∧ ReprK P w bs h d.depth u d.shown
def ShAll (P : Program) (w : World) (h : Heap) (ds : List PyData) (us : List Value) : Prop := (∃ as, ReadsAll h us ds as) ∧ ∃ bs, ReadAtMost h (PyData.depthAll ds) bs ∧ ReprAllK P w bs h (PyData.depthAll ds) us (PyData.shownAll ds)
section
variable {X : Cx} {pins : List (Addr × Obj)} {σ : St} {H : Hp} {s : Shared} {B : Addr → Prop}
theorem dk0_at (I : Inv X pins σ H s) {a : Addr} (e : H a = some (.dK [])) : ∃ o es ep, s.heap.get? a = some o ∧ o.cls = .type "dict" ∧ o.data = .dict es ep ∧ (a == sysModules) = false ∧ es.toList = [] := by
  obtain ⟨_, hs, vs, rel, o, es, ep, ho, hx, hd, _, hp, _⟩ := dk_of I.hok e
  cases rel
  have : es.toList = [] := by
    generalize es.toList = l at hp
    cases hp
    rfl
  exact ⟨o, es, ep, ho, hx.1, hd, hs, this⟩
theorem dk1_at (I : Inv X pins σ H s) {a : Addr} {x : Str} {i : Int} (e : H a = some (.dK [(.inr x, .int i)])) :
    ∃ o es ep, s.heap.get? a = some o ∧ o.cls = .type "dict" ∧ o.data = .dict es ep ∧ (a == sysModules) = false ∧ ∃ en t1 t2, es.toList = [en] ∧ en.key = .str x t1 ∧ en.val = .int i t2 := by
  obtain ⟨_, hs, vs, rel, o, es, ep, ho, hx, hd, _, hp, _⟩ := dk_of I.hok e
  refine ⟨o, es, ep, ho, hx.1, hd, hs, ?_⟩
  cases rel with
  | @cons _ q _ qs r rr =>
    cases rr
    obtain ⟨k, u⟩ := q
    obtain ⟨e1, t, e2⟩ := r
    dsimp only at e1 e2
    subst e1 e2
    generalize es.toList = l at hp ⊢
    cases hp with
    | @cons en _ _ _ h1 h2 h3 =>
      cases h3
      have h1' : keyIs (Sum.inr x) en.key = true := h1
      rcases keyIs_shape h1' with ⟨_, _, z, _⟩ | ⟨y, t1, z, z2⟩
      · cases z
      · cases z
        exact ⟨en, t1, t, rfl, z2, h2⟩
theorem dk1_ents {P : Program} {w : World} {h : Heap} {en : DictEntry} {x : Str} {i : Int} {t1 t2 : Tok} (e1 : en.key = .str x t1) (e2 : en.val = .int i t2) (hi : i.natAbs.log2 < 1920) (hx : (reprText x).length ≤ sizeLine) :
    ReprEntriesK P w [] h 0 [en] (PyData.shownKv [(.str x, .int i)]) := by
  refine .cons (k := reprText x) (v := toString i) ?_ ?_ .nil
  · rw [e1]
    exact .of_is (ReprIs.str x t1 hx) _ _ _
  · rw [e2]
    exact .of_is (ReprIs.int t2 hi) _ _ _
theorem noneIn {h : Heap} {n : Nat} : ReadAtMost h n [] := fun _ z => nomatch z
mutual
theorem dq_shows (I : Inv X pins σ H s) : ∀ (d : PyData) (v : V) (u : Value), Dq H B v d → RelV v u → d.showable = true → d.shown.length ≤ sizeLine → Sh X.prog X.w s.heap d u
  | .none, _, _, h, r, _, _ => by
    cases h
    cases r
    exact ⟨⟨_, Reads.none⟩, [], noneIn, .of_is ReprIs.none _ _ _⟩
  | .bool b, _, _, h, r, _, _ => by
    cases h
    cases r
    exact ⟨⟨_, Reads.bool b⟩, [], noneIn, .of_is (ReprIs.bool b) _ _ _⟩
  | .int i, _, _, h, r, hs, _ => by
    cases h
    obtain ⟨t, rfl⟩ := r
    exact ⟨⟨_, Reads.int i t⟩, [], noneIn, .of_is (ReprIs.int t (of_decide_eq_true hs)) _ _ _⟩
  | .str x, _, _, h, r, _, hz => by
    cases h
    obtain ⟨t, rfl⟩ := r
    exact ⟨⟨_, Reads.str x t⟩, [], noneIn, .of_is (ReprIs.str x t hz) _ _ _⟩
  | .list ds, _, _, h, r, hs, hz => by
    cases h with
    | @lst a _ _ e n ha =>
      cases r
      obtain ⟨its, rv, ⟨o, m, ho, hc, _, hd⟩, _⟩ := I.list (SqL.of e)
      obtain ⟨⟨as, hr⟩, bs, hb, hk⟩ := dq_showsAll I ds _ its ha rv hs fun t ht => Nat.le_trans (listText_mem_le ht) hz
      have rd := Reads.list ho hc hd hr
      have hna : a ∉ bs := not_mem_of_deeper rd (Nat.lt_succ_self _) hb
      refine ⟨⟨_, rd⟩, a :: bs, ReadAtMost.cons rd (Nat.le_succ _) hb, ?_⟩
      cases its with
      | nil =>
        cases hr
        exact (ReprK.listEmpty (as := a :: bs) ho hc hd)
      | cons y l => exact ReprK.list ho hc hd hna (by simpa using hk.length_eq) fun i z e => hk.item i z (by simpa using e)
  | .tuple ds, _, _, h, r, hs, hz => by
    cases h with
    | @tup a _ _ e n ha =>
      cases r
      obtain ⟨its, rv, ⟨o, ho, hc, m, hd⟩, _⟩ := I.tuple (SqT.of e)
      obtain ⟨⟨as, hr⟩, bs, hb, hk⟩ := dq_showsAll I ds _ its ha rv hs fun t ht => Nat.le_trans (tupleText_mem_le ht) hz
      have rd := Reads.tuple ho hc hd hr
      exact ⟨⟨_, rd⟩, a :: bs, ReadAtMost.cons rd (Nat.le_succ _) hb, ReprK.tuple ho hc hd (not_mem_of_deeper rd (Nat.lt_succ_self _) hb) hk⟩
  | .dict _, _, _, h, r, hs, hz => by
    cases h with
    | @dk0 a e n =>
      cases r
      obtain ⟨o, es, ep, ho, hc, hd, hq, he⟩ := dk0_at I e
      have rd : Reads s.heap (.ref a) (.dict []) _ := Reads.dict ho hc hd (by rw [he]; exact ReadsAll.nil) (by rw [he]; exact ReadsAll.nil)
      exact ⟨⟨_, rd⟩, [a], ReadAtMost.cons rd (Nat.zero_le _) noneIn, ReprK.dict ho hc hd hq (fun z => nomatch z) (by rw [he]; exact .nil)⟩
    | @dk1 a x i e n =>
      cases r
      obtain ⟨o, es, ep, ho, hc, hd, hq, en, t1, t2, he, e1, e2⟩ := dk1_at I e
      have rd : Reads s.heap (.ref a) (.dict [(.str x, .int i)]) _ := Reads.dict ho hc hd (by rw [he]; exact .cons (show Reads s.heap en.key (.str x) [] from by rw [e1]; exact Reads.str x t1) .nil) (by rw [he]; exact .cons (show Reads s.heap en.val (.int i) [] from by rw [e2]; exact Reads.int i t2) .nil)
      have hi : i.natAbs.log2 < 1920 := by
        have z : ((PyData.str x).showable && (PyData.int i).showable && true) = true := hs
        rw [Bool.and_true] at z
        exact of_decide_eq_true (Bool.and_eq_true_iff.mp z).2
      have hx : (reprText x).length ≤ sizeLine := by
        obtain ⟨p, hp, hl⟩ := PyData.shownKv_key_le [(.str x, .int i)] (reprText x) (List.mem_cons_self ..)
        exact Nat.le_trans hl (Nat.le_trans (dictText_mem_le hp) hz)
      exact ⟨⟨_, rd⟩, [a], ReadAtMost.cons rd (Nat.zero_le _) noneIn, ReprK.dict ho hc hd hq (fun z => nomatch z) (by rw [he]; exact dk1_ents e1 e2 hi hx)⟩
theorem dq_showsAll (I : Inv X pins σ H s) : ∀ (ds : List PyData) (vs : List V) (us : List Value), DqAll H B vs ds → Vals vs us → PyData.showableAll ds = true → (∀ t ∈ PyData.shownAll ds, t.length ≤ sizeLine) → ShAll X.prog X.w s.heap ds us
  | [], _, _, h, r, _, _ => by
    cases h
    cases r
    exact ⟨⟨_, ReadsAll.nil⟩, [], noneIn, .nil⟩
  | d :: ds, _, _, h, r, hs, hz => by
    cases h with
    | cons h1 h2 =>
      cases r with
      | cons r1 r2 =>
        have z : (d.showable && PyData.showableAll ds) = true := hs
        obtain ⟨z1, z2⟩ := Bool.and_eq_true_iff.mp z
        obtain ⟨⟨a1, q1⟩, b1, g1, k1⟩ := dq_shows I d _ _ h1 r1 z1 (hz _ (List.mem_cons_self ..))
        obtain ⟨⟨a2, q2⟩, b2, g2, k2⟩ := dq_showsAll I ds _ _ h2 r2 z2 fun t ht => hz t (List.mem_cons_of_mem _ ht)
        have m1 : d.depth ≤ PyData.depthAll (d :: ds) := Nat.le_max_left ..
        have m2 : PyData.depthAll ds ≤ PyData.depthAll (d :: ds) := Nat.le_max_right ..
        exact ⟨⟨_, ReadsAll.cons q1 q2⟩, b1 ++ b2, (g1.mono m1).append (g2.mono m2), .cons ((k1.more fun b hb => List.mem_append_left _ hb).level_le m1) (k2.more_le (fun b hb => List.mem_append_right _ hb) m2)⟩
end
end
end L2.RL
end
section
set_option Elab.async false
set_option linter.all false
set_option maxRecDepth 100000
set_option maxHeartbeats 2000000
/-! repr(x), where nothing else is being shown; promises of defs that are called so -/
namespace L2.RL
open PySem PySem.Spec PyProof.Rows
def rReprD (B : Addr → Prop) : List V → Hp → VK → Prop := fun xs H Q => ∃ x d, xs = [x] ∧ Dq H B x d ∧ d.showable = true ∧ d.shown.length ≤ sizeLine ∧ d.depth ≤ 10 ∧ Q (.str d.shown) H
theorem call_reprD {X : Cx} {B : Addr → Prop} (hg : X.A.guards = some []) (hu : X.A.units + 20 < cLine) : CallR X (.builtin "repr") (rReprD B) := by
  intro pins s σ H xs us Q I r h
  obtain ⟨x, d, rfl, hd, hs, hz, hdep, q⟩ := h
  obtain ⟨u, rfl, ru⟩ := vals1 r
  have out : ∀ (h' : Heap) (t : Tok) (tk : Nat), (∀ b o, s.heap.get? b = some o → h'.get? b = some o) → EP X pins σ Q (.str d.shown t) { s with heap := h', toks := tk } := fun h' t tk k => ⟨.str d.shown, H, I.kept (t' := tk) k, ⟨t, rfl⟩, q⟩
  cases hd with
  | non =>
    cases ru
    exact PySem.P.repr_of_none (out s.heap _ _ fun _ _ z => z)
  | bl b =>
    cases ru
    exact PySem.P.repr_of_bool (out s.heap _ _ fun _ _ z => z)
  | int i =>
    obtain ⟨t, rfl⟩ := ru
    exact PySem.P.repr_of_int (of_decide_eq_true hs) (out s.heap _ _ fun _ _ z => z)
  | str y =>
    obtain ⟨t, rfl⟩ := ru
    exact PySem.P.repr_of_str (out s.heap _ _ fun _ _ z => z) hz
  | @lst a ys ds e n ha =>
    cases ru
    obtain ⟨its, rv, ⟨o, m, ho, hc, _, hd⟩, _⟩ := I.list (SqL.of e)
    obtain ⟨⟨as, hr⟩, bs, hb, hk⟩ := dq_showsAll I ds _ its ha rv hs fun t ht => Nat.le_trans (listText_mem_le ht) hz
    have hna : a ∉ bs := not_mem_of_deeper (Reads.list ho hc hd hr) (Nat.lt_succ_self _) hb
    have hdp : PyData.depthAll ds + 1 ≤ 10 := hdep
    refine call_repr_slot (by omega) ⟨o, ho, hc⟩ F.slot_list_repr.toG ?_
    cases its with
    | nil =>
      cases hr
      exact call_list_repr_empty ⟨o, ho, hc⟩ ho hd ⟨_, _, rfl, out s.heap _ _ fun _ _ z => z⟩
    | cons y l => exact call_list_reprK (g := []) ho hc hd hna (by simpa using hk.length_eq) (fun i z e => hk.item i z (by simpa using e)) hg (fun b _ => Clear.nil b) (by show X.A.units + 1 + _ < _; omega) (fun _ _ z => z) (fun h' t tk k => ⟨_, _, rfl, out h' t tk k⟩) hz
  | @tup a ys ds e n ha =>
    cases ru
    obtain ⟨its, rv, ⟨o, ho, hc, m, hd⟩, _⟩ := I.tuple (SqT.of e)
    obtain ⟨⟨as, hr⟩, bs, hb, hk⟩ := dq_showsAll I ds _ its ha rv hs fun t ht => Nat.le_trans (tupleText_mem_le ht) hz
    have hna : a ∉ bs := not_mem_of_deeper (Reads.tuple ho hc hd hr) (Nat.lt_succ_self _) hb
    have hdp : PyData.depthAll ds + 1 ≤ 10 := hdep
    exact call_repr_slot (by omega) ⟨o, ho, hc⟩ F.slot_tuple_repr (call_tuple_reprK (g := []) ho hc hd hna hk hg (fun b _ => Clear.nil b) (by show X.A.units + 1 + _ < _; omega) (fun _ _ z => z) (fun h' t tk k => ⟨_, _, rfl, out h' t tk k⟩) hz)
  | @dk0 a e n =>
    cases ru
    obtain ⟨o, es, ep, ho, hc, hd, hq, he⟩ := dk0_at I e
    exact call_repr_slot (by omega) ⟨o, ho, hc⟩ F.slot_dict_repr (call_dict_reprK (as := []) (d := 0) (g := []) ho hc hd hq (fun z => nomatch z) (by rw [he]; exact .nil) hg (fun b _ => Clear.nil b) (by show X.A.units + 1 + _ < _; omega) (fun _ _ z => z) (fun h' t tk k => ⟨_, _, rfl, out h' t tk k⟩) hz)
  | @dk1 a y i e n =>
    cases ru
    obtain ⟨o, es, ep, ho, hc, hd, hq, en, t1, t2, he, e1, e2⟩ := dk1_at I e
    have hi : i.natAbs.log2 < 1920 := by
      have z : ((PyData.str y).showable && (PyData.int i).showable && true) = true := hs
      rw [Bool.and_true] at z
      exact of_decide_eq_true (Bool.and_eq_true_iff.mp z).2
    have hy : (reprText y).length ≤ sizeLine := by
      obtain ⟨p, hp, hl⟩ := PyData.shownKv_key_le [(.str y, .int i)] (reprText y) (List.mem_cons_self ..)
      exact Nat.le_trans hl (Nat.le_trans (dictText_mem_le hp) hz)
    exact call_repr_slot (by omega) ⟨o, ho, hc⟩ F.slot_dict_repr (call_dict_reprK (as := []) (d := 0) (g := []) ho hc hd hq (fun z => nomatch z) (by rw [he]; exact dk1_ents e1 e2 hi hy) hg (fun b _ => Clear.nil b) (by show X.A.units + 1 + _ < _; omega) (fun _ _ z => z) (fun h' t tk k => ⟨_, _, rfl, out h' t tk k⟩) hz)

/-! ### defs that are called where nothing is being shown -/
structure FnG (P : Program) (w : World) (K : PySem.W.Frag) (mg : Str → Option Value) (base : Heap) (CX : CXT) (k : Nat) (f : Addr) (fd : FuncData) (ps : List Str) (sp : Sp) : Prop where
  len : ∀ ws H Q E, sp ws H Q E → ws.length = ps.length
  run : ∀ (A : Around) (outer : List Env) (s : Shared) (H : Hp) (args : Args) (us : List Value) (vs : List V) (Q : VK) (E : XK), A.guards = some [] → Room k A → Env0 P w K mg base A outer s H → BindsTo s fd args (ps.zip us) → Vals vs us → sp vs H Q E → codeAny (model P w) A (.call (.ref f) args) (CR CX outer P w H s Q E) s
section
variable {P : Program} {w : World} {K : PySem.W.Frag} {mg : Str → Option Value} {base : Heap} {CX : CXT} {k : Nat} {f : Addr} {qual : Str} {cdv : Value} {N ps : List Str} {sp : Sp}
theorem fnG_of {name : Str} {params : Arguments} {body : List Stmt} {scope : Scope} {dV kV doc pm ct oc : Value} {an od : Option Addr} {osl : Array (Option Value)}
    (lk : K.lookup f = some ⟨oc, od, .func (PySem.W.fnOf name qual params body scope dV kV doc pm an cdv ct), osl⟩) (hcd : PySem.W.codeIn K cdv qual = true) (S : FnScope N ps scope) (len : ∀ vs H Q E, sp vs H Q E → vs.length = ps.length)
    (hbody : ∀ (A : Around) (outer : List Env) (s : Shared) (H : Hp) (vs : List V) (Q : VK) (E : XK), A.guards = some [] → Room k (A.deeper (envOfC qual scope s.heap.objs.size f cdv)) → sp vs H Q E →
      ∃ t, PSs (cxOf CX P w K mg base N qual scope f cdv A outer s H E) body t ∧ t { nx := fun _ H' => Q .non H', rt := Q } (start N vs) H) :
    FnG P w K mg base CX (k + 1) f (PySem.W.fnOf name qual params body scope dV kV doc pm an cdv ct) ps sp := ⟨len, fun A outer s H args us vs Q E hg hr e0 hb r hsp => by
  have kin : K.In s.heap := e0.mod.kin.keeps fun b o z => (e0.bs b o z).1
  have cells : ∀ y ∈ ps.zip us, scope.names.lookup y.1 = some .local ∨ (scope.names.lookup y.1 = some .cell ∧ ((cellsFrom (s.heap.objs.size + 1) scope.names []).lookup y.1).isSome = true) := fun ⟨n, v⟩ hy =>
    (S.par n (List.of_mem_zip hy).1).elim .inl fun q => .inr ⟨q, PySem.W.cellsFrom_some _ _ _ (.inl q)⟩
  refine codeAny_call_function hr.depth (kin _ _ lk) rfl S.co S.gen rfl (PySem.W.codeRec_of kin hcd) (hb _ _ _ _ (wpAny_newFunctionEnv_cells S.kind cells fun env he s1 x => ?_))
  subst he
  obtain ⟨t, ht, hq⟩ := hbody A outer s H vs Q E hg (hr.deeper _) hsp
  refine ⟨(e0.mod.nolimit.keeps fun b o z => (e0.bs b o z).1).keeps x.toInCall.keep, codeAny_func (wpAny_mono (ht.run [] s1 (start N vs) H _ (inv_start S hr.hd e0 (len _ _ _ _ hsp) r x) hq) (fun fl s' hs => ?_) fun e s' hs => hs)⟩
  cases fl with
  | ret u =>
    obtain ⟨v, σ', H', J, rv, q⟩ := hs
    exact ⟨v, H', J.os, J.bare, J.base, J.hok, rv, q⟩
  | next =>
    obtain ⟨σ', H', J, q⟩ := hs
    exact ⟨.non, H', J.os, J.bare, J.base, J.hok, rfl, q⟩
  | brk => exact hs.elim fun _ z => z.elim fun _ z => z.2.elim
  | cont => exact hs.elim fun _ z => z.elim fun _ z => z.2.elim⟩
theorem FunD.okG {x : Str} {params : Arguments} {body : List Stmt} {scope : Scope} {dvs : List V} {kws : List (Str × V)} {fd : FuncData} (F : FunD K x qual params body scope dvs kws f fd) (S : FnScope N ps scope) (len : ∀ vs H Q E, sp vs H Q E → vs.length = ps.length)
    (hbody : ∀ (cdv : Value) (A : Around) (outer : List Env) (s : Shared) (H : Hp) (vs : List V) (Q : VK) (E : XK), A.guards = some [] → Room k (A.deeper (envOfC qual scope s.heap.objs.size f cdv)) → sp vs H Q E →
      ∃ t, PSs (cxOf CX P w K mg base N qual scope f cdv A outer s H E) body t ∧ t { nx := fun _ H' => Q .non H', rt := Q } (start N vs) H) : FnG P w K mg base CX (k + 1) f fd ps sp := by
  obtain ⟨oc, od, dV, kV, doc, pm, an, cdv, ct, osl, rfl, lk, hcd, _, _⟩ := F.ex
  exact fnG_of lk hcd S len fun A outer s H vs Q E hg hr h => hbody cdv A outer s H vs Q E hg hr h
end
end L2.RL
end
section
set_option Elab.async false
set_option linter.all false
set_option maxRecDepth 100000
set_option maxHeartbeats 2000000
/-! calls of such defs; the law itself as one -/
namespace L2.RL
open PySem PySem.Spec PyProof.Rows
section
variable {X : Cx} {CX : CXT} {k : Nat} {f : Addr} {fd : FuncData} {ps : List Str} {sp : Sp} {ds : List Value} {dvs : List V} {E : XK} {x : Str} {p pos : Pos} {e : Expr} {es : List Expr} {t : TA}
theorem pe_callG (F : FnG X.prog X.w X.K X.mg X.base CX k f fd ps sp) (gd : X.A.guards = some []) (hr : Room k X.A) (hg : Gl X x) (hm : X.mg x = some (.ref f)) (hk : PySem.W.keepIn X.K (.ref f) = true) (hb : Binds X.K fd ps ds) (hd : Vals dvs ds) (hx : Passes CX X E) (ha : PA X (e :: es) t)
    (hdb : (x == ("__debug__" : Str)) = false := by decide) (he : starEach (e :: es) X.env = (false, eval e X.env) :: starEach es X.env := by rfl) (hpl : (backTo pos (starEach es X.env)).any (·.1) = false := by rfl) :
    PE X (.Call (.Name x p) (e :: es) [] pos) (tCall sp dvs E t) := by
  refine ⟨fun pins s σ H Q I h => wpAny_Call_Name_kw (ld_glob I hg hm (PySem.W.callWith_K (h₀ := X.base) I.ok.mod.kin hk (thn (ha.run pos pins s σ H _ I h) fun us s1 ⟨vs, H1, I1, r, q⟩ => ⟨I1.kIn, ?_⟩) he hpl) hdb)⟩
  have r2 : Vals (vs ++ dvs) (us ++ ds) := r.append hd
  refine wpAny_call (codeAny_mono (F.run X.A X.stack s1 H1 ⟨us, []⟩ (us ++ ds) (vs ++ dvs) Q E gd hr I1.env0 (hb s1 us I1.kIn (r2.length.symm.trans (F.len _ _ _ _ q))) r2 q) fun r s' z => ?_)
  cases r with
  | error er => exact hx pins σ H1 s1 er s' I1 z
  | ok fl =>
    cases fl with
    | ret u => exact I1.after z
    | _ => exact False.elim z
end
section
variable {P : Program} {w : World} {K : PySem.W.Frag} {mg mb : Str → Option Value} {k : Nat} {fa a : Addr} {fd : FuncData} {x : Str} {sp : Sp} {s : Shared} {vs : List Value} {ns : List Int} {H : Hp}
theorem lawG_core (kin : K.In s.heap) (hns : s.heap.Ns mainGlobals mg) (hb : s.heap.Ns builtinsNs mb) (hbb : ∀ x : Str, x ≠ "__name__" → mb x = bootBuiltins x) (hlim : s.heap.NoLimit) (hg : s.gens = #[])
    (ha : s.heap.get? a = some { cls := .type "list", data := .seq vs.toArray }) (hr : Room k callerA) (F : ∀ base : Heap, K.In base → base.Ns mainGlobals mg → FnG P w K mg base CX0 k fa fd [x] sp) (hbind : ∀ (s : Shared) (u : Value), BindsTo s fd ⟨[u], []⟩ [(x, u)])
    (hsp : sp [.ref a] H (fun v _ => v = .bl true) fun _ _ _ => False) (hO : Only H) (hok : HOk P w H s.heap) (hA : ∀ b, H b ≠ none → b = a) (hK : H a ≠ none → K.lookup a = none) :
    codeAny (model P w) callerA (.call (.ref fa) ⟨[.ref a], []⟩) (fun r s' => r = .ok (.ret (.bool true)) ∧ OldK s.heap s'.heap ∧ s'.os = s.os ∧ AllBare s'.gens) s := by
  have keep : ∀ {b : Addr} {o : Obj}, s.heap.get? b = some o → H b = none → (hidT s.heap H).get? b = some o := fun z n => hidT_get z n
  have none_of : ∀ {b : Addr}, b ≠ a → H b = none := fun {b} n => by
    cases q : H b with
    | none => rfl
    | some u => exact absurd (hA b (by rw [q]; exact fun z => nomatch z)) n
  have dictN : ∀ {b : Addr} {m : Str → Option Value}, s.heap.Ns b m → (hidT s.heap H).Ns b m := fun {b m} ⟨o, es, ep, z, d, r⟩ => ⟨o, es, ep, keep z (none_of fun q => by
    rw [q, ha] at z
    cases z
    cases d), d, r⟩
  have kinB : K.In (hidT s.heap H) := fun b o z => keep (kin b o z) (by
    cases q : H b with
    | none => rfl
    | some u =>
      have n : H b ≠ none := by rw [q]; exact fun z => nomatch z
      obtain rfl := hA b n
      rw [hK n] at z
      cases z)
  obtain ⟨mc, l1, l2⟩ := hlim
  have e0 : Env0 P w K mg (hidT s.heap H) callerA [] s H := ⟨rfl, ⟨kinB, dictN hns, ⟨mb, dictN hb, hbb⟩, mc, dictN l1, l2⟩, fun b o z => of_hidT z, Nat.le_of_eq (hidT_size _ _), trivial, (fun b hb => absurd (show b ∈ ([] : List Addr) from hb) List.not_mem_nil), hok, .of_eq hg⟩
  refine codeAny_mono ((F _ kinB (dictN hns)).run callerA [] s H ⟨[.ref a], []⟩ [.ref a] [.ref a] _ _ rfl hr e0 (hbind s (.ref a)) (.cons rfl .nil) hsp) fun r s' z => ?_
  cases r with
  | error er => exact z.elim
  | ok fl =>
    cases fl with
    | ret u =>
      obtain ⟨v, H', os, bare, un, hok', r', q⟩ := z
      obtain rfl : v = .bl true := q
      obtain rfl : u = Value.bool true := r'
      refine ⟨rfl, OldK.of_keep fun b o z => ?_, os, bare⟩
      rcases hO b with n | ⟨ob, xs, g⟩
      · exact un.keep b o z n (fun y => nomatch y) (fun y => nomatch y)
      · have g1 : s.heap.get? b = some ob := (hok b _ g).1
        have g2 : s'.heap.get? b = some ob := (hok' b _ (un.frzs b ob _ g)).1
        rw [g1] at z
        rw [g2, z]
    | _ => exact False.elim z
theorem lawG_call (kin : K.In s.heap) (hns : s.heap.Ns mainGlobals mg) (hb : s.heap.Ns builtinsNs mb) (hbb : ∀ x : Str, x ≠ "__name__" → mb x = bootBuiltins x) (hlim : s.heap.NoLimit) (hg : s.gens = #[])
    (ha : s.heap.get? a = some { cls := .type "list", data := .seq vs.toArray }) (hi : IntsAre vs ns) (hl : ns.length ≤ sizeLine) (hr : Room k callerA) (F : ∀ base : Heap, K.In base → base.Ns mainGlobals mg → FnG P w K mg base CX0 k fa fd [x] sp)
    (hbind : ∀ (s : Shared) (u : Value), BindsTo s fd ⟨[u], []⟩ [(x, u)]) (hsp : ∀ H : Hp, Only H → SqL K H a (ns.map V.int) → sp [.ref a] H (fun v _ => v = .bl true) fun _ _ _ => False) :
    codeAny (model P w) callerA (.call (.ref fa) ⟨[.ref a], []⟩) (fun r s' => r = .ok (.ret (.bool true)) ∧ OldK s.heap s'.heap ∧ s'.os = s.os ∧ AllBare s'.gens) s := by
  have rv := vals_ints hi
  have go := fun {H : Hp} (o : Only H) (q : SqL K H a (ns.map V.int)) => lawG_core (H := H) kin hns hb hbb hlim hg ha hr F hbind (hsp H o q) o
  cases hk : K.lookup a with
  | some o =>
    have z := kin a o hk
    rw [ha] at z
    obtain rfl := Option.some.inj z
    exact go (H := fun _ => none) (fun _ => .inl rfl) (.inr ⟨_, vs.toArray, _, hk, rfl, rfl, rfl, by rw [List.size_toArray, hi.length]; exact hl, by simpa using rv⟩) (fun b u y => nomatch y) (fun b y => absurd rfl y) fun y => absurd rfl y
  | none =>
    refine go (H := fun b => if b = a then some (.frz { cls := .type "list", data := .seq vs.toArray } (.lst (ns.map V.int))) else none) (fun b => ?_) (.inl (.inr ⟨_, if_pos rfl⟩)) (fun b u y => ?_) (fun b y => ?_) fun _ => hk
    · by_cases n : b = a
      · exact .inr ⟨_, _, if_pos n⟩
      · exact .inl (if_neg n)
    · by_cases n : b = a
      · cases (if_pos n).symm.trans y
        rw [n]
        exact ⟨ha, by rw [List.length_map]; exact hl, vs, _, rv, ha⟩
      · cases (if_neg n).symm.trans y
    · exact Decidable.byContradiction fun n => y (if_neg n)
end
theorem walk_ofG {l : PySem.W.OpenLaw} {n k : Nat} {q : Program} {loose : List Str} {XP : (Str → Option Value) → Heap → Prop} {YP : World → Heap → Prop} {d : DefRec} {K : Params → PySem.W.Frag} {sp : World → Sp} {x : Str} (hn : l.most = some n) (hn2 : n ≤ sizeLine) (hdf : d.params.defaults = []) (hr : Room k callerA)
    (hY : ∀ (w : World) (h : Heap), YP w h → (K w.params).In h)
    (F : ∀ (w : World) (mg : Str → Option Value) (fa : Addr) (h : Heap), (K w.params).In h → h.Ns mainGlobals mg → mg d.name = some (.ref fa) → ∃ fd : FuncData, (∀ (s : Shared) (u : Value), BindsTo s fd ⟨[u], []⟩ [(x, u)]) ∧ ∀ base : Heap, (K w.params).In base → base.Ns mainGlobals mg → FnG l.prog w (K w.params) mg base CX0 k fa fd [x] (sp w))
    (hsp : ∀ (w : World) (H : Hp) (a : Addr) (ns : List Int), ns.length ≤ n → Only H → SqL (K w.params) H a (ns.map V.int) → sp w [.ref a] H (fun v _ => v = .bl true) fun _ _ _ => False) :
    PySem.W.WalkO q loose XP YP l.row.toRowW d [] (fun f vs => PySem.call f vs) := Att.attach_call hn hdf fun w s₀ s₁ mg mb fa o pm cd doc a vs ns G Y ho hd hcd hmg hobj hints hlen hg => by
  have kin := hY w _ Y
  obtain ⟨fd, hb, hF⟩ := F w mg fa _ kin G.T.g hmg
  exact lawG_call kin G.T.g G.T.b G.T.builtins G.T.nolimit hg hobj hints (Nat.le_trans hlen hn2) hr hF hb fun H hO hS => hsp w H a ns hlen hO hS
end L2.RL
end
section
set_option Elab.async false
set_option linter.all false
set_option maxRecDepth 100000
set_option maxHeartbeats 2000000
/-! checks of an error class; readings of making, raising, catching; dict displays -/
namespace L2.RL
open PySem PySem.Spec PyProof.Rows
def findClsB (K : PySem.W.Frag) (B : String) (id : String) : Bool := match PySem.W.findCls K (.type B) (.type "type") "__init__" with
  | some (.val (.builtin n)) => n == id
  | _ => false
theorem findClsB_ok {K : PySem.W.Frag} {B id : String} (h : findClsB K B id = true) : PySem.W.findCls K (.type B) (.type "type") "__init__" = some (.val (.builtin id)) := by
  unfold findClsB at h
  split at h
  · rename_i n e
    rw [e, show n = id by simpa using h]
  · cases h
def excCB (K : PySem.W.Frag) (D : Addr) : Bool := decide (PySem.W.findIn K (.ref D) "__getattribute__" = some (some (.builtin "BaseException.__getattribute__"))) && (decide (PySem.W.findIn K (.ref D) "__getattr__" = some none) && (decide (PySem.W.subIn K (.ref D) (.type "BaseException") = some true) && (PySem.W.hasDictIn K D &&
  (decide (PySem.W.findIn K (.ref D) "__class__" = some (some (.builtin "object.__class__"))) && (decide (PySem.W.specialIn K (.builtin "object.__class__") "__get__" = some (some (.builtin "getset_descriptor.__get__"))) && (decide (PySem.W.takesIn K (.builtin "object.__class__") = some true) && decide (PySem.W.mroIn K D (.type "object") = some true)))))))
theorem excCB_ok {K : PySem.W.Frag} {D : Addr} (h : excCB K D = true) : ExcC K D := by
  obtain ⟨h1, h⟩ := He.ba h
  obtain ⟨h2, h⟩ := He.ba h
  obtain ⟨h3, h⟩ := He.ba h
  obtain ⟨h4, h⟩ := He.ba h
  obtain ⟨h5, h⟩ := He.ba h
  obtain ⟨h6, h⟩ := He.ba h
  obtain ⟨h7, h8⟩ := He.ba h
  exact ⟨of_decide_eq_true h1, of_decide_eq_true h2, of_decide_eq_true h3, h4, of_decide_eq_true h5, of_decide_eq_true h6, of_decide_eq_true h7, of_decide_eq_true h8⟩
theorem room_un {k : Nat} {A : Around} (r : Room k A) : A.units + 20 < cLine := by
  have := r.un
  omega
structure Lg (P : Program) (w : World) (K : PySem.W.Frag) (mg : Str → Option Value) (base : Heap) (CX : CXT) (k : Nat) (x : Str) (ps : List Str) (dvs : List V) (sp : Sp) : Prop where
  ex : ∃ fd ds, FnG P w K mg base CX k (He.ga K x) fd ps sp ∧ Binds K fd ps ds ∧ Vals dvs ds
  g : mg x = some (.ref (He.ga K x))
  kp : PySem.W.keepIn K (.ref (He.ga K x)) = true
section
variable {K : PySem.W.Frag} {σ : St} {H : Hp} {Q : VK} {D : Ends}
theorem w_dnew (h : ∀ p H', H p = none → Same H H' → H' p = some (.dK []) → Q (.ref p) H') : tDNewK σ H Q := fun p n => h p _ n (same_upd n) upd_same
theorem w_disp1 {x : Str} {i : Int} (h : ∀ p H', H p = none → Same H H' → H' p = some (.dK [(.inr x, .int i)]) → Q (.ref p) H') : tDisp [(tC (.str x), tC (.int i))] σ H Q := fun p n => by
  refine ⟨upd_same, [(.inr x, .int i)], rfl, Nat.le_of_ble_eq_true rfl, ?_⟩
  rw [upd_upd]
  exact h p _ n (same_upd n) upd_same
theorem w_callSD {sp : Sp} {dvs : List V} {E : St → XK} {t : TA} (h : t σ H fun vs H1 => sp (vs ++ dvs) H1 Q (E σ)) : tCallSD sp dvs E t σ H Q := h
theorem w_xf {a : Addr} {cls : Value} {d : Option Addr} {C : Addr} {f : Str} {te : TE} (h : te σ H fun x H1 => x = .ref a ∧ cls = .ref C ∧ ∃ (dd : Addr) (fs : List (Str × V)) (v : V), d = some dd ∧ H1 dd = some (.xd fs) ∧ fs.lookup f = some v ∧ Q v H1) : tXf a cls d C f te σ H Q := h
theorem w_bi {newId : String} {bm : List Value} {ta : TA} (h : ta σ H fun vs H1 => ∃ (a C : Addr) (ws : List V), vs = .ref a :: ws ∧ ws.length ≤ 1000 ∧ OexB K newId bm C ∧ H1 a = some (exo a C none) ∧ Q .non H1) : tBI K newId bm ta σ H Q := h
theorem w_bi1 {newId : String} {bm : List Value} {a C : Addr} {ws : List V} {A : Prop} (T : OexB K newId bm C) (hl : ws.length ≤ 1000) (e : H a = some (exo a C none)) (h : A) : ∃ (a' C : Addr) (ws' : List V), V.ref a :: ws = .ref a' :: ws' ∧ ws'.length ≤ 1000 ∧ OexB K newId bm C ∧ H a' = some (exo a' C none) ∧ A := ⟨a, C, ws, rfl, hl, T, e, h⟩
def spErr1 (C : Addr) (f : Str) : Sp := fun vs H Q _ => ∃ (a : Addr) (x : V), vs = [.ref a, x] ∧ H a = some (exo a C none) ∧ ∀ dx H', H dx = none → dx ≠ a → H' = upd (upd H dx (exd dx [(f, x)])) a (exo a C (some dx)) → Q .non H'
theorem w_setB {newId : String} {bm : List Value} {f : Str} {to te : TE} (h : te σ H fun y H1 => to σ H1 fun x H2 => ∃ a C : Addr, x = .ref a ∧ OexB K newId bm C ∧ PySem.W.findIn K (.ref C) f = some none ∧
  ((H2 a = some (exo a C none) ∧ ∀ dx, H2 dx = none → dx ≠ a → D.nx σ (upd (upd H2 dx (exd dx [(f, y)])) a (exo a C (some dx)))) ∨
    ∃ (dx : Addr) (fs : List (Str × V)), H2 a = some (exo a C (some dx)) ∧ H2 dx = some (exd dx fs) ∧ fs.length ≤ 900 ∧ D.nx σ (upd H2 dx (exd dx ((f, y) :: fs))))) : tSetB K newId bm f to te D σ H := h
theorem w_mkO {C : Addr} {f : Str} {ta : TA} {E : XK} (h : ta σ H fun vs H1 => ∃ x, vs = [x] ∧ ∀ d H', H1 d = none → Same H1 H' → H' d = some (.xd [(f, x)]) → E (.ref C) (some d) H') (mono : ∀ {R1 R2 : List V → Hp → Prop}, ta σ H R1 → (∀ vs H1, R1 vs H1 → R2 vs H1) → ta σ H R2) : tMkO C (spErr1 C f) [] ta σ H E := by
  refine mono h fun vs H1 ⟨x, e, q⟩ => ?_
  subst e
  refine ⟨Nat.le_of_ble_eq_true rfl, fun a na => ⟨a, x, rfl, upd_same, fun dx H' n1 n2 e => ?_⟩⟩
  subst e
  have nd : H1 dx = none := by rw [upd_ne n2] at n1; exact n1
  refine ⟨rfl, dx, [(f, x)], upd_same, by rw [upd_ne n2, upd_same], nd, q dx _ nd (fun b o g => ?_) upd_same⟩
  have b1 : b ≠ dx := ne_of_none g nd
  have b2 : b ≠ a := ne_of_none g na
  rw [upd_ne b1, del_ne b2, upd_ne b2, upd_ne b1, upd_ne b2]
  exact g
end
end L2.RL
end
section
set_option Elab.async false
set_option linter.all false
set_option maxRecDepth 100000
set_option maxHeartbeats 2000000
/-! small data: how long its text is -/
namespace L2.RL
open PySem PySem.Spec PyProof.Rows
theorem textFrom_le (L : Nat) : ∀ (ts : List Str) (k : Nat) (acc : Str), (∀ t ∈ ts, t.length ≤ L) → (textFrom k acc ts).length ≤ acc.length + ts.length * (L + 2)
  | [], k, acc, _ => by show acc.length ≤ _; omega
  | t :: r, k, acc, h => by
    have ih := textFrom_le L r (k + 1) (acc ++ (if k > 0 then ", " else "" : String) ++ t) fun u hu => h u (List.mem_cons_of_mem _ hu)
    have h1 := h t (List.mem_cons_self ..)
    have e : (acc ++ (if k > 0 then ", " else "" : String) ++ t).length ≤ acc.length + 2 + t.length := by
      rw [strLen_append, strLen_append]
      have : (Str.ofString (if k > 0 then ", " else "" : String)).length ≤ 2 := by split <;> decide
      omega
    show (textFrom (k + 1) _ r).length ≤ _
    have m : (r.length + 1) * (L + 2) = r.length * (L + 2) + (L + 2) := by rw [Nat.add_mul, Nat.one_mul]
    rw [List.length_cons, m]
    omega
theorem listText_le {L : Nat} {ts : List Str} (h : ∀ t ∈ ts, t.length ≤ L) : (listText ts).length ≤ 2 + ts.length * (L + 2) := by
  unfold listText
  rw [strLen_append]
  have := textFrom_le L ts 0 "[" h
  have e1 : ("[" : Str).length = 1 := rfl
  have e2 : ("]" : Str).length = 1 := rfl
  omega
theorem piled_le {L : Nat} : ∀ {ts : List Str}, (∀ t ∈ ts, t.length ≤ L) → piled ts ≤ ts.length * (L + 2)
  | [], _ => Nat.zero_le _
  | t :: r, h => by
    have ih := piled_le fun u hu => h u (List.mem_cons_of_mem t hu)
    have h1 := h t (List.mem_cons_self ..)
    have m : (r.length + 1) * (L + 2) = r.length * (L + 2) + (L + 2) := by rw [Nat.add_mul, Nat.one_mul]
    rw [piled_cons, List.length_cons, m]
    omega
theorem tupleText_le {L : Nat} {ts : List Str} (h : ∀ t ∈ ts, t.length ≤ L) : (tupleText ts).length ≤ 3 + ts.length * (L + 2) := by
  have hp := piled_le h
  have e1 : ("(" : Str).length = 1 := rfl
  have e2 : (Str.ofString (if (ts.length == 1) = true then ",)" else ")" : String)).length ≤ 2 := by split <;> decide
  have e3 : (Str.join ", " ts).length ≤ piled ts := by
    cases ts with
    | nil => exact Nat.zero_le _
    | cons t r =>
      have := join_length_add (t :: r) (by simp)
      omega
  unfold tupleText
  rw [strLen_append, strLen_append]
  have e4 : ((if (ts.length == 1) = true then ",)" else ")" : String) : Str).length ≤ 2 := e2
  omega
inductive Sm : Nat → PyData → Prop
  | leaf {m : Nat} {d : PyData} (h1 : d.showable = true) (h2 : d.shown.length ≤ 60) (h3 : d.depth ≤ 1) (h4 : ∀ i, d = .int i → i.natAbs < 2 ^ 200) (h5 : ∀ ds, d = .tuple ds → ds = []) : Sm m d
  | list {m : Nat} {ds : List PyData} (hl : ds.length ≤ 6) (h : ∀ d ∈ ds, Sm m d) : Sm (m + 1) (.list ds)
  | tuple {m : Nat} {ds : List PyData} (hl : ds.length ≤ 6) (h : ∀ d ∈ ds, Sm m d) : Sm (m + 1) (.tuple ds)
theorem shownAll_map : ∀ ds : List PyData, PyData.shownAll ds = ds.map PyData.shown
  | [] => rfl
  | d :: ds => by show d.shown :: PyData.shownAll ds = _; rw [shownAll_map ds]; rfl
theorem showableAll_of : ∀ {ds : List PyData}, (∀ d ∈ ds, d.showable = true) → PyData.showableAll ds = true
  | [], _ => rfl
  | d :: ds, h => by
    show (d.showable && PyData.showableAll ds) = true
    rw [h d (List.mem_cons_self ..), showableAll_of fun e he => h e (List.mem_cons_of_mem _ he)]
    rfl
theorem depthAll_le {n : Nat} : ∀ {ds : List PyData}, (∀ d ∈ ds, d.depth ≤ n) → PyData.depthAll ds ≤ n
  | [], _ => Nat.zero_le _
  | d :: ds, h => Nat.max_le.mpr ⟨h d (List.mem_cons_self ..), depthAll_le fun e he => h e (List.mem_cons_of_mem _ he)⟩
theorem Sm.ok {m : Nat} {d : PyData} (h : Sm m d) : d.showable = true ∧ d.shown.length ≤ 60 * 7 ^ m ∧ d.depth ≤ m + 1 := by
  induction h with
  | @leaf m d h1 h2 h3 =>
    have : 1 ≤ 7 ^ m := Nat.one_le_pow _ _ (by decide)
    exact ⟨h1, by omega, by omega⟩
  | @list m ds hl h ih =>
    refine ⟨showableAll_of fun d hd => (ih d hd).1, ?_, Nat.succ_le_succ (depthAll_le fun d hd => (ih d hd).2.2)⟩
    have p : 1 ≤ 7 ^ m := Nat.one_le_pow _ _ (by decide)
    have := listText_le (L := 60 * 7 ^ m) (ts := PyData.shownAll ds) fun t ht => by
      rw [shownAll_map] at ht
      obtain ⟨d, hd, rfl⟩ := List.mem_map.mp ht
      exact (ih d hd).2.1
    rw [shownAll_map, List.length_map] at this
    show (listText (PyData.shownAll ds)).length ≤ _
    rw [shownAll_map]
    have k : ds.length * (60 * 7 ^ m + 2) ≤ 6 * (60 * 7 ^ m + 2) := Nat.mul_le_mul_right _ hl
    rw [Nat.pow_succ]
    omega
  | @tuple m ds hl h ih =>
    refine ⟨showableAll_of fun d hd => (ih d hd).1, ?_, Nat.succ_le_succ (depthAll_le fun d hd => (ih d hd).2.2)⟩
    have p : 1 ≤ 7 ^ m := Nat.one_le_pow _ _ (by decide)
    have := tupleText_le (L := 60 * 7 ^ m) (ts := PyData.shownAll ds) fun t ht => by
      rw [shownAll_map] at ht
      obtain ⟨d, hd, rfl⟩ := List.mem_map.mp ht
      exact (ih d hd).2.1
    rw [shownAll_map, List.length_map] at this
    show (tupleText (PyData.shownAll ds)).length ≤ _
    rw [shownAll_map]
    have k : ds.length * (60 * 7 ^ m + 2) ≤ 6 * (60 * 7 ^ m + 2) := Nat.mul_le_mul_right _ hl
    rw [Nat.pow_succ]
    omega
theorem Sm.up {m n : Nat} {d : PyData} (h : Sm m d) (hn : m ≤ n) : Sm n d := by
  induction h generalizing n with
  | leaf h1 h2 h3 h4 h5 => exact .leaf h1 h2 h3 h4 h5
  | list hl h ih =>
    obtain ⟨k, rfl⟩ : ∃ k, n = k + 1 := ⟨n - 1, by omega⟩
    exact .list hl fun d hd => ih d hd (by omega)
  | tuple hl h ih =>
    obtain ⟨k, rfl⟩ : ∃ k, n = k + 1 := ⟨n - 1, by omega⟩
    exact .tuple hl fun d hd => ih d hd (by omega)
theorem Sm.pair {m : Nat} {a b : Int} (h : Sm m (.tuple [.int a, .int b])) : a.natAbs < 2 ^ 200 ∧ b.natAbs < 2 ^ 200 := by
  have int : ∀ {m : Nat} {i : Int}, Sm m (.int i) → i.natAbs < 2 ^ 200 := fun h => by
    cases h with
    | leaf _ _ _ h4 _ => exact h4 _ rfl
  cases h with
  | leaf _ _ _ _ h5 => exact absurd (h5 _ rfl) (by simp)
  | tuple hl h => exact ⟨int (h _ (by simp)), int (h _ (by simp))⟩
end L2.RL
end
section
set_option Elab.async false
set_option linter.all false
set_option maxRecDepth 100000
set_option maxHeartbeats 2000000
/-! comprehensions over a sequence, and with invariants that name the new list -/
namespace L2.RL
open PySem PySem.Spec PyProof.Rows
section
variable {K : PySem.W.Frag} {σ : St} {H : Hp} {Q : VK} {D : Ends}
theorem w_lcIL {J : It} {g : TG} {tt : TT} {te : TE} {vs : List Nat} {R : Addr → Hp → Prop} (n : Nat) (I : Addr → Nat → List V → Hp → Prop) (h0 : ∀ L, H L = none → I L 0 [] (upd H L (.lst [])))
    (h : ∀ L i acc H2, H L = none → i < n → H2 L = some (.lst acc) → acc.length ≤ i → I L i acc H2 → J.go i H2 ∧ ∀ x H', J.yld i H2 x H' → g x (wipe σ vs) H' fun σ2 H2 => wipe σ2 vs = wipe σ vs ∧ tt σ2 H2 fun b H3 =>
      if b = true then te σ2 H3 fun y H4 => ∃ acc, H4 L = some (.lst acc) ∧ acc.length < sizeLine ∧ LcN L (i + 1) (I L) (upd H4 L (.lst (acc ++ [y]))) else LcN L (i + 1) (I L) H3)
    (hz : ∀ L acc H2, H L = none → H2 L = some (.lst acc) → I L n acc H2 → J.stop n H2 ∧ R L H2) :
    ∀ L, H L = none → ∃ W : Nat → Nat → Hp → Prop, (∃ m, W 0 m (upd H L (.lst []))) ∧ ∀ i m H, W i m H →
      (J.stop i H ∧ R L H) ∨ (J.go i H ∧ ∃ Nx : Hp → Prop, (∀ H', Nx H' → ∃ m', m' < m ∧ W (i + 1) m' H') ∧ ∀ x H', J.yld i H x H' → g x (wipe σ vs) H' fun σ2 H2 => wipe σ2 vs = wipe σ vs ∧ tt σ2 H2 fun b H3 =>
        if b = true then te σ2 H3 fun y H4 => ∃ acc, H4 L = some (.lst acc) ∧ acc.length < sizeLine ∧ Nx (upd H4 L (.lst (acc ++ [y]))) else Nx H3) := by
  intro L hL
  refine ⟨fun i m H2 => i ≤ n ∧ m = n - i ∧ LcN L i (I L) H2, ⟨n, Nat.zero_le _, rfl, [], upd_same, Nat.le_refl _, h0 L hL⟩, fun i m H2 ⟨h1, h2, acc, h3, h4, h5⟩ => ?_⟩
  rcases Nat.lt_or_ge i n with c | c
  · obtain ⟨q1, q2⟩ := h L i acc H2 hL c h3 h4 h5
    exact .inr ⟨q1, LcN L (i + 1) (I L), fun H' q => ⟨n - (i + 1), by omega, by omega, rfl, q⟩, q2⟩
  · obtain rfl : i = n := by omega
    exact .inl (hz L acc H2 hL h3 h5)
theorem w_lcRL {lo : Int} {g : TG} {tt : TT} {te : TE} {vs : List Nat} {R : Addr → Hp → Prop} (n : Nat) (I : Addr → Nat → List V → Hp → Prop) (h0 : ∀ L, H L = none → I L 0 [] (upd H L (.lst [])))
    (h : ∀ L i acc H2, H L = none → i < n → H2 L = some (.lst acc) → acc.length ≤ i → I L i acc H2 → g (.int (lo + (i : Nat))) (wipe σ vs) H2 fun σ2 H2 => wipe σ2 vs = wipe σ vs ∧ tt σ2 H2 fun b H3 =>
      if b = true then te σ2 H3 fun y H4 => ∃ acc, H4 L = some (.lst acc) ∧ acc.length < sizeLine ∧ LcN L (i + 1) (I L) (upd H4 L (.lst (acc ++ [y]))) else LcN L (i + 1) (I L) H3)
    (hz : ∀ L acc H2, H L = none → H2 L = some (.lst acc) → I L n acc H2 → R L H2) :
    ∀ L, H L = none → ∃ W : Nat → Nat → Hp → Prop, (∃ m, W 0 m (upd H L (.lst []))) ∧ ∀ i m H, W i m H →
      ((Itr lo n).stop i H ∧ R L H) ∨ ((Itr lo n).go i H ∧ ∃ Nx : Hp → Prop, (∀ H', Nx H' → ∃ m', m' < m ∧ W (i + 1) m' H') ∧ ∀ x H', (Itr lo n).yld i H x H' → g x (wipe σ vs) H' fun σ2 H2 => wipe σ2 vs = wipe σ vs ∧ tt σ2 H2 fun b H3 =>
        if b = true then te σ2 H3 fun y H4 => ∃ acc, H4 L = some (.lst acc) ∧ acc.length < sizeLine ∧ Nx (upd H4 L (.lst (acc ++ [y]))) else Nx H3) :=
  w_lcIL n I h0 (fun L i acc H2 a1 a2 a3 a4 a5 => ⟨a2, fun x H' ⟨e1, e2⟩ => by subst e1 e2; exact h L i acc _ a1 a2 a3 a4 a5⟩) (fun L acc H2 a1 a2 a3 => ⟨Nat.le_refl n, hz L acc H2 a1 a2 a3⟩)
theorem w_lcSL {J : It} {xs : List V} {g : TG} {tt : TT} {te : TE} {vs : List Nat} {R : Addr → Hp → Prop} (I : Addr → Nat → List V → Hp → Prop) (hs : ∀ L i acc H, I L i acc H → SqJ J H xs) (h0 : ∀ L, H L = none → I L 0 [] (upd H L (.lst [])))
    (h : ∀ L i acc x H2, H L = none → xs[i]? = some x → H2 L = some (.lst acc) → acc.length ≤ i → I L i acc H2 → g x (wipe σ vs) H2 fun σ2 H2 => wipe σ2 vs = wipe σ vs ∧ tt σ2 H2 fun b H3 =>
      if b = true then te σ2 H3 fun y H4 => ∃ acc, H4 L = some (.lst acc) ∧ acc.length < sizeLine ∧ LcN L (i + 1) (I L) (upd H4 L (.lst (acc ++ [y]))) else LcN L (i + 1) (I L) H3)
    (hz : ∀ L acc H2, H L = none → H2 L = some (.lst acc) → I L xs.length acc H2 → R L H2) :
    ∀ L, H L = none → ∃ W : Nat → Nat → Hp → Prop, (∃ m, W 0 m (upd H L (.lst []))) ∧ ∀ i m H, W i m H →
      (J.stop i H ∧ R L H) ∨ (J.go i H ∧ ∃ Nx : Hp → Prop, (∀ H', Nx H' → ∃ m', m' < m ∧ W (i + 1) m' H') ∧ ∀ x H', J.yld i H x H' → g x (wipe σ vs) H' fun σ2 H2 => wipe σ2 vs = wipe σ vs ∧ tt σ2 H2 fun b H3 =>
        if b = true then te σ2 H3 fun y H4 => ∃ acc, H4 L = some (.lst acc) ∧ acc.length < sizeLine ∧ Nx (upd H4 L (.lst (acc ++ [y]))) else Nx H3) :=
  w_lcIL xs.length I h0 (fun L i acc H2 a1 a2 a3 a4 a5 => by
    obtain ⟨s1, s2⟩ := (hs L i acc H2 a5).1 i xs[i] (List.getElem?_eq_getElem a2)
    refine ⟨s1, fun x H' y => ?_⟩
    obtain ⟨e1, e2⟩ := s2 x H' y
    subst e1 e2
    exact h L i acc _ _ a1 (List.getElem?_eq_getElem a2) a3 a4 a5) (fun L acc H2 a1 a2 a3 => ⟨(hs L _ acc H2 a3).2 _ (Nat.le_refl _), hz L acc H2 a1 a2 a3⟩)
theorem take_step {α β : Type} {ds : List α} {f : α → β} {i : Nat} {d : α} (h : ds[i]? = some d) : (ds.take i).map f ++ [f d] = (ds.take (i + 1)).map f := by
  rw [List.take_add_one, h, List.map_append]
  rfl
theorem DqAll.at {B : Addr → Prop} {xs : List V} {ds : List PyData} (h : DqAll H B xs ds) : ∀ {i : Nat} {x : V}, xs[i]? = some x → ∃ d, ds[i]? = some d ∧ Dq H B x d := by
  induction xs generalizing ds with
  | nil =>
    intro i x e
    simp at e
  | cons y ys ih =>
    cases h with
    | cons h1 h2 =>
      intro i x e
      cases i with
      | zero =>
        simp only [List.getElem?_cons_zero, Option.some.injEq] at e
        subst e
        exact ⟨_, rfl, h1⟩
      | succ i => exact ih h2 (by simpa using e)
theorem DqAll.app {B : Addr → Prop} {xs ys : List V} {ds es : List PyData} (h : DqAll H B xs ds) (k : DqAll H B ys es) : DqAll H B (xs ++ ys) (ds ++ es) := by
  induction xs generalizing ds with
  | nil =>
    cases h
    exact k
  | cons y l ih =>
    cases h with
    | cons h1 h2 => exact .cons h1 (ih h2)
theorem DqAll.len {B : Addr → Prop} {xs : List V} {ds : List PyData} (h : DqAll H B xs ds) : xs.length = ds.length := by
  induction xs generalizing ds with
  | nil => cases h; rfl
  | cons y l ih =>
    cases h with
    | cons h1 h2 => rw [List.length_cons, List.length_cons, ih h2]
theorem eqv_bools (a b : Bool) : PyData.eqv (.list [.bool a, .bool b]) (.list [.bool true, .bool true]) = (a && b) := by cases a <;> cases b <;> decide +kernel
theorem w_eqBB {p q : Addr} {a b : Bool} (hp : H p = some (.lst [.bl a, .bl b])) (hq : H q = some (.lst [.bl true, .bl true])) (h : Q (.bl (a && b)) H) : rEqD K (.ref p) (.ref q) H Q :=
  ⟨_, _, .lst (SqL.of hp) (.cons (.bl a) (.cons (.bl b) .nil)), .lst (SqL.of hq) (.cons (.bl true) (.cons (.bl true) .nil)), by cases a <;> cases b <;> decide +kernel, by decide +kernel, by rw [eqv_bools]; exact h⟩
theorem w_tupOfL {p : Addr} {ys : List V} (hs : SqL K H p ys) (h : ∀ l H', H l = none → Same H H' → H' l = some (.tup ys) → Q (.ref l) H') : ∃ p' ys', [V.ref p] = [.ref p'] ∧ ((SqL K H p' ys' ∧ ∀ l, H l = none → Q (.ref l) (upd H l (.tup ys'))) ∨ (SqT K H p' ys' ∧ Q (.ref p') H)) :=
  ⟨p, ys, rfl, .inl ⟨hs, fun l n => h l _ n (same_upd n) upd_same⟩⟩
end
end L2.RL
end
section
set_option Elab.async false
set_option linter.all false
set_option maxRecDepth 100000
set_option maxHeartbeats 4000000
/-! dict displays, d.get(k, x), d[k], d[k] = v, d.update(e); a tuple times one; texts with fields; a call of a class amid a try -/
namespace L2.RL
open PySem PySem.Spec PyProof.Rows
section
variable {X : Cx}
def rUpd : V → List V → Hp → VK → Prop := fun x vs H Q => ∃ a b kvs more, x = .ref a ∧ vs = [.ref b] ∧ a ≠ b ∧ H a = some (.dK kvs) ∧ H b = some (.dK more) ∧ kvs.length + more.length ≤ 10000 ∧ Q .non (upd H a (.dK (mergeK kvs more)))
theorem mt_update : MtR X "dict.update" rUpd := by
  intro pins s σ H x vs v us Q I rx rv h
  obtain ⟨a, b, kvs, more, rfl, rfl, hne, ea, eb, hz, q⟩ := h
  cases rx
  obtain ⟨u, rfl, ru⟩ := rv.one
  cases (show u = Value.ref b from ru)
  obtain ⟨z1, hd1, vs1, rel1, dd1⟩ := dk_of I.hok ea
  obtain ⟨z2, hd2, vs2, rel2, dd2⟩ := dk_of I.hok eb
  have l1 := rel1.length
  have l2 := rel2.length
  have lm := length_mergeK more kvs
  have hs : (10000 : Nat) ≤ sizeLine := by decide
  refine call_meetsIn PySem.F.slot_dict_update dd1.typeIs PySem.F.entry_dict_update (PySem.F.args_dict_update_2 _ _) (meets_dict_update (mixKind X.prog X.w) a b hne hd2) ⟨vs1, vs2, dd1, dd2, by omega, fun h' d1 d2 hb => ?_⟩
  have he : ∃ q, h'.get? a = some q := let ⟨q, _, _, hq, _⟩ := d1; ⟨q, hq⟩
  exact ⟨.non, _, d_write I (by rw [ea]; exact True.intro) hb he (dk_new (by omega) hd1 (KV.merge rel2 rel1) d1), rfl, q⟩

theorem tuple_mulW1 (l : Addr) (items : Array Value) (n : Nat) (dd : Option Addr) (sl : Array (Option Value)) (u : Tok) :
    Meets (Builtin.«tuple.__mul__» ⟨[.ref l, .int 1 u], []⟩) (fun _ R s => s.heap.get? l = some { cls := .type "tuple", dict := dd, data := .seq items n, slots := sl } ∧
      R (.ok (.ret (Value.ref l))) s) :=
  .of_wp fun prog w A R s h => by
    obtain ⟨hp, g, d, tk, os⟩ := s
    obtain ⟨hl, h⟩ := h
    have f1 := AutoSeq1.idx_int
    wp_walk using wpAny_loadPart' hl
    exact ⟨_, rfl, h⟩
def rRepT1 (K : PySem.W.Frag) : R2 := fun x y H Q => ∃ l xs, x = .ref l ∧ y = .int 1 ∧ SqT K H l xs ∧ Q (.ref l) H
theorem op_repT1 : OpR X (binaryOp .Mult) (rRepT1 X.K) := by
  intro pins s σ H x y v u Q I rx ry h
  obtain ⟨l, xs, rfl, rfl, hT, q⟩ := h
  cases rx
  obtain ⟨t, rfl⟩ := ry
  obtain ⟨its, r, ⟨⟨cls, dd, data, sl⟩, ho, hc, n, hd⟩, hs⟩ := I.tuple hT
  simp only at hc hd
  subst hc hd
  exact wpAny_binaryOp_repeat_ref (T := "tuple") (U := "int") (by decide) ⟨_, ho, rfl⟩ (fun s' => typeIs_int s' 1 t) noFill_tuple_mul F.fills_int_mul F.slot_int_rmul repeat_tuple F.slot_int_index.lookup
    (call_meets F.slot_int_rmul (typeIs_int s 1 t) F.entry_int_rmul (F.args_int_rmul_2 _ _) (int_rmul_tuple 1 t l its.toArray n dd sl)
      ⟨ho, rfl, ⟨_, ho, rfl⟩, call_meets F.slot_tuple_mul ⟨_, ho, rfl⟩ F.entry_tuple_mul (F.args_tuple_mul_2 _ _) (tuple_mulW1 l its.toArray n dd sl t) ⟨ho, ⟨.ref l, H, I, rfl, q⟩⟩⟩)
def rRepTT (K : PySem.W.Frag) : R2 := fun x y H Q => rRepT1 K x y H Q ∨ rRepT K x y H Q
theorem op_repTT : OpR X (binaryOp .Mult) (rRepTT X.K) := by
  intro pins s σ H x y v u Q I rx ry h
  rcases h with h | h
  · exact op_repT1 pins s σ H x y v u Q I rx ry h
  · exact op_repT pins s σ H x y v u Q I rx ry h
end
section
variable {X : Cx} {CX : CXT} {k n : Nat} {f C : Addr} {fd : FuncData} {ps ks : List Str} {sp : Sp} {E : St → XK} {x : Str} {p pos : Pos} {e : Expr} {es : List Expr} {kws : List Keyword} {t tk : TA} {g : List Value → List Value → List Value} {gV : List V → List V → List V}
def tMakeKS (C : Addr) (n m : Nat) (sp : Sp) (gV : List V → List V → List V) (E : St → XK) (t tk : TA) : TE := fun σ H Q => tMakeK C n m sp gV (E σ) t tk σ H Q
theorem run_makeKS {pins : List (Addr × Obj)} {σ : St} {H : Hp} {s : Shared} {Q : VK} {us ws : List Value} {vs zs : List V} (M : Mk X.K C f) (F : FnOk X.prog X.w X.K X.mg X.base CX k f fd ps sp) (hr : Room (k + 1) X.A) (hb : KBn X.K fd ps (n + 1) ks g gV) (hx : PassesAt CX X σ (E σ))
    (I : Inv X pins σ H s) (r : Vals vs us) (rz : Vals zs ws) (l1 : vs.length = n) (l2 : zs.length = ks.length)
    (h : ∀ x dx, H x = none → H dx = none → dx ≠ x → sp (gV (.ref x :: vs) zs) (upd (upd H dx (.own x)) x (.ins C dx [])) (fun v H2 => v = .non ∧ Q (.ref x) H2) (E σ)) :
    wpAny (model X.prog X.w) X.A (call (.ref C) us (ks.zip ws)) (EP X pins σ Q) X.xe s := by
  have hq := h (s.heap.objs.size + 1) s.heap.objs.size (I.hok.fresh (Nat.le_succ _)) (I.hok.fresh (Nat.le_refl _)) (Nat.ne_of_lt (Nat.lt_succ_self _))
  have I2 := Inv.made (C := C) I
  have r1 : Vals (V.ref (s.heap.objs.size + 1) :: vs) (Value.ref (s.heap.objs.size + 1) :: us) := .cons rfl r
  have r2 := hb.rel r1 rz
  have n1 : (Value.ref (s.heap.objs.size + 1) :: us).length = n + 1 := by
    rw [List.length_cons, ← r.length, l1]
  refine wpAny_call (make_map (f := f) I.kIn M.makes M.init (beq_iff_eq.mp M.fn) (codeAny_mono (F.run _ X.stack _ _ ⟨Value.ref (s.heap.objs.size + 1) :: us, ks.zip ws⟩ (g (Value.ref (s.heap.objs.size + 1) :: us) ws) _ _ (E σ) (hr.make C us (ks.zip ws))
    (I2.env0.make C us (ks.zip ws)) (hb.to _ (Value.ref (s.heap.objs.size + 1) :: us) ws I2.kIn n1 (rz.length.symm.trans l2)) r2 hq) fun r s' hq' => ?_))
  cases r with
  | error e => exact hx pins _ _ e s' I2 hq'
  | ok fl =>
    cases fl with
    | ret u =>
      obtain ⟨v, H', I3, rv, ev, q3⟩ := I2.after hq'
      subst ev
      exact ⟨rv, ⟨V.ref (s.heap.objs.size + 1), H', I3, rfl, q3⟩⟩
    | next => exact False.elim hq'
    | brk => exact False.elim hq'
    | cont => exact False.elim hq'
theorem pe_makeKS (M : Mk X.K C f) (F : FnOk X.prog X.w X.K X.mg X.base CX k f fd ps sp) (hr : Room (k + 1) X.A) (hg : Gl X x) (hm : X.mg x = some (.ref C)) (hb : KBn X.K fd ps (n + 1) ks g gV) (hx : ∀ σ, PassesAt CX X σ (E σ)) (ha : PA X (e :: es) t) (hkw : PK X kws tk)
    (hall : (backToKw pos (keywordEach kws X.env)).all (·.1.isSome) = true := by rfl) (hks : (backToKw pos (keywordEach kws X.env)).filterMap (·.1) = ks := by rfl) (hdb : (x == ("__debug__" : Str)) = false := by decide)
    (he : starEach (e :: es) X.env = (false, eval e X.env) :: starEach es X.env := by rfl) (hpl : ((backTo pos (starEach (e :: es) X.env)).any (·.1) || (backToKw pos (keywordEach kws X.env)).any (·.1.isNone)) = false := by rfl) :
    PE X (.Call (.Name x p) (e :: es) kws pos) (tMakeKS C n ks.length sp gV E t tk) := by
  refine ⟨fun pins s σ H Q I h => ?_⟩
  refine wpAny_Call_Name_kw (ld_glob I hg hm ?_ hdb)
  refine PySem.W.callWith_KW (h₀ := X.base) I.ok.mod.kin M.kp hall (thn (ha.run pos pins s σ H _ I h) fun us s1 ⟨vs, H1, I1, r, q⟩ => ?_) hpl he
  refine thn (hkw.run pos pins s1 σ H1 _ I1 q) fun ws s2 ⟨zs, H2, I2, rz, l1, l2, q2⟩ => ⟨I2.kIn, ?_⟩
  rw [hks]
  exact run_makeKS (E := E) M F hr hb (hx σ) I2 r rz l1 l2 q2
end
section
variable {K : PySem.W.Frag} {σ : St} {H : Hp} {Q : VK} {D : Ends}
theorem w_makeKS {C : Addr} {n m : Nat} {sp : Sp} {gV : List V → List V → List V} {E : St → XK} {t tk : TA} (h : t σ H fun vs H1 => tk σ H1 fun zs H2 => vs.length = n ∧ zs.length = m ∧ ∀ x dx, H2 x = none → H2 dx = none → dx ≠ x →
  sp (gV (.ref x :: vs) zs) (upd (upd H2 dx (.own x)) x (.ins C dx [])) (fun v H3 => v = .non ∧ Q (.ref x) H3) (E σ)) : tMakeKS C n m sp gV E t tk σ H Q := h
theorem w_tyD {a : Addr} {kvs : List (Key × V)} {A : Prop} (hs : H a = some (.dK kvs)) (h : A) : tyV K "dict" (.ref a) H ∧ A := ⟨.inr (.inr (.inl ⟨rfl, .inl ⟨kvs, hs⟩⟩)), h⟩
theorem w_update {a b : Addr} {kvs more m : List (Key × V)} (ea : H a = some (.dK kvs)) (eb : H b = some (.dK more)) (hne : a ≠ b) (hl : kvs.length + more.length ≤ 10000) (hm : mergeK kvs more = m) (h : Q .non (upd H a (.dK m))) : rUpd (.ref a) [.ref b] H Q :=
  ⟨a, b, kvs, more, rfl, rfl, hne, ea, eb, hl, by rw [hm]; exact h⟩
theorem w_dget {td ty : TE} (h : td σ H fun x H1 => ty σ H1 fun y H2 => ∃ a v, x = .ref a ∧ DGet H2 a y (some v) ∧ Q v H2) : tDGet td ty σ H Q := h
theorem w_dgetK {a : Addr} {kvs : List (Key × V)} {k : Key} {v : V} (e : H a = some (.dK kvs)) (hv : valV kvs k = some v) (h : Q v H) : ∃ a' v', V.ref a = .ref a' ∧ DGet H a' (kV k) (some v') ∧ Q v' H := ⟨a, v, rfl, by rw [← hv]; exact DGet.k e, h⟩
theorem w_dgetI {a : Addr} {kvs : List (Key × V)} {i : Int} {v : V} (e : H a = some (.dK kvs)) (hv : valV kvs (.inl i) = some v) (h : Q v H) : ∃ a' v', V.ref a = .ref a' ∧ DGet H a' (.int i) (some v') ∧ Q v' H := w_dgetK (k := .inl i) e hv h
theorem w_dgetS {a : Addr} {kvs : List (Key × V)} {i : Str} {v : V} (e : H a = some (.dK kvs)) (hv : valV kvs (.inr i) = some v) (h : Q v H) : ∃ a' v', V.ref a = .ref a' ∧ DGet H a' (.str i) (some v') ∧ Q v' H := w_dgetK (k := .inr i) e hv h
theorem w_dget2 {td ty tx : TE} (h : td σ H fun x H1 => ∃ a, x = .ref a ∧ IsD H1 a ∧ ty σ H1 fun y H2 => tx σ H2 fun z H3 => ∃ o, DGet H3 a y o ∧ Q (o.getD z) H3) : tDGet2 td ty tx σ H Q := h
theorem w_isD {a : Addr} {kvs : List (Key × V)} {P : Addr → Prop} (e : H a = some (.dK kvs)) (h : P a) : ∃ a', V.ref a = .ref a' ∧ IsD H a' ∧ P a' := ⟨a, rfl, .inl ⟨kvs, .inl e⟩, h⟩
theorem w_dget2K {a : Addr} {kvs : List (Key × V)} {k : Key} {z : V} (e : H a = some (.dK kvs)) (h : Q ((valV kvs k).getD z) H) : ∃ o, DGet H a (kV k) o ∧ Q (o.getD z) H := ⟨_, DGet.k e, h⟩
theorem w_dget2I {a : Addr} {kvs : List (Key × V)} {i : Int} {z : V} (e : H a = some (.dK kvs)) (h : Q ((valV kvs (.inl i)).getD z) H) : ∃ o, DGet H a (.int i) o ∧ Q (o.getD z) H := w_dget2K (k := .inl i) e h
theorem w_dget2S {a : Addr} {kvs : List (Key × V)} {i : Str} {z : V} (e : H a = some (.dK kvs)) (h : Q ((valV kvs (.inr i)).getD z) H) : ∃ o, DGet H a (.str i) o ∧ Q (o.getD z) H := w_dget2K (k := .inr i) e h
theorem w_setDS {a : Addr} {kvs m : List (Key × V)} {i : Str} {v : V} {R : Hp → Prop} (e : H a = some (.dK kvs)) (hl : kvs.length < 10000) (hm : putK kvs (.inr i) v = m) (h : R (upd H a (.dK m))) : rSetD (.ref a) (.str i) v H R :=
  ⟨a, _, rfl, DPut.k (k := .inr i) e (Nat.lt_of_lt_of_le hl (by decide)), by rw [hm]; exact h⟩
theorem w_dispN {trs : List (TE × TE)} (h : ∀ p H1, H p = none → Same H H1 → H1 p = some (.dK []) → tPairs trs σ H1 fun ps H2 => H2 p = some (.dK []) ∧ ∃ kvs : List (Key × V), ps = kvs.map (fun kv => (kV kv.1, kv.2)) ∧ kvs.length ≤ 15 ∧ Q (.ref p) (upd H2 p (.dK (mergeK [] kvs)))) : tDisp trs σ H Q :=
  fun p n => h p _ n (same_upd n) upd_same
theorem w_pNil {R : List (V × V) → Hp → Prop} (h : R [] H) : tPairs [] σ H R := h
theorem w_pCons {tk tv : TE} {r : List (TE × TE)} {R : List (V × V) → Hp → Prop} (h : tk σ H fun x H1 => tv σ H1 fun y H2 => tPairs r σ H2 fun ps H3 => R ((x, y) :: ps) H3) : tPairs ((tk, tv) :: r) σ H R := h
theorem w_dispE {p : Addr} {ps : List (V × V)} {kvs m : List (Key × V)} (e : H p = some (.dK [])) (hp : ps = kvs.map (fun kv => (kV kv.1, kv.2))) (hl : kvs.length ≤ 15) (hm : mergeK [] kvs = m) (h : ∀ H3, But p H H3 → H3 p = some (.dK m) → Q (.ref p) H3) :
    H p = some (.dK []) ∧ ∃ kvs : List (Key × V), ps = kvs.map (fun kv => (kV kv.1, kv.2)) ∧ kvs.length ≤ 15 ∧ Q (.ref p) (upd H p (.dK (mergeK [] kvs))) :=
  ⟨e, kvs, hp, hl, by rw [hm]; exact h _ But.upd upd_same⟩
theorem Same.but_new {p : Addr} {H0 H1 H2 : Hp} (n : H0 p = Option.none) (s : Same H0 H1) (b : But p H1 H2) : Same H0 H2 := fun a o e => b a o (ne_of_none e n) (s a o e)
theorem But.but_new {p q : Addr} {H0 H1 H2 : Hp} (n : H0 p = Option.none) (s : But q H0 H1) (b : But p H1 H2) : But q H0 H2 := fun a o ne e => b a o (ne_of_none e n) (s a o ne e)
theorem w_repT1 {l : Addr} {xs : List V} {k : Int} (hT : SqT K H l xs) (hk : k = 1) (h : Q (.ref l) H) : rRepTT K (.ref l) (.int k) H Q := .inl ⟨l, xs, rfl, by rw [hk], hT, h⟩
theorem w_repTN {l : Addr} {xs : List V} {k : Int} (hT : SqT K H l xs) (hn : xs ≠ []) (h2 : 2 ≤ k) (h3 : k ≤ 1000) (hl : xs.length ≤ 1000) (h : ∀ p H', H p = none → Same H H' → H' p = some (.tup (List.replicate k.toNat xs).flatten) → Q (.ref p) H') : rRepTT K (.ref l) (.int k) H Q :=
  .inr ⟨l, k, xs, rfl, rfl, hT, hn, h2, h3, hl, fun p n => h p _ n (same_upd n) upd_same⟩
theorem w_jNil {acc : Str} {R : Str → Hp → Prop} (h : R acc H) : tJs [] acc σ H R := h
theorem w_jCons {t : TE} {ts : List TE} {acc : Str} {R : Str → Hp → Prop} (h : t σ H fun x H1 => ∃ y : Str, x = .str y ∧ (acc ++ y).length ≤ sizeLine ∧ tJs ts (acc ++ y) σ H1 R) : tJs (t :: ts) acc σ H R := h
theorem w_fmtS {te : TE} (h : te σ H fun x H1 => ∃ y : Str, x = .str y ∧ y.length ≤ sizeLine ∧ Q (.str y) H1) (mono : ∀ {R1 R2 : VK}, te σ H R1 → (∀ v H1, R1 v H1 → R2 v H1) → te σ H R2) : tFmt te σ H Q := mono h fun v H1 ⟨y, e, l, q⟩ => .inl ⟨y, e, l, q⟩
theorem w_prop {C : Addr} {sp : Sp} {dvs : List V} {E : XK} {ta : TE} (h : ta σ H fun x H1 => ∃ a dx fs, x = .ref a ∧ H1 a = some (.ins C dx fs) ∧ sp (.ref a :: dvs) H1 Q E) : tProp C sp dvs E ta σ H Q := h
end
end L2.RL
end
section
set_option Elab.async false
set_option linter.all false
set_option maxRecDepth 100000
set_option maxHeartbeats 4000000
/-! properties of an own class, told by a check of the heap -/
namespace L2.RL
open PySem PySem.Spec PyProof.Rows He
def gAd (K : PySem.W.Frag) (C f : Str) : Addr := match PySem.W.recIn K (ma K (ga K C) f) "property" with
  | some (.ref g :: _) => g
  | _ => 0
def propB (K : PySem.W.Frag) (C f : Str) : Bool := decide (PySem.W.findIn K (.ref (ga K C)) f = some (some (.ref (ma K (ga K C) f)))) && (decide (PySem.W.specialIn K (.ref (ma K (ga K C) f)) "__get__" = some (some (.builtin "property.__get__"))) &&
  (decide (PySem.W.takesIn K (.ref (ma K (ga K C) f)) = some true) && (match PySem.W.recIn K (ma K (ga K C) f) "property" with
  | some (.ref _ :: _) => true
  | _ => false)))
theorem propB_ok {K : PySem.W.Frag} {C f : Str} (h : propB K C f = true) : PropOf K (ga K C) f (ma K (ga K C) f) (gAd K C f) := by
  obtain ⟨h1, h⟩ := ba h
  obtain ⟨h2, h⟩ := ba h
  obtain ⟨h3, h4⟩ := ba h
  refine ⟨of_decide_eq_true h1, of_decide_eq_true h2, of_decide_eq_true h3, ?_⟩
  unfold gAd
  split at h4
  · rename_i g rest e
    rw [e]
    exact ⟨rest, rfl⟩
  · cases h4
structure PrD where
  cls : Str
  name : Str
  qual : Str
  params : Arguments
  body : List Stmt
  scope : Scope
def gW (K : PySem.W.Frag) (a : Addr) : FnW := match K.lookup a with
  | some ⟨_, _, .func fd, _⟩ => some (fd.name, fd.qualname, fd.params, fd.body, fd.scope, fd.globals, fd.closure, fd.builtins)
  | _ => none
def PrD.val (d : PrD) : FnW := some (d.name, d.qual, d.params, .stmts d.body, d.scope, mainGlobals, [], builtinsNs)
def PrD.ok (K : PySem.W.Frag) (d : PrD) : Bool := propB K d.cls d.name && (PySem.W.keepIn K (.ref (gAd K d.cls d.name)) && (match K.lookup (gAd K d.cls d.name) with
  | some ⟨_, _, .func fd, _⟩ => PySem.W.codeIn K fd.code d.qual && (dflB K fd.defaults [] && kwdB K fd.kwdefaults [])
  | _ => false))
def SaysP (pr : List PrD) (K : PySem.W.Frag) : Prop := (((pr.all fun d => d.ok K), pr.map fun d => gW K (gAd K d.cls d.name)) : AlD) = (true, pr.map PrD.val)
theorem PrD.funD {K : PySem.W.Frag} {d : PrD} (e : gW K (gAd K d.cls d.name) = d.val) (c : d.ok K = true) :
    PropOf K (ga K d.cls) d.name (ma K (ga K d.cls) d.name) (gAd K d.cls d.name) ∧ ∃ fd, FunD K d.name d.qual d.params d.body d.scope [] [] (gAd K d.cls d.name) fd := by
  obtain ⟨c0, c1⟩ := ba c
  obtain ⟨kp, c2⟩ := ba c1
  refine ⟨propB_ok c0, ?_⟩
  unfold gW at e
  cases q : K.lookup (gAd K d.cls d.name) with
  | none =>
    rw [q] at c2
    cases c2
  | some o =>
    obtain ⟨oc, od, dt, osl⟩ := o
    rw [q] at c2 e
    cases dt with
    | func fd =>
      obtain ⟨n1, n2, n3, n4, n5, n6, n7, n8, n9, n10, n11, n12, n13, n14, n15⟩ := fd
      have e2 : (some (n1, n2, n3, n4, n5, n6, n7, n15) : FnW) = some (d.name, d.qual, d.params, .stmts d.body, d.scope, mainGlobals, [], builtinsNs) := e
      simp only [Option.some.injEq, Prod.mk.injEq] at e2
      obtain ⟨h1, h2, h3, h4, h5, h6, h7, h8⟩ := e2
      subst h1 h2 h3 h4 h5 h6 h7 h8
      have c3 : (PySem.W.codeIn K n13 d.qual && (dflB K n8 [] && kwdB K n9 [])) = true := c2
      obtain ⟨k1, k2⟩ := ba c3
      obtain ⟨k3, k4⟩ := ba k2
      exact ⟨_, ⟨oc, od, n8, n9, n10, n11, n12, n13, n14, osl, rfl, q, k1, dflB_ok k3, kwdB_ok k4⟩, kp⟩
    | _ => cases c2
theorem SaysP.at_ {pr : List PrD} {K : PySem.W.Frag} (c : SaysP pr K) (i : Nat) {d : PrD} (h : pr[i]? = some d := by rfl) :
    PropOf K (ga K d.cls) d.name (ma K (ga K d.cls) d.name) (gAd K d.cls d.name) ∧ ∃ fd, FunD K d.name d.qual d.params d.body d.scope [] [] (gAd K d.cls d.name) fd := by
  have c1 : (pr.all fun d => d.ok K) = true := congrArg (fun z : AlD => z.1) c
  have e : pr.map (fun d => gW K (gAd K d.cls d.name)) = pr.map PrD.val := congrArg (fun z : AlD => z.2) c
  have e2 : (pr.map fun d => gW K (gAd K d.cls d.name))[i]? = (pr.map PrD.val)[i]? := by rw [e]
  rw [List.getElem?_map, List.getElem?_map, h] at e2
  exact PrD.funD (Option.some.inj e2) (List.all_eq_true.mp c1 d (List.mem_of_getElem? h))
structure Lq (P : Program) (w : World) (K : PySem.W.Frag) (mg : Str → Option Value) (base : Heap) (CX : CXT) (k : Nat) (C : Str) (m : Str) (ps : List Str) (dvs : List V) (sp : Sp) : Prop where
  ex : ∃ fd ds, FnOk P w K mg base CX k (gAd K C m) fd ps sp ∧ Binds K fd ps ds ∧ Vals dvs ds
section
variable {K : PySem.W.Frag} {σ : St} {H : Hp} {Q : VK} {D : Ends}
theorem w_par3 {i j l : Nat} {ta : TA} (h : ta σ H fun vs H1 => ∃ u v w, vs = [u, v, w] ∧ D.nx (((σ.set i (some u)).set j (some v)).set l (some w)) H1) : tPar3 i j l ta D σ H := h
theorem w_par3a {i j l : Nat} {u v w : V} (h : D.nx (((σ.set i (some u)).set j (some v)).set l (some w)) H) : ∃ u' v' w', [u, v, w] = [u', v', w'] ∧ D.nx (((σ.set i (some u')).set j (some v')).set l (some w')) H := ⟨u, v, w, rfl, h⟩
theorem room_u1 {k : Nat} {A : Around} (r : Room k A) : A.units + 1 < cLine := by
  have := r.un
  omega
end
end L2.RL
end
section
set_option Elab.async false
set_option linter.all false
set_option maxRecDepth 100000
set_option maxHeartbeats 4000000
/-! a cut behind a statement; displays told as a whole; tests a if c else b; slices; a loop over a list or a tuple -/
namespace L2.RL
open PySem PySem.Spec PyProof.Rows
theorem w_cut {t u : TS} {D : Ends} {σ : L2.St} {H : Hp} (I : L2.St → Hp → Prop) (h1 : ∀ N : L2.St → Hp → Prop, (∀ σ' H', I σ' H' → N σ' H') → t { D with nx := N } σ H) (h2 : ∀ σ' H', I σ' H' → u D σ' H') : tSeq t u D σ H := h1 _ h2
theorem w_inTG {K : PySem.W.Frag} {H : Hp} {Q : VK} {x : V} {p : Addr} {xs : List V} (hs : SqT K H p xs) (fx : flatV x = true) (fs : xs.all flatV = true) (h : ∀ b : Bool, Q (.bl b) H) : rIn K false x (.ref p) H Q := w_inT hs fx fs (h _)
theorem memS {x : V} {ns : List Str} (h : x ∈ ns.map V.str) : ∃ n, x = .str n := let ⟨n, _, e⟩ := List.mem_map.mp h; ⟨n, e.symm⟩
def DispEnd (p : Addr) (ps : List (V × V)) (H : Hp) (Q : VK) : Prop := H p = some (.dK []) ∧ ∃ kvs : List (Key × V), ps = kvs.map (fun kv => (kV kv.1, kv.2)) ∧ kvs.length ≤ 15 ∧ Q (.ref p) (upd H p (.dK (mergeK [] kvs)))
theorem w_dispP {σ : L2.St} {H : Hp} {Q : VK} {trs : List (TE × TE)} (h : ∀ p H1, H p = none → Same H H1 → H1 p = some (.dK []) → tPairs trs σ H1 fun ps H2 => DispEnd p ps H2 Q) : tDisp trs σ H Q :=
  fun p n => h p _ n (same_upd n) upd_same
theorem w_dispE2 {H : Hp} {Q : VK} {p : Addr} {ps : List (V × V)} (kvs m : List (Key × V)) (e : H p = some (.dK [])) (hp : ps = kvs.map (fun kv => (kV kv.1, kv.2))) (hl : kvs.length ≤ 15) (hm : mergeK [] kvs = m) (h : ∀ H3, But p H H3 → H3 p = some (.dK m) → Q (.ref p) H3) : DispEnd p ps H Q :=
  ⟨e, kvs, hp, hl, by rw [hm]; exact h _ But.upd upd_same⟩
def tIfT (tc ta tb : L2.TT) : L2.TT := fun σ H Q => tc σ H fun k H1 => if k = true then ta σ H1 Q else tb σ H1 Q
theorem pt_ifT {X : Cx} {c a b : Expr} {pos : Pos} {tc ta tb : L2.TT} (hc : PT X c tc) (ha : PT X a ta) (hb : PT X b tb) : PT X (.IfExp c a b pos) (tIfT tc ta tb) := by
  refine ⟨fun pins s σ H Q I h => ?_⟩
  rw [PySem.isTrue]
  refine wpAny_bind (thn (hc.run pins s σ H _ I h) fun k s1 ⟨H1, I1, q1⟩ => ?_)
  cases k with
  | true =>
    rw [if_pos rfl] at q1 ⊢
    exact ha.run pins s1 σ H1 Q I1 q1
  | false =>
    rw [if_neg (by decide)] at q1 ⊢
    exact hb.run pins s1 σ H1 Q I1 q1
theorem w_ifT {σ : L2.St} {H : Hp} {tc ta tb : L2.TT} {R : Bool → Hp → Prop} (h : tc σ H fun k H1 => if k = true then ta σ H1 R else tb σ H1 R) : tIfT tc ta tb σ H R := h
theorem w_dgS {H : Hp} {R : V → Prop} {a : Addr} {kvs : List (Key × V)} {i : Str} {v : V} (e : H a = some (.dK kvs)) (hv : valV kvs (.inr i) = some v) (h : R v) : ∃ a' v', V.ref a = .ref a' ∧ DGet H a' (.str i) (some v') ∧ R v' := ⟨a, v, rfl, by rw [← hv]; exact DGet.k (k := .inr i) e, h⟩
theorem w_slL {K : PySem.W.Frag} {σ : L2.St} {H : Hp} {Q : VK} {te : TE} {tl th : TO} (h : te σ H fun x H1 => tl σ H1 fun l H2 => th σ H2 fun u H3 => rSlL K x l u H3 Q) : tSl (rSlL K) te tl th σ H Q := h
theorem w_noPart {σ : L2.St} {H : Hp} {R : Option Int → Hp → Prop} (h : R none H) : tNoPart σ H R := h
theorem w_part {σ : L2.St} {H : Hp} {te : TE} {R : Option Int → Hp → Prop} (h : te σ H fun x H1 => ∃ i, x = .int i ∧ R (some i) H1) : tPart te σ H R := h
theorem pi_seq {X : Cx} {tg l : Expr} {tl : TE} (hl : PE X l tl) : PI X tg l (fun σ H R => iList X.K tl σ H R ∨ iTup X.K tl σ H R) := ⟨fun pins s σ H R I h => h.elim (fun h => (pi_list hl).run pins s σ H R I h) (fun h => (pi_tup hl).run pins s σ H R I h)⟩
end L2.RL
end
section
set_option Elab.async false
set_option linter.all false
set_option maxRecDepth 100000
set_option maxHeartbeats 4000000
/-! dict comprehensions whose keys are tuples (the library's DictComp has those of ints and texts; statement and proof follow it) -/
namespace L2.RL
open PySem PySem.Spec PyProof.Rows
theorem d_dictSetT {X : Cx} {pins : List (Addr × Obj)} {σ : L2.St} {H : Hp} {s : Shared} {E : Value → Shared → Prop} {D b : Addr} {kvs : List (List Key × V)} {k : List Key} {v : V} {r : Value} {Q : Unit → Shared → Prop} (hu : X.A.units + 1 < cLine) (I : Inv X pins σ H s) (hD : H D = some (.dT kvs)) (hz : kvs.length < sizeLine)
    (eb : H b = some (.tup (k.map kV))) (rv : RelV v r) (h : ∀ s', Inv X pins σ (L2.upd H D (.dT (putK kvs k v))) s' → Q () s') : wpAny (model X.prog X.w) X.A (dictSet D (.ref b) r) Q E s := by
  obtain ⟨z, hd, xs, rel, dd⟩ := dt_of I.hok hD
  have hzv : xs.length ≤ sizeLine := by rw [← Paired.length rel]; exact z
  have hl : (putK kvs k v).length ≤ sizeLine := by have := length_putK kvs k v; omega
  refine wpAny_dictSet_heap (hsz := hzv) (show (tupleKind (mixKind X.prog X.w)).room X.A from Nat.lt_of_succ_lt hu) (key_of I.hok eb) dd fun h' dd' hs => h _ ?_
  obtain ⟨q, es, ep, hq, h2, h3, h4, _, h5⟩ := dd'
  refine d_write I (by rw [hD]; exact True.intro) hs ⟨q, hq⟩ ⟨hl, hd, _, (rel.put k eb rv).keeps fun c ys ec => ?_, q, es, ep, hq, h2, h3, h4, h5⟩
  rw [upd_ne (ne_of ec hD (fun z => nomatch z))]
  exact ec
section
variable {X : Cx}
def tDcT (wi : TI) (g : TG) (tt : L2.TT) (tk tv : TE) (vs : List Nat) : TE := fun σ H Q => wi σ H fun J H1 => ∀ D, H1 D = none → ∃ W : Nat → Nat → Hp → Prop, (∃ m, W 0 m (L2.upd H1 D (.dT []))) ∧ ∀ i m H, W i m H →
  (J.stop i H ∧ Q (.ref D) H) ∨ (J.go i H ∧ ∃ Nx : Hp → Prop, (∀ H', Nx H' → ∃ m', m' < m ∧ W (i + 1) m' H') ∧ ∀ x H', J.yld i H x H' → g x (wipe σ vs) H' fun σ2 H2 => wipe σ2 vs = wipe σ vs ∧ tt σ2 H2 fun b H3 =>
    if b = true then tk σ2 H3 fun y H4 => tv σ2 H4 fun z H5 => ∃ kvs k b, y = .ref b ∧ H5 b = some (.tup (k.map kV)) ∧ H5 D = some (.dT kvs) ∧ kvs.length < sizeLine ∧ Nx (L2.upd H5 D (.dT (putK kvs k z))) else Nx H3)
theorem pe_dcT {kx vx tg iter : Expr} {ifs : List Expr} {scope : Scope} {own : List (Str × Nat)} {pos : Pos} {wi : TI} {g : TG} {tt : L2.TT} {tk tv : TE} (hu : X.A.units + 1 < cLine) (hc : X.calm = true) (hN : X.N.Nodup) (hi : PI X tg iter wi) (ok : BlkOk X.N X.env.scope scope own)
    (hg : ∀ (s : Shared) (H : Hp) (C : Addr) (cl : List (Str × Addr)) (fp : List Addr), PG (X.blk s H scope (compEnvC scope cl C X.env) fp) tg g) (ht : ∀ (s : Shared) (H : Hp) (C : Addr) (cl : List (Str × Addr)) (fp : List Addr), PTs (X.blk s H scope (compEnvC scope cl C X.env) fp) ifs tt)
    (hk : ∀ (s : Shared) (H : Hp) (C : Addr) (cl : List (Str × Addr)) (fp : List Addr), PE (X.blk s H scope (compEnvC scope cl C X.env) fp) kx tk)
    (he : ∀ (s : Shared) (H : Hp) (C : Addr) (cl : List (Str × Addr)) (fp : List Addr), PE (X.blk s H scope (compEnvC scope cl C X.env) fp) vx tv) (hs : ∀ x, foldedSetIterable iter X.env x = pure x := by intro _; rfl) :
    PE X (.DictComp kx vx [⟨tg, iter, ifs, 0⟩] scope pos) (tDcT wi g tt tk tv (own.map (·.2))) := by
  refine ⟨fun pins s σ H Q I h => ?_⟩
  rw [arm_eval_DictComp]
  have hfree : ∀ y ∈ scope.names, y.2 = .free → ∃ c, X.env.cells.lookup y.1 = some c := fun y hy e => by
    rcases ok.free y hy e with k | k
    · exact I.ok.has _ (.inl k)
    · exact I.ok.has _ (.inr k)
  refine wpAny_comprehension_free rfl hs (closure_ok hfree) ok.kind (fun y hy e => by rw [ok.uniq y hy, e])
    (thn (hi.run pins s σ H _ I h) fun xv s1 hx => thn hx fun itv s2 h2 => ?_)
  obtain ⟨it, fp, tn, J, H2, e, I2, T, st2, f2, q⟩ := h2
  subst e
  refine wpAny_newObj_type (newEnv_comp ?_)
  generalize hD : s2.heap.objs.size = D
  have hDn : H2 D = none := I2.hok.fresh (Nat.le_of_eq hD)
  obtain ⟨W, ⟨m0, w0⟩, turn⟩ := q D hDn
  generalize hs3 : ({ s2 with heap := s2.heap.push { cls := .type "dict", data := .dict #[] } } : Shared) = s3
  have I3 : Inv X pins σ (L2.upd H2 D (.dT [])) s3 := by
    rw [← hs3]
    refine I2.laid (t' := s2.toks) (fun b o e => Heap.get?_push_of_some _ e) (Nat.le_of_eq hD) ?_
    rw [← hD]
    exact dt_empty s2.heap I2.big
  have h3 : s3.heap = s2.heap.push { cls := .type "dict", data := .dict #[] } := by rw [← hs3]
  have f3 : ∀ b ∈ fp, FpOk X pins (L2.upd H2 D (.dT [])) b ∧ b < s3.heap.objs.size := fun b hb => by
    have hlt : b < s2.heap.objs.size := by
      obtain ⟨o, e, _⟩ := T.obj _ _ st2 b hb
      exact Heap.lt_size e
    refine ⟨⟨?_, (f2 b hb).2⟩, by rw [h3, Heap.size_push]; exact Nat.lt_succ_of_lt hlt⟩
    rw [upd_ne (by rw [← hD]; exact Nat.ne_of_lt hlt)]
    exact (f2 b hb).1
  have st3 : tn 0 s3.heap := T.keep _ _ _ st2 fun b _ o e => by rw [h3]; exact Heap.get?_push_of_some _ e
  have I4 := block_start I3 ok hN f3
  generalize hH3 : L2.upd H2 D (.dT []) = H3 at I3 I4 w0 f3
  generalize hcl : cellsFrom (s3.heap.objs.size + 1) scope.names (cloFrom X.env.cells scope.names []) = cl at I4
  have pg := hg s3 H3 s3.heap.objs.size cl fp
  have pt := ht s3 H3 s3.heap.objs.size cl fp
  have pk := hk s3 H3 s3.heap.objs.size cl fp
  have pe := he s3 H3 s3.heap.objs.size cl fp
  subst hcl
  show codeAny _ _ (.compStart (.DictComp kx vx [⟨tg, iter, ifs, 0⟩] scope pos) 0 (.ref it) (.ref D) (compEnvC scope (cellsFrom (s3.heap.objs.size + 1) scope.names (cloFrom X.env.cells scope.names [])) s3.heap.objs.size X.env)) (compPost (model X.prog X.w) X.A X.xe _ _ (.ref D) s3.heap.objs.size) { s3 with heap := pushCells (s3.heap.push { cls := .type "dict", data := .dict #[] }) scope.names }
  have nfp : ∀ b ∈ fp, H3 b = none := fun b hb => (f3 b hb).1.1
  generalize hce : compEnvC scope (cellsFrom (s3.heap.objs.size + 1) scope.names (cloFrom X.env.cells scope.names [])) s3.heap.objs.size X.env = ce at I4 pg pt pk pe ⊢
  have cL : ce.locals = s3.heap.objs.size := by subst hce; rfl
  generalize hs4 : ({ s3 with heap := pushCells (s3.heap.push { cls := .type "dict", data := .dict #[] }) scope.names } : Shared) = s4 at I4 ⊢
  have st4 : tn 0 s4.heap := T.keep _ _ _ st3 fun b _ o e => by rw [← hs4]; exact pushCells_keeps _ _ _ _ (Heap.get?_push_of_some _ e)
  have stat : ∀ {σ' : L2.St} {H' : Hp} {s' : Shared}, Inv (X.blk s3 H3 scope ce fp) [] σ' H' s' → (∀ b ∈ fp, H' b = none) → ∀ b ∈ fp, FpOk (X.blk s3 H3 scope ce fp) [] H' b := fun {σ' H' s'} I' hn b hb =>
    ⟨hn b hb, (I'.ok.exf b hb).1, I'.ok.exfs b hb, .inl hb, fun x c e => (I'.ok.exf b hb).2 x c e, fun p hp => absurd (show p ∈ ([] : List (Addr × Obj)) ++ [] from hp) (by simp)⟩
  refine codeAny_compStart_dict ?loop (T.self X.A 0 _ _ _ st4 ?loop)
  refine compLoop_anyD (fun n s' => ∃ i H', Inv (X.blk s3 H3 scope ce fp) [] (wipe σ (own.map (·.2))) H' s' ∧ tn i s'.heap ∧ (∀ b ∈ fp, H' b = none) ∧ W i n H') ?_ m0 ⟨0, H3, I4, st4, nfp, w0⟩
  rintro n s5 ⟨i, H5, I5, st5, n5, w5⟩
  rcases turn i n H5 w5 with ⟨stop, qq⟩ | ⟨go, Nx, hNx, step⟩
  · refine thnF (T.done (X.blk s3 H3 scope ce fp) rfl rfl rfl hc i [] s5 _ H5 (fun _ _ => False) I5 (stat I5 n5) st5 stop) fun r s6 ⟨hr, I6⟩ => ?_
    subst hr
    have I7 : Inv X pins σ H5 s6 := I3.call' (ch := fp) I6.os I6.base I6.hok I6.bare fun b hb => ⟨(f3 b hb).1.2.2.2.1, (f3 b hb).1.2.1, (f3 b hb).1.2.2.2.2.1, (f3 b hb).1.2.2.2.2.2⟩
    have nC : H5 s3.heap.objs.size = none := by
      have z : H5 ce.locals = none := I6.free
      rw [cL] at z
      exact z
    obtain ⟨m, hn, _⟩ := I6.loc
    have hn : s6.heap.Ns ce.locals m := hn
    rw [cL] at hn
    refine ⟨m, hn, fun h'' sb => ?_⟩
    obtain ⟨f0, f1, f2', f3', f4, f5⟩ := I3.fpOk (Nat.le_refl _) nC
    exact ⟨.ref D, H5, I7.turned (t' := s6.toks) (fun b o hb e => (sb.2 b hb).trans e) f0 f1 f3' f4 f5, rfl, qq⟩
  · refine thnF (T.item (X.blk s3 H3 scope ce fp) rfl rfl rfl hc i [] s5 _ H5 (fun _ _ => False) I5 (stat I5 n5) st5 go) fun r s6 ⟨u, hr, h6⟩ => ?_
    subst hr
    refine thnF h6 fun _ s7 ⟨x, H7, I7, r7, y7, st7, n7⟩ => ?_
    refine thnF (pg.run _ s7 _ H7 x u _ (I7.pinned (stat I7 n7) (T.obj _ _ st7)) r7 (step x H7 y7)) fun _ s8 ⟨σ8, H8, I8, hw8, q8⟩ => ?_
    refine thnF (pt.run _ s8 σ8 H8 _ I8 q8) fun b s9 ⟨H9, I9, q9⟩ => ?_
    have fin : ∀ {s' : Shared} {H' : Hp}, Inv (X.blk s3 H3 scope ce fp) ([] ++ pinsAt fp s7.heap) σ8 H' s' → Nx H' → ∃ m, m < n ∧ ∃ i H', Inv (X.blk s3 H3 scope ce fp) [] (wipe σ (own.map (·.2))) H' s' ∧ tn i s'.heap ∧ (∀ b ∈ fp, H' b = none) ∧ W i m H' := fun {s' H'} I' nx => by
      obtain ⟨m', hm, w'⟩ := hNx H' nx
      have pin' : ∀ b ∈ fp, ∀ o, s7.heap.get? b = some o → s'.heap.get? b = some o ∧ H' b = none := fun b hb o e =>
        let z := I'.pin (b, o) (List.mem_append_right _ (List.mem_append_right _ (mem_pinsAt hb e)))
        ⟨z.1, z.2.1⟩
      have hl : (wipe σ (own.map (·.2))).length = σ8.length := by rw [← hw8, wipe_length]
      refine ⟨m', hm, i + 1, H', (I'.unpinned (pins := [])).weak hl (fun j v e => ?_), T.keep _ _ _ st7 fun b hb o e => (pin' b hb o e).1, fun b hb => ?_, w'⟩
      · rw [← hw8] at e
        exact (wipe_some e).1
      · obtain ⟨o, e, _⟩ := T.obj _ _ st7 b hb
        exact (pin' b hb o e).2
    cases b with
    | false =>
      simp only [Bool.false_eq_true, if_false] at q9 ⊢
      exact fin I9 q9
    | true =>
      simp only [if_true] at q9 ⊢
      refine thnF (pk.run _ s9 σ8 H9 _ I9 q9) fun z s10 ⟨yk, H10, I10, r10, q10⟩ => ?_
      refine thnF (pe.run _ s10 σ8 H10 _ I10 q10) fun z2 s11 ⟨yv, H11, I11, r11, kvs, k, b, ek, hb11, hD11, hz11, nx⟩ => ?_
      subst ek
      cases (show z = Value.ref b from r10)
      exact d_dictSetT (X := X.blk s3 H3 scope ce fp) hu I11 hD11 hz11 hb11 r11 fun s12 I12 => fin I12 nx
end
def DcN (D : Addr) (i : Nat) (I : Nat → List (Key × V) → Hp → Prop) (H : Hp) : Prop := ∃ kvs, H D = some (.dK kvs) ∧ kvs.length ≤ i ∧ I i kvs H
theorem w_dcS {J : It} {xs : List V} {g : TG} {tt : L2.TT} {tk tv : TE} {vs : List Nat} {σ : L2.St} {H : Hp} {R : Addr → Hp → Prop} (I : Addr → Nat → List (Key × V) → Hp → Prop) (hs : ∀ D i kvs H, I D i kvs H → SqJ J H xs) (h0 : ∀ D, H D = none → I D 0 [] (L2.upd H D (.dK [])))
    (h : ∀ D i kvs x H2, H D = none → xs[i]? = some x → H2 D = some (.dK kvs) → kvs.length ≤ i → I D i kvs H2 → g x (wipe σ vs) H2 fun σ2 H3 => wipe σ2 vs = wipe σ vs ∧ tt σ2 H3 fun b H4 => if b = true then tk σ2 H4 fun y H5 => tv σ2 H5 fun z H6 => ∃ kvs k, y = kV k ∧ H6 D = some (.dK kvs) ∧ kvs.length < sizeLine ∧ DcN D (i + 1) (I D) (L2.upd H6 D (.dK (putK kvs k z))) else DcN D (i + 1) (I D) H4)
    (hz : ∀ D kvs H2, H D = none → H2 D = some (.dK kvs) → I D xs.length kvs H2 → R D H2) :
    ∀ D, H D = none → ∃ W : Nat → Nat → Hp → Prop, (∃ m, W 0 m (L2.upd H D (.dK []))) ∧ ∀ i m H, W i m H → (J.stop i H ∧ R D H) ∨ (J.go i H ∧ ∃ Nx : Hp → Prop, (∀ H', Nx H' → ∃ m', m' < m ∧ W (i + 1) m' H') ∧ ∀ x H2, J.yld i H x H2 → g x (wipe σ vs) H2 fun σ2 H3 => wipe σ2 vs = wipe σ vs ∧ tt σ2 H3 fun b H4 => if b = true then tk σ2 H4 fun y H5 => tv σ2 H5 fun z H6 => ∃ kvs k, y = kV k ∧ H6 D = some (.dK kvs) ∧ kvs.length < sizeLine ∧ Nx (L2.upd H6 D (.dK (putK kvs k z))) else Nx H4) := by
  intro D hD
  refine ⟨fun i m H2 => i ≤ xs.length ∧ m = xs.length - i ∧ DcN D i (I D) H2, ⟨xs.length, Nat.zero_le _, rfl, [], upd_same, Nat.le_refl _, h0 D hD⟩, fun i m H2 ⟨h1, h2, kvs, h3, h4, h5⟩ => ?_⟩
  rcases Nat.lt_or_ge i xs.length with c | c
  · obtain ⟨s1, s2⟩ := (hs D i kvs H2 h5).1 i xs[i] (List.getElem?_eq_getElem c)
    refine .inr ⟨s1, DcN D (i + 1) (I D), fun H' q => ⟨xs.length - (i + 1), by omega, by omega, rfl, q⟩, fun x H' y => ?_⟩
    obtain ⟨e1, e2⟩ := s2 x H' y
    subst e1 e2
    exact h D i kvs _ _ hD (List.getElem?_eq_getElem c) h3 h4 h5
  · obtain rfl : i = xs.length := by omega
    exact .inl ⟨(hs D _ kvs H2 h5).2 _ (Nat.le_refl _), hz D kvs H2 hD h3 h5⟩
def DcNT (D : Addr) (i : Nat) (I : Nat → List (List Key × V) → Hp → Prop) (H : Hp) : Prop := ∃ kvs, H D = some (.dT kvs) ∧ kvs.length ≤ i ∧ I i kvs H
theorem w_dcST {J : It} {xs : List V} {g : TG} {tt : L2.TT} {tk tv : TE} {vs : List Nat} {σ : L2.St} {H : Hp} {R : Addr → Hp → Prop} (I : Addr → Nat → List (List Key × V) → Hp → Prop) (hs : ∀ D i kvs H, I D i kvs H → SqJ J H xs) (h0 : ∀ D, H D = none → I D 0 [] (L2.upd H D (.dT [])))
    (h : ∀ D i kvs x H2, H D = none → xs[i]? = some x → H2 D = some (.dT kvs) → kvs.length ≤ i → I D i kvs H2 → g x (wipe σ vs) H2 fun σ2 H3 => wipe σ2 vs = wipe σ vs ∧ tt σ2 H3 fun b H4 => if b = true then tk σ2 H4 fun y H5 => tv σ2 H5 fun z H6 => ∃ kvs k b, y = .ref b ∧ H6 b = some (.tup (k.map kV)) ∧ H6 D = some (.dT kvs) ∧ kvs.length < sizeLine ∧ DcNT D (i + 1) (I D) (L2.upd H6 D (.dT (putK kvs k z))) else DcNT D (i + 1) (I D) H4)
    (hz : ∀ D kvs H2, H D = none → H2 D = some (.dT kvs) → I D xs.length kvs H2 → R D H2) :
    ∀ D, H D = none → ∃ W : Nat → Nat → Hp → Prop, (∃ m, W 0 m (L2.upd H D (.dT []))) ∧ ∀ i m H, W i m H → (J.stop i H ∧ R D H) ∨ (J.go i H ∧ ∃ Nx : Hp → Prop, (∀ H', Nx H' → ∃ m', m' < m ∧ W (i + 1) m' H') ∧ ∀ x H2, J.yld i H x H2 → g x (wipe σ vs) H2 fun σ2 H3 => wipe σ2 vs = wipe σ vs ∧ tt σ2 H3 fun b H4 => if b = true then tk σ2 H4 fun y H5 => tv σ2 H5 fun z H6 => ∃ kvs k b, y = .ref b ∧ H6 b = some (.tup (k.map kV)) ∧ H6 D = some (.dT kvs) ∧ kvs.length < sizeLine ∧ Nx (L2.upd H6 D (.dT (putK kvs k z))) else Nx H4) := by
  intro D hD
  refine ⟨fun i m H2 => i ≤ xs.length ∧ m = xs.length - i ∧ DcNT D i (I D) H2, ⟨xs.length, Nat.zero_le _, rfl, [], upd_same, Nat.le_refl _, h0 D hD⟩, fun i m H2 ⟨h1, h2, kvs, h3, h4, h5⟩ => ?_⟩
  rcases Nat.lt_or_ge i xs.length with c | c
  · obtain ⟨s1, s2⟩ := (hs D i kvs H2 h5).1 i xs[i] (List.getElem?_eq_getElem c)
    refine .inr ⟨s1, DcNT D (i + 1) (I D), fun H' q => ⟨xs.length - (i + 1), by omega, by omega, rfl, q⟩, fun x H' y => ?_⟩
    obtain ⟨e1, e2⟩ := s2 x H' y
    subst e1 e2
    exact h D i kvs _ _ hD (List.getElem?_eq_getElem c) h3 h4 h5
  · obtain rfl : i = xs.length := by omega
    exact .inl ⟨(hs D _ kvs H2 h5).2 _ (Nat.le_refl _), hz D kvs H2 hD h3 h5⟩
theorem w_dc {wi : TI} {g : TG} {tt : L2.TT} {tk tv : TE} {vs : List Nat} {σ : L2.St} {H : Hp} {Q : VK} (h : wi σ H fun J H1 => ∀ D, H1 D = none → ∃ W : Nat → Nat → Hp → Prop, (∃ m, W 0 m (L2.upd H1 D (.dK []))) ∧ ∀ i m H, W i m H →
  (J.stop i H ∧ Q (.ref D) H) ∨ (J.go i H ∧ ∃ Nx : Hp → Prop, (∀ H', Nx H' → ∃ m', m' < m ∧ W (i + 1) m' H') ∧ ∀ x H', J.yld i H x H' → g x (wipe σ vs) H' fun σ2 H2 => wipe σ2 vs = wipe σ vs ∧ tt σ2 H2 fun b H3 =>
    if b = true then tk σ2 H3 fun y H4 => tv σ2 H4 fun z H5 => ∃ kvs k, y = kV k ∧ H5 D = some (.dK kvs) ∧ kvs.length < sizeLine ∧ Nx (L2.upd H5 D (.dK (putK kvs k z))) else Nx H3)) : tDc wi g tt tk tv vs σ H Q := h
theorem w_dcT {wi : TI} {g : TG} {tt : L2.TT} {tk tv : TE} {vs : List Nat} {σ : L2.St} {H : Hp} {Q : VK} (h : wi σ H fun J H1 => ∀ D, H1 D = none → ∃ W : Nat → Nat → Hp → Prop, (∃ m, W 0 m (L2.upd H1 D (.dT []))) ∧ ∀ i m H, W i m H →
  (J.stop i H ∧ Q (.ref D) H) ∨ (J.go i H ∧ ∃ Nx : Hp → Prop, (∀ H', Nx H' → ∃ m', m' < m ∧ W (i + 1) m' H') ∧ ∀ x H', J.yld i H x H' → g x (wipe σ vs) H' fun σ2 H2 => wipe σ2 vs = wipe σ vs ∧ tt σ2 H2 fun b H3 =>
    if b = true then tk σ2 H3 fun y H4 => tv σ2 H4 fun z H5 => ∃ kvs k b, y = .ref b ∧ H5 b = some (.tup (k.map kV)) ∧ H5 D = some (.dT kvs) ∧ kvs.length < sizeLine ∧ Nx (L2.upd H5 D (.dT (putK kvs k z))) else Nx H3)) : tDcT wi g tt tk tv vs σ H Q := h
theorem w_ext {l b : Addr} {xs zs : List V} {H : Hp} {Q : VK} (hl : H l = some (.lst xs)) (hb : H b = some (.lst zs)) (hz : xs.length + zs.length ≤ 100000) (h : Q (.ref l) (L2.upd H l (.lst (xs ++ zs)))) : rExt2 (.ref l) (.ref b) H Q :=
  ⟨l, b, xs, zs, rfl, rfl, hl, hb, Nat.le_trans hz (by decide), h⟩
theorem pe_fldE {X : Cx} {K : PySem.W.Frag} {e : Expr} {f : Str} {pos : Pos} {ta : TE} (hK : X.K = K) (he : PE X e ta) (hb : attributeBase e f X.env (eval e X.env) = eval e X.env) : PE X (.Attribute e f pos) (tFld K ta f) := hK ▸ pe_fld he hb
end L2.RL
end
section
set_option Elab.async false
set_option linter.all false
set_option maxRecDepth 100000
set_option maxHeartbeats 4000000
/-! several except clauses, each with a name (the library's Exc has one of them, its TryMany several without names; statement and proof follow the two) -/
namespace L2.RL
open PySem PySem.Spec PyProof.Rows
abbrev Suite := Addr → Value → Option Addr → TS
def unAs (i : Nat) (D : Ends) : Ends := { nx := fun σ' H' => D.nx (σ'.set i none) H', rt := D.rt, bk := fun σ' H' => D.bk (σ'.set i none) H', ct := fun σ' H' => D.ct (σ'.set i none) H' }
def wManyA (K : PySem.W.Frag) (Wout : WX) (D : Ends) : List (Value × Nat × Suite) → WX
  | [] => Wout
  | (c, i, ts) :: r => fun cls d σ H => ∃ b, PySem.W.exmOne K cls c = some b ∧ (b = true → ∀ a, H a = none → ts a cls d (unAs i D) (σ.set i (some (.ref a))) H) ∧ (b = false → wManyA K Wout D r cls d σ H)
inductive HdsA (X : Cx) : List ExceptHandler → List (Value × Nat × Suite) → Prop
  | nil : HdsA X [] []
  | cons {x n : Str} {c : Value} {i : Nat} {ts : Suite} {b₀ : Stmt} {suite : List Stmt} {np pos' : Pos} {hds : List ExceptHandler} {l : List (Value × Nat × Suite)} (hc : Names X x c) (hN : X.N.Nodup) (hi : X.N[i]? = some n) (hln : X.env.kindOf n = some .local)
      (hsu : ∀ (a : Addr) (oe : Obj) (cls : Value) (d : Option Addr) (pn : List (Addr × Obj)), Zc cls d oe → (∃ vs, oe.data = .fields vs) → PSs (X.suite a ((a, oe) :: pn)) (b₀ :: suite) (ts a cls d)) (r : HdsA X hds l) :
      HdsA X (.ExceptHandler (some (.Name x np)) (some n) (b₀ :: suite) pos' :: hds) ((c, i, ts) :: l)
section
variable {X : Cx} {body : List Stmt} {h₀ : ExceptHandler} {hds : List ExceptHandler} {l : List (Value × Nat × Suite)} {pos : Pos} {tb : WX → TS} {Wout : WX}
theorem ps_try_asM (hs : X.stack = X.env :: X.outer) (hf : X.env.frame = some X.env.locals) (tk : Takes X Wout)
    (hb : ∀ (W : WX) (pn : List (Addr × Obj)) (xe : Value → Shared → Prop), Takes (X.tr pn xe) W → PassesOwn (model X.prog X.w) X.A X.env xe → PSs (X.tr pn xe) body (tb W))
    (hh : HdsA X (h₀ :: hds) l) : PS X (.Try body (h₀ :: hds) [] [] pos) (fun D σ H => tb (wManyA X.K Wout D l) D σ H) := by
  refine ⟨fun pins s σ H D I h => ?_⟩
  have ok := I.ok
  have hfr : X.A.frames = some (X.env :: X.outer) := by rw [ok.frames, hs]
  refine wpAny_Try_except ?_
  refine wpAny_mono ((hb (wManyA X.K Wout D l) (X.pn ++ pins) (fun e s₁ => wpAny (model X.prog X.w) X.A (noteFrame e X.env) (fun _ s₂ => wpAny (model X.prog X.w) X.A (setFlight e none) (fun _ s₃ =>
    wpAny (model X.prog X.w) X.A (handleBy e X.env (h₀ :: hds)) (SP X pins D) X.xe s₃) X.xe s₂) X.xe s₁) (fun u s' xx => ?_) PassesOwn.looking).run [] s σ H D (I.toTry _) h) (fun f s1 hsp => ?_) (fun e s1 he => he)
  · obtain ⟨a, B, sI, pins', σ', H', cls, d, rfl, J', nb, up, sky, na, os, ag, w⟩ := xx
    have J : Inv X pins σ' H' sI := J'.ofTry ok
    have sky' : Sky B (X.env :: X.outer) a (Zc cls d) X.env.locals s'.heap := by rw [← hs]; exact sky
    show wpAny (model X.prog X.w) X.A (noteFrame (.ref a) X.env) _ _ _
    refine Sky.land Zc.steady hfr hf sky' fun h3 fl3 up3 => ?_
    have J3 : Inv X pins σ' H' { s' with heap := h3 } := J.landed nb fl3.1 (up.trans up3) os ag
    obtain ⟨oe3, vs3, he3, hz3, hd3⟩ := fl3.there
    have nfr : a ∉ frs (X.env :: X.outer) := fun hm => by
      obtain ⟨_, o', e', hnf⟩ := fl3.2.2.1.mem hm
      rw [he3] at e'; cases e'
      exact hnf _ hd3
    have nL : a ≠ X.env.locals := fun z => nfr (List.mem_filterMap.mpr ⟨X.env, List.mem_cons_self, by rw [hf, z]⟩)
    have nF : a ∉ X.fs := fun hm => by
      obtain ⟨e, he, q⟩ := List.mem_filterMap.mp hm
      exact nfr (List.mem_filterMap.mpr ⟨e, List.mem_cons_of_mem _ he, q⟩)
    have S3 := J3.suite he3 hd3 na nL nF
    have go : ∀ {hds' : List ExceptHandler} {l' : List (Value × Nat × Suite)}, HdsA X hds' l' → wManyA X.K Wout D l' cls d σ' H' →
        wpAny (model X.prog X.w) X.A (handleBy (.ref a) X.env hds') (SP X pins D) X.xe { s' with heap := h3 } := by
      intro hds' l' hk
      induction hk with
      | nil =>
        intro w
        refine wpAny_handleBy_nil ?_
        obtain ⟨k1, k2, k3, oe, vs, T, oT, ts', he, hz, hd, h1, hr⟩ := id fl3
        unfold PySem.passOn
        refine wpAny_bind (wpAny_field he hd h1 ?_)
        rw [if_neg (show ¬ ((Value.ref T == Value.none) = true) from by simp)]
        have fin : wpAny (model X.prog X.w) X.A (setFlight (.ref a) X.env.frame) (fun _ s4 => wpAny (model X.prog X.w) X.A (throw (.ref a) : Sem Flow) (SP X pins D) X.xe s4) X.xe { s' with heap := h3 } := by
          rw [hf]
          refine HandSPX.setFlight_upZ fl3 fun h4 hh4 up4 => wpAny_throw (tk _ _ ?_)
          exact ⟨a, B, sI, pins, σ', H', cls, d, rfl, J, nb, (up.trans up3).trans up4, .inr (.inr (by rw [hs]; exact hh4)), na, os, ag, w⟩
        first
          | exact wpAny_bind (wpAny_pure (wpAny_bind fin))
          | exact wpAny_bind fin
      | @cons x n c i ts b₀ suite np pos' hds2 l2 hc hN hi hln hsu r ih =>
        intro w
        obtain ⟨b, hb1, hyes, hno⟩ := w
        have hloc : Loc X.env.scope n := .inl hln
        refine wpAny_handleBy_cons (codeAny_handlers_test ?_) (by intro q; cases q)
        have LT : PySem.W.Looks (model X.prog X.w) h3 (typeOf (.ref a)) cls := fun A Q E s k q => wpAny_typeOf_ref (k _ _ he3) (by rw [hz3.1]; exact q)
        have LM := PySem.W.exm_one (M := model X.prog X.w) (J3.kIn) LT hb1
        have test : ∀ {Q : Value → Shared → Prop} {E : Value → Shared → Prop}, Q c { s' with heap := h3 } → wpAny (model X.prog X.w) (X.A.mark (some (.ref a))) (eval (.Name x np) X.env) Q E { s' with heap := h3 } := fun {Q E} q => by
          obtain ⟨hg, hdbg, hm | ⟨hm, hv, hnn⟩⟩ := hc
          · exact ld_glob (X := X.suite a ((a, oe3) :: (X.pn ++ pins))) S3 hg hm q hdbg
          · exact ld_blt (X := X.suite a ((a, oe3) :: (X.pn ++ pins))) S3 hg hm hv q hnn hdbg
        refine test (LM.here ?_)
        cases b with
        | true =>
          refine codeAny_handlers_suite_as ?_
          refine HandSPX.lands_againZ fl3 fun h4 fl4 up4 => ?_
          have J4 : Inv X pins σ' H' { s' with heap := h4 } := J.landed nb fl4.1 ((up.trans up3).trans up4) os ag
          obtain ⟨oe4, vs4, he4, hz4, hd4⟩ := fl4.there
          have S4 := J4.suite he4 hd4 na nL nF
          refine store_ok (X := X.suite a ((a, oe4) :: (X.pn ++ pins))) (v := .ref a) S4 hN hi hloc rfl (fun s5 S5 => ?_) (.inr hln)
          refine wpAny_mono ((hsu a oe4 cls d (X.pn ++ pins) hz4 ⟨_, hd4⟩).run [] s5 _ H' _ S5 (hyes rfl a na)) (fun f s6 hsp => ?_) (fun _ _ z => False.elim z)
          have end_ : ∀ {σ6 : L2.St} {H6 : Hp} {Q : Shared → Prop}, Inv (X.suite a ((a, oe4) :: (X.pn ++ pins))) [] σ6 H6 s6 → (∀ s7, Inv X pins (σ6.set i none) H6 s7 → Q s7) →
              wpAny (model X.prog X.w) X.A (do bindName X.env n .none; unbindBehindTheSuite X.env n pos') (fun _ s7 => Q s7) X.xe s6 := fun {σ6 H6 Q} S6 hq => gone_ok (S6.unsuite ok) hN hi hln hq
          cases f with
          | next =>
            obtain ⟨σ6, H6, S6, q6⟩ := hsp
            exact end_ S6 fun s7 J7 => ⟨_, _, J7, q6⟩
          | brk =>
            obtain ⟨σ6, H6, S6, q6⟩ := hsp
            exact end_ S6 fun s7 J7 => ⟨_, _, J7, q6⟩
          | cont =>
            obtain ⟨σ6, H6, S6, q6⟩ := hsp
            exact end_ S6 fun s7 J7 => ⟨_, _, J7, q6⟩
          | ret u =>
            obtain ⟨v6, σ6, H6, S6, r6, q6⟩ := hsp
            exact end_ S6 fun s7 J7 => ⟨_, _, _, J7, r6, q6⟩
        | false =>
          show wpAny _ X.A (handleBy (.ref a) X.env hds2) _ _ _
          exact ih (hno rfl)
    exact go hh w
  · cases f with
    | next =>
      obtain ⟨σ', H', J', q⟩ := hsp
      exact wpAny_execs_nil ⟨σ', H', J'.ofTry ok, q⟩
    | brk =>
      obtain ⟨σ', H', J', q⟩ := hsp
      exact ⟨σ', H', J'.ofTry ok, q⟩
    | cont =>
      obtain ⟨σ', H', J', q⟩ := hsp
      exact ⟨σ', H', J'.ofTry ok, q⟩
    | ret u =>
      obtain ⟨v, σ', H', J', r, q⟩ := hsp
      exact ⟨v, σ', H', J'.ofTry ok, r, q⟩
end
end L2.RL
end
section
set_option Elab.async false
set_option linter.all false
set_option maxRecDepth 100000
set_option maxHeartbeats 1000000
namespace T61
open PySem PySem.Spec PyProof.Rows L2 L2.RL
def bounds : List (V × List V) := [(.str "number", [.int (0), .int (255)]), (.str "flags", [.int (0), .int (7)]), (.str "size", [.int (0), .int (32)]), (.str "amount", [.int (0), .int (255)]), (.str "low", [.int (-2147483648), .int (2147483647)]), (.str "high", [.int (-2147483648), .int (2147483647)]), (.str "plow", [.int (-2147483648), .int (2147483647)]), (.str "phigh", [.int (-2147483648), .int (2147483647)]), (.str "exponent", [.int (-8), .int (7)]), (.str "unit", [.int (0), .int (4294967295)])]
def top (i : Nat) : Stmt := PySem.Challenge.pw_reportlays_k61_cut_refused.main.body.getD i (.Pass ⟨0, 0, 0, 0⟩)
def fa : List He.Fa := [.glo "BadField",
  .free "ValueError",
  .int "CONSTANT_layouts" (1),
  .int "VARIABLE_layouts" (2),
  .int "MOST_USAGE_layouts" (4294967295),
  .int "MOST_USAGES_layouts" (256),
  .cls "Field",
  .glo "Field",
  .mkr "Field",
  .keep "Field",
  .noat "Field" "role",
  .noat "Field" "number",
  .noat "Field" "flags",
  .noat "Field" "size",
  .noat "Field" "amount",
  .noat "Field" "low",
  .noat "Field" "high",
  .noat "Field" "plow",
  .noat "Field" "phigh",
  .noat "Field" "exponent",
  .noat "Field" "unit",
  .noat "Field" "usages",
  .meth "Field" "numbers",
  .meth "Field" "bad_name",
  .glo "ROLES_layouts",
  .glo "BOUNDS_layouts",
  .free "len",
  .free "abs",
  .free "max",
  .free "min",
  .free "int",
  .free "isinstance",
  .free "all",
  .free "any",
  .free "zip",
  .free "range",
  .free "str",
  .free "list",
  .free "tuple",
  .free "bool",
  .free "dict",
  .free "enumerate",
  .free "sum",
  .free "sorted",
  .free "repr",
  .glo "is_integer",
  .glo "fits",
  .glo "is_usage",
  .glo "bad_range",
  .glo "are_usages",
  .glo "bad_entry",
  .glo "is_opening",
  .glo "look_usages",
  .glo "runs_of",
  .glo "cut_variable",
  .glo "cut_field",
  .glo "without_empty",
  .glo "cut",
  .glo "_law_source",
  .glo "_law_draw",
  .glo "_law_of",
  .glo "_law_told",
  .glo "_law_wide",
  .glo "law",
  .glo "field_like",
  .glo "BadEntry",
  .str "OPEN_layouts" "open",
  .str "CLOSE" "close",
  .int "MOST_BITS_layouts" (512),
  .int "MOST_DEPTH_layouts" (8),
  .int "MOST_ENTRIES_layouts" (400),
  .cls "Layout",
  .glo "Layout",
  .mkr "Layout",
  .keep "Layout",
  .noat "Layout" "all_entries",
  .int "MOST_ENTRIES_changes" (400),
  .int "MOST_USAGE_changes" (4294967295),
  .int "CONSTANT_changes" (1),
  .str "OPEN_changes" "open",
  .glo "NoUsage",
  .free "TypeError",
  .glo "TooMany",
  .free "OverflowError"]
def fn : List He.DefD := [⟨("BadField", some "__init__"), "__init__", "BadField.__init__", defArgs (inClass (top 4) 0), defBody (inClass (top 4) 0), defScope (inClass (top 4) 0), [], []⟩,
  ⟨("Field", some "__init__"), "__init__", "Field.__init__", defArgs (inClass (top 59) 0), defBody (inClass (top 59) 0), defScope (inClass (top 59) 0), [], [("number", .int 0), ("flags", .int 2), ("size", .int 8), ("amount", .int 1), ("low", .int 0), ("high", .int 255), ("plow", .int 0), ("phigh", .int 0), ("exponent", .int 0), ("unit", .int 0), ("usages", .adr (kdfAt ("Field", some "__init__") "usages"))]⟩,
  ⟨("Field", some "numbers"), "numbers", "Field.numbers", defArgs (inClass (top 59) 1), defBody (inClass (top 59) 1), defScope (inClass (top 59) 1), [], []⟩,
  ⟨("Field", some "bad_name"), "bad_name", "Field.bad_name", defArgs (inClass (top 59) 2), defBody (inClass (top 59) 2), defScope (inClass (top 59) 2), [], []⟩,
  ⟨("is_integer", none), "is_integer", "is_integer", defArgs (top 18), defBody (top 18), defScope (top 18), [], []⟩,
  ⟨("fits", none), "fits", "fits", defArgs (top 55), defBody (top 55), defScope (top 55), [], []⟩,
  ⟨("is_usage", none), "is_usage", "is_usage", defArgs (top 56), defBody (top 56), defScope (top 56), [], []⟩,
  ⟨("bad_range", none), "bad_range", "bad_range", defArgs (top 57), defBody (top 57), defScope (top 57), [], []⟩,
  ⟨("are_usages", none), "are_usages", "are_usages", defArgs (top 58), defBody (top 58), defScope (top 58), [], []⟩,
  ⟨("bad_entry", none), "bad_entry", "bad_entry", defArgs (top 60), defBody (top 60), defScope (top 60), [], []⟩,
  ⟨("is_opening", none), "is_opening", "is_opening", defArgs (top 61), defBody (top 61), defScope (top 61), [], []⟩,
  ⟨("look_usages", none), "look_usages", "look_usages", defArgs (top 70), defBody (top 70), defScope (top 70), [], []⟩,
  ⟨("runs_of", none), "runs_of", "runs_of", defArgs (top 71), defBody (top 71), defScope (top 71), [], []⟩,
  ⟨("cut_variable", none), "cut_variable", "cut_variable", defArgs (top 72), defBody (top 72), defScope (top 72), [], []⟩,
  ⟨("cut_field", none), "cut_field", "cut_field", defArgs (top 73), defBody (top 73), defScope (top 73), [], []⟩,
  ⟨("without_empty", none), "without_empty", "without_empty", defArgs (top 74), defBody (top 74), defScope (top 74), [], []⟩,
  ⟨("cut", none), "cut", "cut", defArgs (top 75), defBody (top 75), defScope (top 75), [], []⟩,
  ⟨("_law_source", none), "_law_source", "_law_source", defArgs (top 77), defBody (top 77), defScope (top 77), [], []⟩,
  ⟨("_law_draw", none), "_law_draw", "_law_draw", defArgs (top 78), defBody (top 78), defScope (top 78), [], []⟩,
  ⟨("_law_of", none), "_law_of", "_law_of", defArgs (top 79), defBody (top 79), defScope (top 79), [], []⟩,
  ⟨("_law_told", none), "_law_told", "_law_told", defArgs (top 80), defBody (top 80), defScope (top 80), [], []⟩,
  ⟨("_law_wide", none), "_law_wide", "_law_wide", defArgs (top 81), defBody (top 81), defScope (top 81), [], []⟩,
  ⟨("law", none), "law", "law", defArgs (top 82), defBody (top 82), defScope (top 82), [], []⟩,
  ⟨("field_like", none), "field_like", "field_like", defArgs (top 69), defBody (top 69), defScope (top 69), [], [("number", .non), ("flags", .non), ("amount", .non), ("usages", .non)]⟩,
  ⟨("BadEntry", some "__init__"), "__init__", "BadEntry.__init__", defArgs (inClass (top 5) 0), defBody (inClass (top 5) 0), defScope (inClass (top 5) 0), [], []⟩,
  ⟨("Layout", some "__init__"), "__init__", "Layout.__init__", defArgs (inClass (top 62) 0), defBody (inClass (top 62) 0), defScope (inClass (top 62) 0), [], []⟩,
  ⟨("NoUsage", some "__init__"), "__init__", "NoUsage.__init__", defArgs (inClass (top 7) 0), defBody (inClass (top 7) 0), defScope (inClass (top 7) 0), [], []⟩,
  ⟨("TooMany", some "__init__"), "__init__", "TooMany.__init__", defArgs (inClass (top 8) 0), defBody (inClass (top 8) 0), defScope (inClass (top 8) 0), [], []⟩,
  ⟨("Field", some "__eq__"), "__eq__", "Field.__eq__", defArgs (inClass (top 59) 3), defBody (inClass (top 59) 3), defScope (inClass (top 59) 3), [], []⟩]
def exs : List (PySem.W.Frag → Bool) := [fun K => oexB K "ValueError.__new__" bmV (He.ga K "BadField"),
  fun K => decide (PySem.W.findIn K (.ref (He.ga K "BadField")) "__init__" = some (some (.ref (He.ma K (He.ga K "BadField") "__init__")))),
  fun K => decide (PySem.W.typeIn K (.ref (He.ma K (He.ga K "BadField") "__init__")) = some (.type "function")),
  fun K => decide (PySem.W.findIn K (.ref (He.ga K "BadField")) "name" = some none),
  fun K => decide (PySem.W.exmOne K (.ref (He.ga K "BadField")) (.ref (He.ga K "BadField")) = some true),
  fun K => decide (PySem.W.kitOne K (.ref (He.ga K "BadField")) (.type "ValueError") = some true),
  fun K => xfB K (He.ga K "BadField"),
  fun K => excCB K (He.ga K "BadField"),
  fun K => findClsB K "ValueError" "ValueError.__init__",
  fun K => He.tupB K "ROLES_layouts" [.str "input", .str "output", .str "feature"],
  fun K => dicTB K (He.ga K "BOUNDS_layouts") bounds,
  fun K => tupAtB K (kdfAt ("Field", some "__init__") "usages" K) [],
  fun K => decide (PySem.W.findIn K (.ref (He.ga K "Field")) "__class__" = some (some (.builtin "object.__class__"))),
  fun K => decide (PySem.W.specialIn K (.builtin "object.__class__") "__get__" = some (some (.builtin "getset_descriptor.__get__"))),
  fun K => decide (PySem.W.takesIn K (.builtin "object.__class__") = some true),
  fun K => decide (PySem.W.mroIn K (He.ga K "Field") (.type "object") = some true),
  fun K => decide (PySem.W.kitOne K (.ref (He.ga K "Field")) (.type "str") = some false),
  fun K => oexB K "ValueError.__new__" bmV (He.ga K "BadEntry"),
  fun K => decide (PySem.W.findIn K (.ref (He.ga K "BadEntry")) "__init__" = some (some (.ref (He.ma K (He.ga K "BadEntry") "__init__")))),
  fun K => decide (PySem.W.typeIn K (.ref (He.ma K (He.ga K "BadEntry") "__init__")) = some (.type "function")),
  fun K => decide (PySem.W.findIn K (.ref (He.ga K "BadEntry")) "index" = some none),
  fun K => decide (PySem.W.exmOne K (.ref (He.ga K "BadEntry")) (.ref (He.ga K "BadEntry")) = some true),
  fun K => decide (PySem.W.kitOne K (.ref (He.ga K "BadEntry")) (.type "ValueError") = some true),
  fun K => xfB K (He.ga K "BadEntry"),
  fun K => excCB K (He.ga K "BadEntry"),
  fun K => findClsB K "ValueError" "ValueError.__init__",
  fun K => decide (PySem.W.kitOne K (.ref (He.ga K "Field")) (.ref (He.ga K "Field")) = some true),
  fun K => decide (PySem.W.kitOne K (.type "tuple") (.ref (He.ga K "Field")) = some false),
  fun K => decide (PySem.W.kitOne K (.type "list") (.ref (He.ga K "Field")) = some false),
  fun K => decide (PySem.W.kitOne K (.type "str") (.ref (He.ga K "Field")) = some false),
  fun K => decide (PySem.W.kitOne K (.type "int") (.ref (He.ga K "Field")) = some false),
  fun K => decide (PySem.W.kitOne K (.type "NoneType") (.ref (He.ga K "Field")) = some false),
  fun K => decide (PySem.W.kitOne K (.type "bool") (.ref (He.ga K "Field")) = some false),
  fun K => decide (PySem.W.kitOne K (.type "dict") (.ref (He.ga K "Field")) = some false),
  fun K => oexB K "TypeError.__new__" bmT (He.ga K "NoUsage"),
  fun K => decide (PySem.W.findIn K (.ref (He.ga K "NoUsage")) "__init__" = some (some (.ref (He.ma K (He.ga K "NoUsage") "__init__")))),
  fun K => decide (PySem.W.typeIn K (.ref (He.ma K (He.ga K "NoUsage") "__init__")) = some (.type "function")),
  fun K => decide (PySem.W.findIn K (.ref (He.ga K "NoUsage")) "usage" = some none),
  fun K => decide (PySem.W.exmOne K (.ref (He.ga K "NoUsage")) (.ref (He.ga K "NoUsage")) = some true),
  fun K => decide (PySem.W.kitOne K (.ref (He.ga K "NoUsage")) (.type "TypeError") = some true),
  fun K => xfB K (He.ga K "NoUsage"),
  fun K => excCB K (He.ga K "NoUsage"),
  fun K => findClsB K "TypeError" "TypeError.__init__",
  fun K => oexB K "OverflowError.__new__" bmO (He.ga K "TooMany"),
  fun K => decide (PySem.W.findIn K (.ref (He.ga K "TooMany")) "__init__" = some (some (.ref (He.ma K (He.ga K "TooMany") "__init__")))),
  fun K => decide (PySem.W.typeIn K (.ref (He.ma K (He.ga K "TooMany") "__init__")) = some (.type "function")),
  fun K => decide (PySem.W.findIn K (.ref (He.ga K "TooMany")) "what" = some none),
  fun K => decide (PySem.W.exmOne K (.ref (He.ga K "TooMany")) (.ref (He.ga K "TooMany")) = some true),
  fun K => decide (PySem.W.kitOne K (.ref (He.ga K "TooMany")) (.type "OverflowError") = some true),
  fun K => xfB K (He.ga K "TooMany"),
  fun K => excCB K (He.ga K "TooMany"),
  fun K => findClsB K "OverflowError" "OverflowError.__init__",
  fun K => decide (PySem.W.findIn K (.ref (He.ga K "Field")) "__eq__" = some (some (.ref (He.ma K (He.ga K "Field") "__eq__")))),
  fun K => PySem.W.isFn K (.ref (He.ma K (He.ga K "Field") "__eq__")),
  fun K => decide (PySem.W.notFirst K (He.ga K "Field") (.type "tuple") = true),
  fun K => decide (PySem.W.exmOne K (.ref (He.ga K "TooMany")) (.ref (He.ga K "NoUsage")) = some false),
  fun K => decide (PySem.W.kitOne K (.ref (He.ga K "NoUsage")) (.type "ValueError") = some false)]
abbrev T0 (K : PySem.W.Frag) (mg : Str → Option Value) : Prop := Tx fa fn exs K mg
def prs : List PrD := [⟨"Field", "style", "Field.style", defArgs (inClass (top 59) 4), defBody (inClass (top 59) 4), defScope (inClass (top 59) 4)⟩,
  ⟨"Field", "total_bits", "Field.total_bits", defArgs (inClass (top 59) 7), defBody (inClass (top 59) 7), defScope (inClass (top 59) 7)⟩,
  ⟨"Layout", "entries", "Layout.entries", defArgs (inClass (top 62) 2), defBody (inClass (top 62) 2), defScope (inClass (top 62) 2)⟩,
  ⟨"Layout", "fields", "Layout.fields", defArgs (inClass (top 62) 3), defBody (inClass (top 62) 3), defScope (inClass (top 62) 3)⟩]
structure TT (K : PySem.W.Frag) (mg : Str → Option Value) : Prop extends Tx fa fn exs K mg where
  pr : SaysP prs K
theorem _root_.L2.RL.Tx.g_BadField {K : PySem.W.Frag} {mg : Str → Option Value} (T : T0 K mg) : mg "BadField" = some (.ref (He.ga K "BadField")) := T.glo 0
theorem _root_.L2.RL.Tx.m_ValueError {K : PySem.W.Frag} {mg : Str → Option Value} (T : T0 K mg) : mg "ValueError" = none := T.free 1
theorem _root_.L2.RL.Tx.ob_BadField {K : PySem.W.Frag} {mg : Str → Option Value} (T : T0 K mg) : OexB K "ValueError.__new__" bmV (He.ga K "BadField") := oexB_ok (T.say 0)
theorem _root_.L2.RL.Tx.ie_BadField {K : PySem.W.Frag} {mg : Str → Option Value} (T : T0 K mg) : PySem.W.findIn K (.ref (He.ga K "BadField")) "__init__" = some (some (.ref (He.ma K (He.ga K "BadField") "__init__"))) := of_decide_eq_true (T.say 1)
theorem _root_.L2.RL.Tx.ti_BadField {K : PySem.W.Frag} {mg : Str → Option Value} (T : T0 K mg) : PySem.W.typeIn K (.ref (He.ma K (He.ga K "BadField") "__init__")) = some (.type "function") := of_decide_eq_true (T.say 2)
theorem _root_.L2.RL.Tx.xn_BadField_name {K : PySem.W.Frag} {mg : Str → Option Value} (T : T0 K mg) : PySem.W.findIn K (.ref (He.ga K "BadField")) "name" = some none := of_decide_eq_true (T.say 3)
theorem _root_.L2.RL.Tx.em_BadField {K : PySem.W.Frag} {mg : Str → Option Value} (T : T0 K mg) : PySem.W.exmOne K (.ref (He.ga K "BadField")) (.ref (He.ga K "BadField")) = some true := of_decide_eq_true (T.say 4)
theorem _root_.L2.RL.Tx.ki_BadField {K : PySem.W.Frag} {mg : Str → Option Value} (T : T0 K mg) : PySem.W.kitOne K (.ref (He.ga K "BadField")) (.type "ValueError") = some true := of_decide_eq_true (T.say 5)
theorem _root_.L2.RL.Tx.xf_BadField {K : PySem.W.Frag} {mg : Str → Option Value} (T : T0 K mg) : XfC K (He.ga K "BadField") := xfB_ok (T.say 6)
theorem _root_.L2.RL.Tx.xi_BadField {K : PySem.W.Frag} {mg : Str → Option Value} (T : T0 K mg) : ExcC K (He.ga K "BadField") := excCB_ok (T.say 7)
theorem _root_.L2.RL.Tx.fc_ValueError {K : PySem.W.Frag} {mg : Str → Option Value} (T : T0 K mg) : PySem.W.findCls K (.type "ValueError") (.type "type") "__init__" = some (.val (.builtin "ValueError.__init__")) := findClsB_ok (T.say 8)
theorem _root_.L2.RL.Tx.d_BadField___init__ {K : PySem.W.Frag} {mg : Str → Option Value} (T : T0 K mg) : ∃ fd, FunD K "__init__" "BadField.__init__" (defArgs (inClass (top 4) 0)) (defBody (inClass (top 4) 0)) (defScope (inClass (top 4) 0)) [] (([] : List (Str × He.Dv)).map fun q => (q.1, q.2.v K)) (He.ma K (He.ga K "BadField") "__init__") fd := T.says.def_ 0
theorem _root_.L2.RL.Tx.i_CONSTANT_layouts {K : PySem.W.Frag} {mg : Str → Option Value} (T : T0 K mg) : ∃ t, mg "CONSTANT_layouts" = some (.int (1) t) := T.int 2
theorem _root_.L2.RL.Tx.i_VARIABLE_layouts {K : PySem.W.Frag} {mg : Str → Option Value} (T : T0 K mg) : ∃ t, mg "VARIABLE_layouts" = some (.int (2) t) := T.int 3
theorem _root_.L2.RL.Tx.i_MOST_USAGE_layouts {K : PySem.W.Frag} {mg : Str → Option Value} (T : T0 K mg) : ∃ t, mg "MOST_USAGE_layouts" = some (.int (4294967295) t) := T.int 4
theorem _root_.L2.RL.Tx.i_MOST_USAGES_layouts {K : PySem.W.Frag} {mg : Str → Option Value} (T : T0 K mg) : ∃ t, mg "MOST_USAGES_layouts" = some (.int (256) t) := T.int 5
theorem _root_.L2.RL.Tx.g_Field {K : PySem.W.Frag} {mg : Str → Option Value} (T : T0 K mg) : mg "Field" = some (.ref (He.ga K "Field")) := T.glo 7
theorem _root_.L2.RL.Tx.c_Field {K : PySem.W.Frag} {mg : Str → Option Value} (T : T0 K mg) : Cls K (He.ga K "Field") := T.cls 6
theorem _root_.L2.RL.Tx.mk_Field {K : PySem.W.Frag} {mg : Str → Option Value} (T : T0 K mg) : Mk K (He.ga K "Field") (He.ma K (He.ga K "Field") "__init__") := T.mkr 8
theorem _root_.L2.RL.Tx.kp_Field {K : PySem.W.Frag} {mg : Str → Option Value} (T : T0 K mg) : PySem.W.keepIn K (.ref (He.ga K "Field")) = true := T.keep 9
theorem _root_.L2.RL.Tx.n_Field_role {K : PySem.W.Frag} {mg : Str → Option Value} (T : T0 K mg) : NoAttr K (He.ga K "Field") "role" := T.noat 10
theorem _root_.L2.RL.Tx.n_Field_number {K : PySem.W.Frag} {mg : Str → Option Value} (T : T0 K mg) : NoAttr K (He.ga K "Field") "number" := T.noat 11
theorem _root_.L2.RL.Tx.n_Field_flags {K : PySem.W.Frag} {mg : Str → Option Value} (T : T0 K mg) : NoAttr K (He.ga K "Field") "flags" := T.noat 12
theorem _root_.L2.RL.Tx.n_Field_size {K : PySem.W.Frag} {mg : Str → Option Value} (T : T0 K mg) : NoAttr K (He.ga K "Field") "size" := T.noat 13
theorem _root_.L2.RL.Tx.n_Field_amount {K : PySem.W.Frag} {mg : Str → Option Value} (T : T0 K mg) : NoAttr K (He.ga K "Field") "amount" := T.noat 14
theorem _root_.L2.RL.Tx.n_Field_low {K : PySem.W.Frag} {mg : Str → Option Value} (T : T0 K mg) : NoAttr K (He.ga K "Field") "low" := T.noat 15
theorem _root_.L2.RL.Tx.n_Field_high {K : PySem.W.Frag} {mg : Str → Option Value} (T : T0 K mg) : NoAttr K (He.ga K "Field") "high" := T.noat 16
theorem _root_.L2.RL.Tx.n_Field_plow {K : PySem.W.Frag} {mg : Str → Option Value} (T : T0 K mg) : NoAttr K (He.ga K "Field") "plow" := T.noat 17
theorem _root_.L2.RL.Tx.n_Field_phigh {K : PySem.W.Frag} {mg : Str → Option Value} (T : T0 K mg) : NoAttr K (He.ga K "Field") "phigh" := T.noat 18
theorem _root_.L2.RL.Tx.n_Field_exponent {K : PySem.W.Frag} {mg : Str → Option Value} (T : T0 K mg) : NoAttr K (He.ga K "Field") "exponent" := T.noat 19
theorem _root_.L2.RL.Tx.n_Field_unit {K : PySem.W.Frag} {mg : Str → Option Value} (T : T0 K mg) : NoAttr K (He.ga K "Field") "unit" := T.noat 20
theorem _root_.L2.RL.Tx.n_Field_usages {K : PySem.W.Frag} {mg : Str → Option Value} (T : T0 K mg) : NoAttr K (He.ga K "Field") "usages" := T.noat 21
theorem _root_.L2.RL.Tx.h_Field_numbers {K : PySem.W.Frag} {mg : Str → Option Value} (T : T0 K mg) : Meth K (He.ga K "Field") "numbers" (He.ma K (He.ga K "Field") "numbers") := T.meth 22
theorem _root_.L2.RL.Tx.h_Field_bad_name {K : PySem.W.Frag} {mg : Str → Option Value} (T : T0 K mg) : Meth K (He.ga K "Field") "bad_name" (He.ma K (He.ga K "Field") "bad_name") := T.meth 23
theorem _root_.L2.RL.Tx.d_Field___init__ {K : PySem.W.Frag} {mg : Str → Option Value} (T : T0 K mg) : ∃ fd, FunD K "__init__" "Field.__init__" (defArgs (inClass (top 59) 0)) (defBody (inClass (top 59) 0)) (defScope (inClass (top 59) 0)) [] (([("number", .int 0), ("flags", .int 2), ("size", .int 8), ("amount", .int 1), ("low", .int 0), ("high", .int 255), ("plow", .int 0), ("phigh", .int 0), ("exponent", .int 0), ("unit", .int 0), ("usages", .adr (kdfAt ("Field", some "__init__") "usages"))] : List (Str × He.Dv)).map fun q => (q.1, q.2.v K)) (He.ma K (He.ga K "Field") "__init__") fd := T.says.def_ 1
theorem _root_.L2.RL.Tx.d_Field_numbers {K : PySem.W.Frag} {mg : Str → Option Value} (T : T0 K mg) : ∃ fd, FunD K "numbers" "Field.numbers" (defArgs (inClass (top 59) 1)) (defBody (inClass (top 59) 1)) (defScope (inClass (top 59) 1)) [] (([] : List (Str × He.Dv)).map fun q => (q.1, q.2.v K)) (He.ma K (He.ga K "Field") "numbers") fd := T.says.def_ 2
theorem _root_.L2.RL.Tx.d_Field_bad_name {K : PySem.W.Frag} {mg : Str → Option Value} (T : T0 K mg) : ∃ fd, FunD K "bad_name" "Field.bad_name" (defArgs (inClass (top 59) 2)) (defBody (inClass (top 59) 2)) (defScope (inClass (top 59) 2)) [] (([] : List (Str × He.Dv)).map fun q => (q.1, q.2.v K)) (He.ma K (He.ga K "Field") "bad_name") fd := T.says.def_ 3
theorem _root_.L2.RL.Tx.g_ROLES_layouts {K : PySem.W.Frag} {mg : Str → Option Value} (T : T0 K mg) : mg "ROLES_layouts" = some (.ref (He.ga K "ROLES_layouts")) := T.glo 24
theorem _root_.L2.RL.Tx.t_ROLES_layouts {K : PySem.W.Frag} {mg : Str → Option Value} (T : T0 K mg) : ∀ H : Hp, SqT K H (He.ga K "ROLES_layouts") ([.str "input", .str "output", .str "feature"].map (He.Dv.v K)) := fun H => He.tupB_ok (T.say 9) H
theorem _root_.L2.RL.Tx.g_BOUNDS_layouts {K : PySem.W.Frag} {mg : Str → Option Value} (T : T0 K mg) : mg "BOUNDS_layouts" = some (.ref (He.ga K "BOUNDS_layouts")) := T.glo 25
theorem _root_.L2.RL.Tx.t_BOUNDS {K : PySem.W.Frag} {mg : Str → Option Value} (T : T0 K mg) : ∃ kvs, TupItems K bounds kvs ∧ KItems K (He.ga K "BOUNDS_layouts") kvs := dicTB_ok (T.say 10)
theorem _root_.L2.RL.Tx.t_us0 {K : PySem.W.Frag} {mg : Str → Option Value} (T : T0 K mg) : ∀ H : Hp, SqT K H (kdfAt ("Field", some "__init__") "usages" K) [] := fun H => tupAtB_ok (T.say 11) H
theorem _root_.L2.RL.Tx.ic_Field {K : PySem.W.Frag} {mg : Str → Option Value} (T : T0 K mg) : PySem.W.findIn K (.ref (He.ga K "Field")) "__class__" = some (some (.builtin "object.__class__")) := of_decide_eq_true (T.say 12)
theorem _root_.L2.RL.Tx.ig_Field {K : PySem.W.Frag} {mg : Str → Option Value} (T : T0 K mg) : PySem.W.specialIn K (.builtin "object.__class__") "__get__" = some (some (.builtin "getset_descriptor.__get__")) := of_decide_eq_true (T.say 13)
theorem _root_.L2.RL.Tx.it_Field {K : PySem.W.Frag} {mg : Str → Option Value} (T : T0 K mg) : PySem.W.takesIn K (.builtin "object.__class__") = some true := of_decide_eq_true (T.say 14)
theorem _root_.L2.RL.Tx.im_Field {K : PySem.W.Frag} {mg : Str → Option Value} (T : T0 K mg) : PySem.W.mroIn K (He.ga K "Field") (.type "object") = some true := of_decide_eq_true (T.say 15)
theorem _root_.L2.RL.Tx.is_Field {K : PySem.W.Frag} {mg : Str → Option Value} (T : T0 K mg) : PySem.W.kitOne K (.ref (He.ga K "Field")) (.type "str") = some false := of_decide_eq_true (T.say 16)
theorem _root_.L2.RL.Tx.m_len {K : PySem.W.Frag} {mg : Str → Option Value} (T : T0 K mg) : mg "len" = none := T.free 26
theorem _root_.L2.RL.Tx.m_abs {K : PySem.W.Frag} {mg : Str → Option Value} (T : T0 K mg) : mg "abs" = none := T.free 27
theorem _root_.L2.RL.Tx.m_max {K : PySem.W.Frag} {mg : Str → Option Value} (T : T0 K mg) : mg "max" = none := T.free 28
theorem _root_.L2.RL.Tx.m_min {K : PySem.W.Frag} {mg : Str → Option Value} (T : T0 K mg) : mg "min" = none := T.free 29
theorem _root_.L2.RL.Tx.m_int {K : PySem.W.Frag} {mg : Str → Option Value} (T : T0 K mg) : mg "int" = none := T.free 30
theorem _root_.L2.RL.Tx.m_isinstance {K : PySem.W.Frag} {mg : Str → Option Value} (T : T0 K mg) : mg "isinstance" = none := T.free 31
theorem _root_.L2.RL.Tx.m_all {K : PySem.W.Frag} {mg : Str → Option Value} (T : T0 K mg) : mg "all" = none := T.free 32
theorem _root_.L2.RL.Tx.m_any {K : PySem.W.Frag} {mg : Str → Option Value} (T : T0 K mg) : mg "any" = none := T.free 33
theorem _root_.L2.RL.Tx.m_zip {K : PySem.W.Frag} {mg : Str → Option Value} (T : T0 K mg) : mg "zip" = none := T.free 34
theorem _root_.L2.RL.Tx.m_range {K : PySem.W.Frag} {mg : Str → Option Value} (T : T0 K mg) : mg "range" = none := T.free 35
theorem _root_.L2.RL.Tx.m_str {K : PySem.W.Frag} {mg : Str → Option Value} (T : T0 K mg) : mg "str" = none := T.free 36
theorem _root_.L2.RL.Tx.m_list {K : PySem.W.Frag} {mg : Str → Option Value} (T : T0 K mg) : mg "list" = none := T.free 37
theorem _root_.L2.RL.Tx.m_tuple {K : PySem.W.Frag} {mg : Str → Option Value} (T : T0 K mg) : mg "tuple" = none := T.free 38
theorem _root_.L2.RL.Tx.m_bool {K : PySem.W.Frag} {mg : Str → Option Value} (T : T0 K mg) : mg "bool" = none := T.free 39
theorem _root_.L2.RL.Tx.m_dict {K : PySem.W.Frag} {mg : Str → Option Value} (T : T0 K mg) : mg "dict" = none := T.free 40
theorem _root_.L2.RL.Tx.m_enumerate {K : PySem.W.Frag} {mg : Str → Option Value} (T : T0 K mg) : mg "enumerate" = none := T.free 41
theorem _root_.L2.RL.Tx.m_sum {K : PySem.W.Frag} {mg : Str → Option Value} (T : T0 K mg) : mg "sum" = none := T.free 42
theorem _root_.L2.RL.Tx.m_sorted {K : PySem.W.Frag} {mg : Str → Option Value} (T : T0 K mg) : mg "sorted" = none := T.free 43
theorem _root_.L2.RL.Tx.m_repr {K : PySem.W.Frag} {mg : Str → Option Value} (T : T0 K mg) : mg "repr" = none := T.free 44
theorem _root_.L2.RL.Tx.g_is_integer {K : PySem.W.Frag} {mg : Str → Option Value} (T : T0 K mg) : mg "is_integer" = some (.ref (He.ga K "is_integer")) := T.glo 45
theorem _root_.L2.RL.Tx.d_is_integer {K : PySem.W.Frag} {mg : Str → Option Value} (T : T0 K mg) : ∃ fd, FunD K "is_integer" "is_integer" (defArgs (top 18)) (defBody (top 18)) (defScope (top 18)) ([].map (He.Dv.v K)) (([] : List (Str × He.Dv)).map fun q => (q.1, q.2.v K)) (He.ga K "is_integer") fd := T.says.def_ 4
theorem _root_.L2.RL.Tx.g_fits {K : PySem.W.Frag} {mg : Str → Option Value} (T : T0 K mg) : mg "fits" = some (.ref (He.ga K "fits")) := T.glo 46
theorem _root_.L2.RL.Tx.d_fits {K : PySem.W.Frag} {mg : Str → Option Value} (T : T0 K mg) : ∃ fd, FunD K "fits" "fits" (defArgs (top 55)) (defBody (top 55)) (defScope (top 55)) ([].map (He.Dv.v K)) (([] : List (Str × He.Dv)).map fun q => (q.1, q.2.v K)) (He.ga K "fits") fd := T.says.def_ 5
theorem _root_.L2.RL.Tx.g_is_usage {K : PySem.W.Frag} {mg : Str → Option Value} (T : T0 K mg) : mg "is_usage" = some (.ref (He.ga K "is_usage")) := T.glo 47
theorem _root_.L2.RL.Tx.d_is_usage {K : PySem.W.Frag} {mg : Str → Option Value} (T : T0 K mg) : ∃ fd, FunD K "is_usage" "is_usage" (defArgs (top 56)) (defBody (top 56)) (defScope (top 56)) ([].map (He.Dv.v K)) (([] : List (Str × He.Dv)).map fun q => (q.1, q.2.v K)) (He.ga K "is_usage") fd := T.says.def_ 6
theorem _root_.L2.RL.Tx.g_bad_range {K : PySem.W.Frag} {mg : Str → Option Value} (T : T0 K mg) : mg "bad_range" = some (.ref (He.ga K "bad_range")) := T.glo 48
theorem _root_.L2.RL.Tx.d_bad_range {K : PySem.W.Frag} {mg : Str → Option Value} (T : T0 K mg) : ∃ fd, FunD K "bad_range" "bad_range" (defArgs (top 57)) (defBody (top 57)) (defScope (top 57)) ([].map (He.Dv.v K)) (([] : List (Str × He.Dv)).map fun q => (q.1, q.2.v K)) (He.ga K "bad_range") fd := T.says.def_ 7
theorem _root_.L2.RL.Tx.g_are_usages {K : PySem.W.Frag} {mg : Str → Option Value} (T : T0 K mg) : mg "are_usages" = some (.ref (He.ga K "are_usages")) := T.glo 49
theorem _root_.L2.RL.Tx.d_are_usages {K : PySem.W.Frag} {mg : Str → Option Value} (T : T0 K mg) : ∃ fd, FunD K "are_usages" "are_usages" (defArgs (top 58)) (defBody (top 58)) (defScope (top 58)) ([].map (He.Dv.v K)) (([] : List (Str × He.Dv)).map fun q => (q.1, q.2.v K)) (He.ga K "are_usages") fd := T.says.def_ 8
theorem _root_.L2.RL.Tx.g_bad_entry {K : PySem.W.Frag} {mg : Str → Option Value} (T : T0 K mg) : mg "bad_entry" = some (.ref (He.ga K "bad_entry")) := T.glo 50
theorem _root_.L2.RL.Tx.d_bad_entry {K : PySem.W.Frag} {mg : Str → Option Value} (T : T0 K mg) : ∃ fd, FunD K "bad_entry" "bad_entry" (defArgs (top 60)) (defBody (top 60)) (defScope (top 60)) ([].map (He.Dv.v K)) (([] : List (Str × He.Dv)).map fun q => (q.1, q.2.v K)) (He.ga K "bad_entry") fd := T.says.def_ 9
theorem _root_.L2.RL.Tx.g_is_opening {K : PySem.W.Frag} {mg : Str → Option Value} (T : T0 K mg) : mg "is_opening" = some (.ref (He.ga K "is_opening")) := T.glo 51
theorem _root_.L2.RL.Tx.d_is_opening {K : PySem.W.Frag} {mg : Str → Option Value} (T : T0 K mg) : ∃ fd, FunD K "is_opening" "is_opening" (defArgs (top 61)) (defBody (top 61)) (defScope (top 61)) ([].map (He.Dv.v K)) (([] : List (Str × He.Dv)).map fun q => (q.1, q.2.v K)) (He.ga K "is_opening") fd := T.says.def_ 10
theorem _root_.L2.RL.Tx.g_look_usages {K : PySem.W.Frag} {mg : Str → Option Value} (T : T0 K mg) : mg "look_usages" = some (.ref (He.ga K "look_usages")) := T.glo 52
theorem _root_.L2.RL.Tx.d_look_usages {K : PySem.W.Frag} {mg : Str → Option Value} (T : T0 K mg) : ∃ fd, FunD K "look_usages" "look_usages" (defArgs (top 70)) (defBody (top 70)) (defScope (top 70)) ([].map (He.Dv.v K)) (([] : List (Str × He.Dv)).map fun q => (q.1, q.2.v K)) (He.ga K "look_usages") fd := T.says.def_ 11
theorem _root_.L2.RL.Tx.g_runs_of {K : PySem.W.Frag} {mg : Str → Option Value} (T : T0 K mg) : mg "runs_of" = some (.ref (He.ga K "runs_of")) := T.glo 53
theorem _root_.L2.RL.Tx.d_runs_of {K : PySem.W.Frag} {mg : Str → Option Value} (T : T0 K mg) : ∃ fd, FunD K "runs_of" "runs_of" (defArgs (top 71)) (defBody (top 71)) (defScope (top 71)) ([].map (He.Dv.v K)) (([] : List (Str × He.Dv)).map fun q => (q.1, q.2.v K)) (He.ga K "runs_of") fd := T.says.def_ 12
theorem _root_.L2.RL.Tx.g_cut_variable {K : PySem.W.Frag} {mg : Str → Option Value} (T : T0 K mg) : mg "cut_variable" = some (.ref (He.ga K "cut_variable")) := T.glo 54
theorem _root_.L2.RL.Tx.d_cut_variable {K : PySem.W.Frag} {mg : Str → Option Value} (T : T0 K mg) : ∃ fd, FunD K "cut_variable" "cut_variable" (defArgs (top 72)) (defBody (top 72)) (defScope (top 72)) ([].map (He.Dv.v K)) (([] : List (Str × He.Dv)).map fun q => (q.1, q.2.v K)) (He.ga K "cut_variable") fd := T.says.def_ 13
theorem _root_.L2.RL.Tx.g_cut_field {K : PySem.W.Frag} {mg : Str → Option Value} (T : T0 K mg) : mg "cut_field" = some (.ref (He.ga K "cut_field")) := T.glo 55
theorem _root_.L2.RL.Tx.d_cut_field {K : PySem.W.Frag} {mg : Str → Option Value} (T : T0 K mg) : ∃ fd, FunD K "cut_field" "cut_field" (defArgs (top 73)) (defBody (top 73)) (defScope (top 73)) ([].map (He.Dv.v K)) (([] : List (Str × He.Dv)).map fun q => (q.1, q.2.v K)) (He.ga K "cut_field") fd := T.says.def_ 14
theorem _root_.L2.RL.Tx.g_without_empty {K : PySem.W.Frag} {mg : Str → Option Value} (T : T0 K mg) : mg "without_empty" = some (.ref (He.ga K "without_empty")) := T.glo 56
theorem _root_.L2.RL.Tx.d_without_empty {K : PySem.W.Frag} {mg : Str → Option Value} (T : T0 K mg) : ∃ fd, FunD K "without_empty" "without_empty" (defArgs (top 74)) (defBody (top 74)) (defScope (top 74)) ([].map (He.Dv.v K)) (([] : List (Str × He.Dv)).map fun q => (q.1, q.2.v K)) (He.ga K "without_empty") fd := T.says.def_ 15
theorem _root_.L2.RL.Tx.g_cut {K : PySem.W.Frag} {mg : Str → Option Value} (T : T0 K mg) : mg "cut" = some (.ref (He.ga K "cut")) := T.glo 57
theorem _root_.L2.RL.Tx.d_cut {K : PySem.W.Frag} {mg : Str → Option Value} (T : T0 K mg) : ∃ fd, FunD K "cut" "cut" (defArgs (top 75)) (defBody (top 75)) (defScope (top 75)) ([].map (He.Dv.v K)) (([] : List (Str × He.Dv)).map fun q => (q.1, q.2.v K)) (He.ga K "cut") fd := T.says.def_ 16
theorem _root_.L2.RL.Tx.g__law_source {K : PySem.W.Frag} {mg : Str → Option Value} (T : T0 K mg) : mg "_law_source" = some (.ref (He.ga K "_law_source")) := T.glo 58
theorem _root_.L2.RL.Tx.d__law_source {K : PySem.W.Frag} {mg : Str → Option Value} (T : T0 K mg) : ∃ fd, FunD K "_law_source" "_law_source" (defArgs (top 77)) (defBody (top 77)) (defScope (top 77)) ([].map (He.Dv.v K)) (([] : List (Str × He.Dv)).map fun q => (q.1, q.2.v K)) (He.ga K "_law_source") fd := T.says.def_ 17
theorem _root_.L2.RL.Tx.g__law_draw {K : PySem.W.Frag} {mg : Str → Option Value} (T : T0 K mg) : mg "_law_draw" = some (.ref (He.ga K "_law_draw")) := T.glo 59
theorem _root_.L2.RL.Tx.d__law_draw {K : PySem.W.Frag} {mg : Str → Option Value} (T : T0 K mg) : ∃ fd, FunD K "_law_draw" "_law_draw" (defArgs (top 78)) (defBody (top 78)) (defScope (top 78)) ([].map (He.Dv.v K)) (([] : List (Str × He.Dv)).map fun q => (q.1, q.2.v K)) (He.ga K "_law_draw") fd := T.says.def_ 18
theorem _root_.L2.RL.Tx.g__law_of {K : PySem.W.Frag} {mg : Str → Option Value} (T : T0 K mg) : mg "_law_of" = some (.ref (He.ga K "_law_of")) := T.glo 60
theorem _root_.L2.RL.Tx.d__law_of {K : PySem.W.Frag} {mg : Str → Option Value} (T : T0 K mg) : ∃ fd, FunD K "_law_of" "_law_of" (defArgs (top 79)) (defBody (top 79)) (defScope (top 79)) ([].map (He.Dv.v K)) (([] : List (Str × He.Dv)).map fun q => (q.1, q.2.v K)) (He.ga K "_law_of") fd := T.says.def_ 19
theorem _root_.L2.RL.Tx.g__law_told {K : PySem.W.Frag} {mg : Str → Option Value} (T : T0 K mg) : mg "_law_told" = some (.ref (He.ga K "_law_told")) := T.glo 61
theorem _root_.L2.RL.Tx.d__law_told {K : PySem.W.Frag} {mg : Str → Option Value} (T : T0 K mg) : ∃ fd, FunD K "_law_told" "_law_told" (defArgs (top 80)) (defBody (top 80)) (defScope (top 80)) ([].map (He.Dv.v K)) (([] : List (Str × He.Dv)).map fun q => (q.1, q.2.v K)) (He.ga K "_law_told") fd := T.says.def_ 20
theorem _root_.L2.RL.Tx.g__law_wide {K : PySem.W.Frag} {mg : Str → Option Value} (T : T0 K mg) : mg "_law_wide" = some (.ref (He.ga K "_law_wide")) := T.glo 62
theorem _root_.L2.RL.Tx.d__law_wide {K : PySem.W.Frag} {mg : Str → Option Value} (T : T0 K mg) : ∃ fd, FunD K "_law_wide" "_law_wide" (defArgs (top 81)) (defBody (top 81)) (defScope (top 81)) ([].map (He.Dv.v K)) (([] : List (Str × He.Dv)).map fun q => (q.1, q.2.v K)) (He.ga K "_law_wide") fd := T.says.def_ 21
theorem _root_.L2.RL.Tx.g_law {K : PySem.W.Frag} {mg : Str → Option Value} (T : T0 K mg) : mg "law" = some (.ref (He.ga K "law")) := T.glo 63
theorem _root_.L2.RL.Tx.d_law {K : PySem.W.Frag} {mg : Str → Option Value} (T : T0 K mg) : ∃ fd, FunD K "law" "law" (defArgs (top 82)) (defBody (top 82)) (defScope (top 82)) ([].map (He.Dv.v K)) (([] : List (Str × He.Dv)).map fun q => (q.1, q.2.v K)) (He.ga K "law") fd := T.says.def_ 22
theorem _root_.L2.RL.Tx.g_field_like {K : PySem.W.Frag} {mg : Str → Option Value} (T : T0 K mg) : mg "field_like" = some (.ref (He.ga K "field_like")) := T.glo 64
theorem _root_.L2.RL.Tx.d_field_like {K : PySem.W.Frag} {mg : Str → Option Value} (T : T0 K mg) : ∃ fd, FunD K "field_like" "field_like" (defArgs (top 69)) (defBody (top 69)) (defScope (top 69)) ([].map (He.Dv.v K)) (([("number", .non), ("flags", .non), ("amount", .non), ("usages", .non)] : List (Str × He.Dv)).map fun q => (q.1, q.2.v K)) (He.ga K "field_like") fd := T.says.def_ 23
theorem _root_.L2.RL.Tx.g_BadEntry {K : PySem.W.Frag} {mg : Str → Option Value} (T : T0 K mg) : mg "BadEntry" = some (.ref (He.ga K "BadEntry")) := T.glo 65
theorem _root_.L2.RL.Tx.ob_BadEntry {K : PySem.W.Frag} {mg : Str → Option Value} (T : T0 K mg) : OexB K "ValueError.__new__" bmV (He.ga K "BadEntry") := oexB_ok (T.say 17)
theorem _root_.L2.RL.Tx.ie_BadEntry {K : PySem.W.Frag} {mg : Str → Option Value} (T : T0 K mg) : PySem.W.findIn K (.ref (He.ga K "BadEntry")) "__init__" = some (some (.ref (He.ma K (He.ga K "BadEntry") "__init__"))) := of_decide_eq_true (T.say 18)
theorem _root_.L2.RL.Tx.ti_BadEntry {K : PySem.W.Frag} {mg : Str → Option Value} (T : T0 K mg) : PySem.W.typeIn K (.ref (He.ma K (He.ga K "BadEntry") "__init__")) = some (.type "function") := of_decide_eq_true (T.say 19)
theorem _root_.L2.RL.Tx.xn_BadEntry_index {K : PySem.W.Frag} {mg : Str → Option Value} (T : T0 K mg) : PySem.W.findIn K (.ref (He.ga K "BadEntry")) "index" = some none := of_decide_eq_true (T.say 20)
theorem _root_.L2.RL.Tx.em_BadEntry {K : PySem.W.Frag} {mg : Str → Option Value} (T : T0 K mg) : PySem.W.exmOne K (.ref (He.ga K "BadEntry")) (.ref (He.ga K "BadEntry")) = some true := of_decide_eq_true (T.say 21)
theorem _root_.L2.RL.Tx.ki_BadEntry {K : PySem.W.Frag} {mg : Str → Option Value} (T : T0 K mg) : PySem.W.kitOne K (.ref (He.ga K "BadEntry")) (.type "ValueError") = some true := of_decide_eq_true (T.say 22)
theorem _root_.L2.RL.Tx.xf_BadEntry {K : PySem.W.Frag} {mg : Str → Option Value} (T : T0 K mg) : XfC K (He.ga K "BadEntry") := xfB_ok (T.say 23)
theorem _root_.L2.RL.Tx.xi_BadEntry {K : PySem.W.Frag} {mg : Str → Option Value} (T : T0 K mg) : ExcC K (He.ga K "BadEntry") := excCB_ok (T.say 24)
theorem _root_.L2.RL.Tx.d_BadEntry___init__ {K : PySem.W.Frag} {mg : Str → Option Value} (T : T0 K mg) : ∃ fd, FunD K "__init__" "BadEntry.__init__" (defArgs (inClass (top 5) 0)) (defBody (inClass (top 5) 0)) (defScope (inClass (top 5) 0)) [] (([] : List (Str × He.Dv)).map fun q => (q.1, q.2.v K)) (He.ma K (He.ga K "BadEntry") "__init__") fd := T.says.def_ 24
theorem _root_.L2.RL.Tx.i_OPEN_layouts {K : PySem.W.Frag} {mg : Str → Option Value} (T : T0 K mg) : ∃ t, mg "OPEN_layouts" = some (.str "open" t) := T.str 66
theorem _root_.L2.RL.Tx.i_CLOSE {K : PySem.W.Frag} {mg : Str → Option Value} (T : T0 K mg) : ∃ t, mg "CLOSE" = some (.str "close" t) := T.str 67
theorem _root_.L2.RL.Tx.i_MOST_BITS_layouts {K : PySem.W.Frag} {mg : Str → Option Value} (T : T0 K mg) : ∃ t, mg "MOST_BITS_layouts" = some (.int (512) t) := T.int 68
theorem _root_.L2.RL.Tx.i_MOST_DEPTH_layouts {K : PySem.W.Frag} {mg : Str → Option Value} (T : T0 K mg) : ∃ t, mg "MOST_DEPTH_layouts" = some (.int (8) t) := T.int 69
theorem _root_.L2.RL.Tx.i_MOST_ENTRIES_layouts {K : PySem.W.Frag} {mg : Str → Option Value} (T : T0 K mg) : ∃ t, mg "MOST_ENTRIES_layouts" = some (.int (400) t) := T.int 70
theorem _root_.L2.RL.Tx.g_Layout {K : PySem.W.Frag} {mg : Str → Option Value} (T : T0 K mg) : mg "Layout" = some (.ref (He.ga K "Layout")) := T.glo 72
theorem _root_.L2.RL.Tx.c_Layout {K : PySem.W.Frag} {mg : Str → Option Value} (T : T0 K mg) : Cls K (He.ga K "Layout") := T.cls 71
theorem _root_.L2.RL.Tx.mk_Layout {K : PySem.W.Frag} {mg : Str → Option Value} (T : T0 K mg) : Mk K (He.ga K "Layout") (He.ma K (He.ga K "Layout") "__init__") := T.mkr 73
theorem _root_.L2.RL.Tx.kp_Layout {K : PySem.W.Frag} {mg : Str → Option Value} (T : T0 K mg) : PySem.W.keepIn K (.ref (He.ga K "Layout")) = true := T.keep 74
theorem _root_.L2.RL.Tx.n_Layout_all_entries {K : PySem.W.Frag} {mg : Str → Option Value} (T : T0 K mg) : NoAttr K (He.ga K "Layout") "all_entries" := T.noat 75
theorem _root_.L2.RL.Tx.d_Layout___init__ {K : PySem.W.Frag} {mg : Str → Option Value} (T : T0 K mg) : ∃ fd, FunD K "__init__" "Layout.__init__" (defArgs (inClass (top 62) 0)) (defBody (inClass (top 62) 0)) (defScope (inClass (top 62) 0)) [] (([] : List (Str × He.Dv)).map fun q => (q.1, q.2.v K)) (He.ma K (He.ga K "Layout") "__init__") fd := T.says.def_ 25
theorem _root_.L2.RL.Tx.if_Field {K : PySem.W.Frag} {mg : Str → Option Value} (T : T0 K mg) : PySem.W.kitOne K (.ref (He.ga K "Field")) (.ref (He.ga K "Field")) = some true := of_decide_eq_true (T.say 26)
theorem _root_.L2.RL.Tx.ino_tuple {K : PySem.W.Frag} {mg : Str → Option Value} (T : T0 K mg) : PySem.W.kitOne K (.type "tuple") (.ref (He.ga K "Field")) = some false := of_decide_eq_true (T.say 27)
theorem _root_.L2.RL.Tx.ino_list {K : PySem.W.Frag} {mg : Str → Option Value} (T : T0 K mg) : PySem.W.kitOne K (.type "list") (.ref (He.ga K "Field")) = some false := of_decide_eq_true (T.say 28)
theorem _root_.L2.RL.Tx.ino_str {K : PySem.W.Frag} {mg : Str → Option Value} (T : T0 K mg) : PySem.W.kitOne K (.type "str") (.ref (He.ga K "Field")) = some false := of_decide_eq_true (T.say 29)
theorem _root_.L2.RL.Tx.ino_int {K : PySem.W.Frag} {mg : Str → Option Value} (T : T0 K mg) : PySem.W.kitOne K (.type "int") (.ref (He.ga K "Field")) = some false := of_decide_eq_true (T.say 30)
theorem _root_.L2.RL.Tx.ino_NoneType {K : PySem.W.Frag} {mg : Str → Option Value} (T : T0 K mg) : PySem.W.kitOne K (.type "NoneType") (.ref (He.ga K "Field")) = some false := of_decide_eq_true (T.say 31)
theorem _root_.L2.RL.Tx.ino_bool {K : PySem.W.Frag} {mg : Str → Option Value} (T : T0 K mg) : PySem.W.kitOne K (.type "bool") (.ref (He.ga K "Field")) = some false := of_decide_eq_true (T.say 32)
theorem _root_.L2.RL.Tx.ino_dict {K : PySem.W.Frag} {mg : Str → Option Value} (T : T0 K mg) : PySem.W.kitOne K (.type "dict") (.ref (He.ga K "Field")) = some false := of_decide_eq_true (T.say 33)
theorem _root_.L2.RL.Tx.i_MOST_ENTRIES_changes {K : PySem.W.Frag} {mg : Str → Option Value} (T : T0 K mg) : ∃ t, mg "MOST_ENTRIES_changes" = some (.int (400) t) := T.int 76
theorem _root_.L2.RL.Tx.i_MOST_USAGE_changes {K : PySem.W.Frag} {mg : Str → Option Value} (T : T0 K mg) : ∃ t, mg "MOST_USAGE_changes" = some (.int (4294967295) t) := T.int 77
theorem _root_.L2.RL.Tx.i_CONSTANT_changes {K : PySem.W.Frag} {mg : Str → Option Value} (T : T0 K mg) : ∃ t, mg "CONSTANT_changes" = some (.int (1) t) := T.int 78
theorem _root_.L2.RL.Tx.i_OPEN_changes {K : PySem.W.Frag} {mg : Str → Option Value} (T : T0 K mg) : ∃ t, mg "OPEN_changes" = some (.str "open" t) := T.str 79
theorem _root_.L2.RL.Tx.g_NoUsage {K : PySem.W.Frag} {mg : Str → Option Value} (T : T0 K mg) : mg "NoUsage" = some (.ref (He.ga K "NoUsage")) := T.glo 80
theorem _root_.L2.RL.Tx.m_TypeError {K : PySem.W.Frag} {mg : Str → Option Value} (T : T0 K mg) : mg "TypeError" = none := T.free 81
theorem _root_.L2.RL.Tx.ob_NoUsage {K : PySem.W.Frag} {mg : Str → Option Value} (T : T0 K mg) : OexB K "TypeError.__new__" bmT (He.ga K "NoUsage") := oexB_ok (T.say 34)
theorem _root_.L2.RL.Tx.ie_NoUsage {K : PySem.W.Frag} {mg : Str → Option Value} (T : T0 K mg) : PySem.W.findIn K (.ref (He.ga K "NoUsage")) "__init__" = some (some (.ref (He.ma K (He.ga K "NoUsage") "__init__"))) := of_decide_eq_true (T.say 35)
theorem _root_.L2.RL.Tx.ti_NoUsage {K : PySem.W.Frag} {mg : Str → Option Value} (T : T0 K mg) : PySem.W.typeIn K (.ref (He.ma K (He.ga K "NoUsage") "__init__")) = some (.type "function") := of_decide_eq_true (T.say 36)
theorem _root_.L2.RL.Tx.xn_NoUsage_usage {K : PySem.W.Frag} {mg : Str → Option Value} (T : T0 K mg) : PySem.W.findIn K (.ref (He.ga K "NoUsage")) "usage" = some none := of_decide_eq_true (T.say 37)
theorem _root_.L2.RL.Tx.em_NoUsage {K : PySem.W.Frag} {mg : Str → Option Value} (T : T0 K mg) : PySem.W.exmOne K (.ref (He.ga K "NoUsage")) (.ref (He.ga K "NoUsage")) = some true := of_decide_eq_true (T.say 38)
theorem _root_.L2.RL.Tx.ki_NoUsage {K : PySem.W.Frag} {mg : Str → Option Value} (T : T0 K mg) : PySem.W.kitOne K (.ref (He.ga K "NoUsage")) (.type "TypeError") = some true := of_decide_eq_true (T.say 39)
theorem _root_.L2.RL.Tx.xf_NoUsage {K : PySem.W.Frag} {mg : Str → Option Value} (T : T0 K mg) : XfC K (He.ga K "NoUsage") := xfB_ok (T.say 40)
theorem _root_.L2.RL.Tx.xi_NoUsage {K : PySem.W.Frag} {mg : Str → Option Value} (T : T0 K mg) : ExcC K (He.ga K "NoUsage") := excCB_ok (T.say 41)
theorem _root_.L2.RL.Tx.fc_TypeError {K : PySem.W.Frag} {mg : Str → Option Value} (T : T0 K mg) : PySem.W.findCls K (.type "TypeError") (.type "type") "__init__" = some (.val (.builtin "TypeError.__init__")) := findClsB_ok (T.say 42)
theorem _root_.L2.RL.Tx.d_NoUsage___init__ {K : PySem.W.Frag} {mg : Str → Option Value} (T : T0 K mg) : ∃ fd, FunD K "__init__" "NoUsage.__init__" (defArgs (inClass (top 7) 0)) (defBody (inClass (top 7) 0)) (defScope (inClass (top 7) 0)) [] (([] : List (Str × He.Dv)).map fun q => (q.1, q.2.v K)) (He.ma K (He.ga K "NoUsage") "__init__") fd := T.says.def_ 26
theorem _root_.L2.RL.Tx.g_TooMany {K : PySem.W.Frag} {mg : Str → Option Value} (T : T0 K mg) : mg "TooMany" = some (.ref (He.ga K "TooMany")) := T.glo 82
theorem _root_.L2.RL.Tx.m_OverflowError {K : PySem.W.Frag} {mg : Str → Option Value} (T : T0 K mg) : mg "OverflowError" = none := T.free 83
theorem _root_.L2.RL.Tx.ob_TooMany {K : PySem.W.Frag} {mg : Str → Option Value} (T : T0 K mg) : OexB K "OverflowError.__new__" bmO (He.ga K "TooMany") := oexB_ok (T.say 43)
theorem _root_.L2.RL.Tx.ie_TooMany {K : PySem.W.Frag} {mg : Str → Option Value} (T : T0 K mg) : PySem.W.findIn K (.ref (He.ga K "TooMany")) "__init__" = some (some (.ref (He.ma K (He.ga K "TooMany") "__init__"))) := of_decide_eq_true (T.say 44)
theorem _root_.L2.RL.Tx.ti_TooMany {K : PySem.W.Frag} {mg : Str → Option Value} (T : T0 K mg) : PySem.W.typeIn K (.ref (He.ma K (He.ga K "TooMany") "__init__")) = some (.type "function") := of_decide_eq_true (T.say 45)
theorem _root_.L2.RL.Tx.xn_TooMany_what {K : PySem.W.Frag} {mg : Str → Option Value} (T : T0 K mg) : PySem.W.findIn K (.ref (He.ga K "TooMany")) "what" = some none := of_decide_eq_true (T.say 46)
theorem _root_.L2.RL.Tx.em_TooMany {K : PySem.W.Frag} {mg : Str → Option Value} (T : T0 K mg) : PySem.W.exmOne K (.ref (He.ga K "TooMany")) (.ref (He.ga K "TooMany")) = some true := of_decide_eq_true (T.say 47)
theorem _root_.L2.RL.Tx.ki_TooMany {K : PySem.W.Frag} {mg : Str → Option Value} (T : T0 K mg) : PySem.W.kitOne K (.ref (He.ga K "TooMany")) (.type "OverflowError") = some true := of_decide_eq_true (T.say 48)
theorem _root_.L2.RL.Tx.xf_TooMany {K : PySem.W.Frag} {mg : Str → Option Value} (T : T0 K mg) : XfC K (He.ga K "TooMany") := xfB_ok (T.say 49)
theorem _root_.L2.RL.Tx.xi_TooMany {K : PySem.W.Frag} {mg : Str → Option Value} (T : T0 K mg) : ExcC K (He.ga K "TooMany") := excCB_ok (T.say 50)
theorem _root_.L2.RL.Tx.fc_OverflowError {K : PySem.W.Frag} {mg : Str → Option Value} (T : T0 K mg) : PySem.W.findCls K (.type "OverflowError") (.type "type") "__init__" = some (.val (.builtin "OverflowError.__init__")) := findClsB_ok (T.say 51)
theorem _root_.L2.RL.Tx.d_TooMany___init__ {K : PySem.W.Frag} {mg : Str → Option Value} (T : T0 K mg) : ∃ fd, FunD K "__init__" "TooMany.__init__" (defArgs (inClass (top 8) 0)) (defBody (inClass (top 8) 0)) (defScope (inClass (top 8) 0)) [] (([] : List (Str × He.Dv)).map fun q => (q.1, q.2.v K)) (He.ma K (He.ga K "TooMany") "__init__") fd := T.says.def_ 27
theorem _root_.L2.RL.Tx.d_Field___eq__ {K : PySem.W.Frag} {mg : Str → Option Value} (T : T0 K mg) : ∃ fd, FunD K "__eq__" "Field.__eq__" (defArgs (inClass (top 59) 3)) (defBody (inClass (top 59) 3)) (defScope (inClass (top 59) 3)) [] (([] : List (Str × He.Dv)).map fun q => (q.1, q.2.v K)) (He.ma K (He.ga K "Field") "__eq__") fd := T.says.def_ 28
theorem _root_.L2.RL.Tx.fe_Field {K : PySem.W.Frag} {mg : Str → Option Value} (T : T0 K mg) : PySem.W.findIn K (.ref (He.ga K "Field")) "__eq__" = some (some (.ref (He.ma K (He.ga K "Field") "__eq__"))) := of_decide_eq_true (T.say 52)
theorem _root_.L2.RL.Tx.ff_Field {K : PySem.W.Frag} {mg : Str → Option Value} (T : T0 K mg) : PySem.W.isFn K (.ref (He.ma K (He.ga K "Field") "__eq__")) = true := T.say 53
theorem _root_.L2.RL.Tx.nf_Field {K : PySem.W.Frag} {mg : Str → Option Value} (T : T0 K mg) : PySem.W.notFirst K (He.ga K "Field") (.type "tuple") = true := of_decide_eq_true (T.say 54)
theorem _root_.L2.RL.Tx.nem_TM {K : PySem.W.Frag} {mg : Str → Option Value} (T : T0 K mg) : PySem.W.exmOne K (.ref (He.ga K "TooMany")) (.ref (He.ga K "NoUsage")) = some false := of_decide_eq_true (T.say 55)
theorem _root_.L2.RL.Tx.nkV_NoUsage {K : PySem.W.Frag} {mg : Str → Option Value} (T : T0 K mg) : PySem.W.kitOne K (.ref (He.ga K "NoUsage")) (.type "ValueError") = some false := of_decide_eq_true (T.say 56)
theorem TT.pp_Field_style {K : PySem.W.Frag} {mg : Str → Option Value} (T : TT K mg) : PropOf K (He.ga K "Field") "style" (He.ma K (He.ga K "Field") "style") (gAd K "Field" "style") := (T.pr.at_ 0).1
theorem TT.d_Field_style {K : PySem.W.Frag} {mg : Str → Option Value} (T : TT K mg) : ∃ fd, FunD K "style" "Field.style" (defArgs (inClass (top 59) 4)) (defBody (inClass (top 59) 4)) (defScope (inClass (top 59) 4)) [] [] (gAd K "Field" "style") fd := (T.pr.at_ 0).2
theorem TT.pp_Field_total_bits {K : PySem.W.Frag} {mg : Str → Option Value} (T : TT K mg) : PropOf K (He.ga K "Field") "total_bits" (He.ma K (He.ga K "Field") "total_bits") (gAd K "Field" "total_bits") := (T.pr.at_ 1).1
theorem TT.d_Field_total_bits {K : PySem.W.Frag} {mg : Str → Option Value} (T : TT K mg) : ∃ fd, FunD K "total_bits" "Field.total_bits" (defArgs (inClass (top 59) 7)) (defBody (inClass (top 59) 7)) (defScope (inClass (top 59) 7)) [] [] (gAd K "Field" "total_bits") fd := (T.pr.at_ 1).2
theorem TT.pp_Layout_entries {K : PySem.W.Frag} {mg : Str → Option Value} (T : TT K mg) : PropOf K (He.ga K "Layout") "entries" (He.ma K (He.ga K "Layout") "entries") (gAd K "Layout" "entries") := (T.pr.at_ 2).1
theorem TT.d_Layout_entries {K : PySem.W.Frag} {mg : Str → Option Value} (T : TT K mg) : ∃ fd, FunD K "entries" "Layout.entries" (defArgs (inClass (top 62) 2)) (defBody (inClass (top 62) 2)) (defScope (inClass (top 62) 2)) [] [] (gAd K "Layout" "entries") fd := (T.pr.at_ 2).2
theorem TT.pp_Layout_fields {K : PySem.W.Frag} {mg : Str → Option Value} (T : TT K mg) : PropOf K (He.ga K "Layout") "fields" (He.ma K (He.ga K "Layout") "fields") (gAd K "Layout" "fields") := (T.pr.at_ 3).1
theorem TT.d_Layout_fields {K : PySem.W.Frag} {mg : Str → Option Value} (T : TT K mg) : ∃ fd, FunD K "fields" "Layout.fields" (defArgs (inClass (top 62) 3)) (defBody (inClass (top 62) 3)) (defScope (inClass (top 62) 3)) [] [] (gAd K "Layout" "fields") fd := (T.pr.at_ 3).2
theorem start_0_0  : L2.start [] [] = [] := rfl
theorem start_1_0 (x0 : Str) : L2.start [x0] [] = [none] := rfl
theorem start_1_1 (x0 : Str) (v0 : V) : L2.start [x0] [v0] = [some v0] := rfl
theorem start_2_0 (x0 x1 : Str) : L2.start [x0, x1] [] = [none, none] := rfl
theorem start_2_1 (x0 x1 : Str) (v0 : V) : L2.start [x0, x1] [v0] = [some v0, none] := rfl
theorem start_2_2 (x0 x1 : Str) (v0 v1 : V) : L2.start [x0, x1] [v0, v1] = [some v0, some v1] := rfl
theorem start_3_0 (x0 x1 x2 : Str) : L2.start [x0, x1, x2] [] = [none, none, none] := rfl
theorem start_3_1 (x0 x1 x2 : Str) (v0 : V) : L2.start [x0, x1, x2] [v0] = [some v0, none, none] := rfl
theorem start_3_2 (x0 x1 x2 : Str) (v0 v1 : V) : L2.start [x0, x1, x2] [v0, v1] = [some v0, some v1, none] := rfl
theorem start_3_3 (x0 x1 x2 : Str) (v0 v1 v2 : V) : L2.start [x0, x1, x2] [v0, v1, v2] = [some v0, some v1, some v2] := rfl
theorem start_4_0 (x0 x1 x2 x3 : Str) : L2.start [x0, x1, x2, x3] [] = [none, none, none, none] := rfl
theorem start_4_1 (x0 x1 x2 x3 : Str) (v0 : V) : L2.start [x0, x1, x2, x3] [v0] = [some v0, none, none, none] := rfl
theorem start_4_2 (x0 x1 x2 x3 : Str) (v0 v1 : V) : L2.start [x0, x1, x2, x3] [v0, v1] = [some v0, some v1, none, none] := rfl
theorem start_4_3 (x0 x1 x2 x3 : Str) (v0 v1 v2 : V) : L2.start [x0, x1, x2, x3] [v0, v1, v2] = [some v0, some v1, some v2, none] := rfl
theorem start_4_4 (x0 x1 x2 x3 : Str) (v0 v1 v2 v3 : V) : L2.start [x0, x1, x2, x3] [v0, v1, v2, v3] = [some v0, some v1, some v2, some v3] := rfl
theorem start_5_0 (x0 x1 x2 x3 x4 : Str) : L2.start [x0, x1, x2, x3, x4] [] = [none, none, none, none, none] := rfl
theorem start_5_1 (x0 x1 x2 x3 x4 : Str) (v0 : V) : L2.start [x0, x1, x2, x3, x4] [v0] = [some v0, none, none, none, none] := rfl
theorem start_5_2 (x0 x1 x2 x3 x4 : Str) (v0 v1 : V) : L2.start [x0, x1, x2, x3, x4] [v0, v1] = [some v0, some v1, none, none, none] := rfl
theorem start_5_3 (x0 x1 x2 x3 x4 : Str) (v0 v1 v2 : V) : L2.start [x0, x1, x2, x3, x4] [v0, v1, v2] = [some v0, some v1, some v2, none, none] := rfl
theorem start_5_4 (x0 x1 x2 x3 x4 : Str) (v0 v1 v2 v3 : V) : L2.start [x0, x1, x2, x3, x4] [v0, v1, v2, v3] = [some v0, some v1, some v2, some v3, none] := rfl
theorem start_5_5 (x0 x1 x2 x3 x4 : Str) (v0 v1 v2 v3 v4 : V) : L2.start [x0, x1, x2, x3, x4] [v0, v1, v2, v3, v4] = [some v0, some v1, some v2, some v3, some v4] := rfl
theorem start_6_0 (x0 x1 x2 x3 x4 x5 : Str) : L2.start [x0, x1, x2, x3, x4, x5] [] = [none, none, none, none, none, none] := rfl
theorem start_6_1 (x0 x1 x2 x3 x4 x5 : Str) (v0 : V) : L2.start [x0, x1, x2, x3, x4, x5] [v0] = [some v0, none, none, none, none, none] := rfl
theorem start_6_2 (x0 x1 x2 x3 x4 x5 : Str) (v0 v1 : V) : L2.start [x0, x1, x2, x3, x4, x5] [v0, v1] = [some v0, some v1, none, none, none, none] := rfl
theorem start_6_3 (x0 x1 x2 x3 x4 x5 : Str) (v0 v1 v2 : V) : L2.start [x0, x1, x2, x3, x4, x5] [v0, v1, v2] = [some v0, some v1, some v2, none, none, none] := rfl
theorem start_6_4 (x0 x1 x2 x3 x4 x5 : Str) (v0 v1 v2 v3 : V) : L2.start [x0, x1, x2, x3, x4, x5] [v0, v1, v2, v3] = [some v0, some v1, some v2, some v3, none, none] := rfl
theorem start_6_5 (x0 x1 x2 x3 x4 x5 : Str) (v0 v1 v2 v3 v4 : V) : L2.start [x0, x1, x2, x3, x4, x5] [v0, v1, v2, v3, v4] = [some v0, some v1, some v2, some v3, some v4, none] := rfl
theorem start_6_6 (x0 x1 x2 x3 x4 x5 : Str) (v0 v1 v2 v3 v4 v5 : V) : L2.start [x0, x1, x2, x3, x4, x5] [v0, v1, v2, v3, v4, v5] = [some v0, some v1, some v2, some v3, some v4, some v5] := rfl
theorem start_7_0 (x0 x1 x2 x3 x4 x5 x6 : Str) : L2.start [x0, x1, x2, x3, x4, x5, x6] [] = [none, none, none, none, none, none, none] := rfl
theorem start_7_1 (x0 x1 x2 x3 x4 x5 x6 : Str) (v0 : V) : L2.start [x0, x1, x2, x3, x4, x5, x6] [v0] = [some v0, none, none, none, none, none, none] := rfl
theorem start_7_2 (x0 x1 x2 x3 x4 x5 x6 : Str) (v0 v1 : V) : L2.start [x0, x1, x2, x3, x4, x5, x6] [v0, v1] = [some v0, some v1, none, none, none, none, none] := rfl
theorem start_7_3 (x0 x1 x2 x3 x4 x5 x6 : Str) (v0 v1 v2 : V) : L2.start [x0, x1, x2, x3, x4, x5, x6] [v0, v1, v2] = [some v0, some v1, some v2, none, none, none, none] := rfl
theorem start_7_4 (x0 x1 x2 x3 x4 x5 x6 : Str) (v0 v1 v2 v3 : V) : L2.start [x0, x1, x2, x3, x4, x5, x6] [v0, v1, v2, v3] = [some v0, some v1, some v2, some v3, none, none, none] := rfl
theorem start_7_5 (x0 x1 x2 x3 x4 x5 x6 : Str) (v0 v1 v2 v3 v4 : V) : L2.start [x0, x1, x2, x3, x4, x5, x6] [v0, v1, v2, v3, v4] = [some v0, some v1, some v2, some v3, some v4, none, none] := rfl
theorem start_7_6 (x0 x1 x2 x3 x4 x5 x6 : Str) (v0 v1 v2 v3 v4 v5 : V) : L2.start [x0, x1, x2, x3, x4, x5, x6] [v0, v1, v2, v3, v4, v5] = [some v0, some v1, some v2, some v3, some v4, some v5, none] := rfl
theorem start_7_7 (x0 x1 x2 x3 x4 x5 x6 : Str) (v0 v1 v2 v3 v4 v5 v6 : V) : L2.start [x0, x1, x2, x3, x4, x5, x6] [v0, v1, v2, v3, v4, v5, v6] = [some v0, some v1, some v2, some v3, some v4, some v5, some v6] := rfl
theorem start_8_0 (x0 x1 x2 x3 x4 x5 x6 x7 : Str) : L2.start [x0, x1, x2, x3, x4, x5, x6, x7] [] = [none, none, none, none, none, none, none, none] := rfl
theorem start_8_1 (x0 x1 x2 x3 x4 x5 x6 x7 : Str) (v0 : V) : L2.start [x0, x1, x2, x3, x4, x5, x6, x7] [v0] = [some v0, none, none, none, none, none, none, none] := rfl
theorem start_8_2 (x0 x1 x2 x3 x4 x5 x6 x7 : Str) (v0 v1 : V) : L2.start [x0, x1, x2, x3, x4, x5, x6, x7] [v0, v1] = [some v0, some v1, none, none, none, none, none, none] := rfl
theorem start_8_3 (x0 x1 x2 x3 x4 x5 x6 x7 : Str) (v0 v1 v2 : V) : L2.start [x0, x1, x2, x3, x4, x5, x6, x7] [v0, v1, v2] = [some v0, some v1, some v2, none, none, none, none, none] := rfl
theorem start_8_4 (x0 x1 x2 x3 x4 x5 x6 x7 : Str) (v0 v1 v2 v3 : V) : L2.start [x0, x1, x2, x3, x4, x5, x6, x7] [v0, v1, v2, v3] = [some v0, some v1, some v2, some v3, none, none, none, none] := rfl
theorem start_8_5 (x0 x1 x2 x3 x4 x5 x6 x7 : Str) (v0 v1 v2 v3 v4 : V) : L2.start [x0, x1, x2, x3, x4, x5, x6, x7] [v0, v1, v2, v3, v4] = [some v0, some v1, some v2, some v3, some v4, none, none, none] := rfl
theorem start_8_6 (x0 x1 x2 x3 x4 x5 x6 x7 : Str) (v0 v1 v2 v3 v4 v5 : V) : L2.start [x0, x1, x2, x3, x4, x5, x6, x7] [v0, v1, v2, v3, v4, v5] = [some v0, some v1, some v2, some v3, some v4, some v5, none, none] := rfl
theorem start_8_7 (x0 x1 x2 x3 x4 x5 x6 x7 : Str) (v0 v1 v2 v3 v4 v5 v6 : V) : L2.start [x0, x1, x2, x3, x4, x5, x6, x7] [v0, v1, v2, v3, v4, v5, v6] = [some v0, some v1, some v2, some v3, some v4, some v5, some v6, none] := rfl
theorem start_8_8 (x0 x1 x2 x3 x4 x5 x6 x7 : Str) (v0 v1 v2 v3 v4 v5 v6 v7 : V) : L2.start [x0, x1, x2, x3, x4, x5, x6, x7] [v0, v1, v2, v3, v4, v5, v6, v7] = [some v0, some v1, some v2, some v3, some v4, some v5, some v6, some v7] := rfl
theorem start_9_0 (x0 x1 x2 x3 x4 x5 x6 x7 x8 : Str) : L2.start [x0, x1, x2, x3, x4, x5, x6, x7, x8] [] = [none, none, none, none, none, none, none, none, none] := rfl
theorem start_9_1 (x0 x1 x2 x3 x4 x5 x6 x7 x8 : Str) (v0 : V) : L2.start [x0, x1, x2, x3, x4, x5, x6, x7, x8] [v0] = [some v0, none, none, none, none, none, none, none, none] := rfl
theorem start_9_2 (x0 x1 x2 x3 x4 x5 x6 x7 x8 : Str) (v0 v1 : V) : L2.start [x0, x1, x2, x3, x4, x5, x6, x7, x8] [v0, v1] = [some v0, some v1, none, none, none, none, none, none, none] := rfl
theorem start_9_3 (x0 x1 x2 x3 x4 x5 x6 x7 x8 : Str) (v0 v1 v2 : V) : L2.start [x0, x1, x2, x3, x4, x5, x6, x7, x8] [v0, v1, v2] = [some v0, some v1, some v2, none, none, none, none, none, none] := rfl
theorem start_9_4 (x0 x1 x2 x3 x4 x5 x6 x7 x8 : Str) (v0 v1 v2 v3 : V) : L2.start [x0, x1, x2, x3, x4, x5, x6, x7, x8] [v0, v1, v2, v3] = [some v0, some v1, some v2, some v3, none, none, none, none, none] := rfl
theorem start_9_5 (x0 x1 x2 x3 x4 x5 x6 x7 x8 : Str) (v0 v1 v2 v3 v4 : V) : L2.start [x0, x1, x2, x3, x4, x5, x6, x7, x8] [v0, v1, v2, v3, v4] = [some v0, some v1, some v2, some v3, some v4, none, none, none, none] := rfl
theorem start_9_6 (x0 x1 x2 x3 x4 x5 x6 x7 x8 : Str) (v0 v1 v2 v3 v4 v5 : V) : L2.start [x0, x1, x2, x3, x4, x5, x6, x7, x8] [v0, v1, v2, v3, v4, v5] = [some v0, some v1, some v2, some v3, some v4, some v5, none, none, none] := rfl
theorem start_9_7 (x0 x1 x2 x3 x4 x5 x6 x7 x8 : Str) (v0 v1 v2 v3 v4 v5 v6 : V) : L2.start [x0, x1, x2, x3, x4, x5, x6, x7, x8] [v0, v1, v2, v3, v4, v5, v6] = [some v0, some v1, some v2, some v3, some v4, some v5, some v6, none, none] := rfl
theorem start_9_8 (x0 x1 x2 x3 x4 x5 x6 x7 x8 : Str) (v0 v1 v2 v3 v4 v5 v6 v7 : V) : L2.start [x0, x1, x2, x3, x4, x5, x6, x7, x8] [v0, v1, v2, v3, v4, v5, v6, v7] = [some v0, some v1, some v2, some v3, some v4, some v5, some v6, some v7, none] := rfl
theorem start_9_9 (x0 x1 x2 x3 x4 x5 x6 x7 x8 : Str) (v0 v1 v2 v3 v4 v5 v6 v7 v8 : V) : L2.start [x0, x1, x2, x3, x4, x5, x6, x7, x8] [v0, v1, v2, v3, v4, v5, v6, v7, v8] = [some v0, some v1, some v2, some v3, some v4, some v5, some v6, some v7, some v8] := rfl
theorem start_10_0 (x0 x1 x2 x3 x4 x5 x6 x7 x8 x9 : Str) : L2.start [x0, x1, x2, x3, x4, x5, x6, x7, x8, x9] [] = [none, none, none, none, none, none, none, none, none, none] := rfl
theorem start_10_1 (x0 x1 x2 x3 x4 x5 x6 x7 x8 x9 : Str) (v0 : V) : L2.start [x0, x1, x2, x3, x4, x5, x6, x7, x8, x9] [v0] = [some v0, none, none, none, none, none, none, none, none, none] := rfl
theorem start_10_2 (x0 x1 x2 x3 x4 x5 x6 x7 x8 x9 : Str) (v0 v1 : V) : L2.start [x0, x1, x2, x3, x4, x5, x6, x7, x8, x9] [v0, v1] = [some v0, some v1, none, none, none, none, none, none, none, none] := rfl
theorem start_10_3 (x0 x1 x2 x3 x4 x5 x6 x7 x8 x9 : Str) (v0 v1 v2 : V) : L2.start [x0, x1, x2, x3, x4, x5, x6, x7, x8, x9] [v0, v1, v2] = [some v0, some v1, some v2, none, none, none, none, none, none, none] := rfl
theorem start_10_4 (x0 x1 x2 x3 x4 x5 x6 x7 x8 x9 : Str) (v0 v1 v2 v3 : V) : L2.start [x0, x1, x2, x3, x4, x5, x6, x7, x8, x9] [v0, v1, v2, v3] = [some v0, some v1, some v2, some v3, none, none, none, none, none, none] := rfl
theorem start_10_5 (x0 x1 x2 x3 x4 x5 x6 x7 x8 x9 : Str) (v0 v1 v2 v3 v4 : V) : L2.start [x0, x1, x2, x3, x4, x5, x6, x7, x8, x9] [v0, v1, v2, v3, v4] = [some v0, some v1, some v2, some v3, some v4, none, none, none, none, none] := rfl
theorem start_10_6 (x0 x1 x2 x3 x4 x5 x6 x7 x8 x9 : Str) (v0 v1 v2 v3 v4 v5 : V) : L2.start [x0, x1, x2, x3, x4, x5, x6, x7, x8, x9] [v0, v1, v2, v3, v4, v5] = [some v0, some v1, some v2, some v3, some v4, some v5, none, none, none, none] := rfl
theorem start_10_7 (x0 x1 x2 x3 x4 x5 x6 x7 x8 x9 : Str) (v0 v1 v2 v3 v4 v5 v6 : V) : L2.start [x0, x1, x2, x3, x4, x5, x6, x7, x8, x9] [v0, v1, v2, v3, v4, v5, v6] = [some v0, some v1, some v2, some v3, some v4, some v5, some v6, none, none, none] := rfl
theorem start_10_8 (x0 x1 x2 x3 x4 x5 x6 x7 x8 x9 : Str) (v0 v1 v2 v3 v4 v5 v6 v7 : V) : L2.start [x0, x1, x2, x3, x4, x5, x6, x7, x8, x9] [v0, v1, v2, v3, v4, v5, v6, v7] = [some v0, some v1, some v2, some v3, some v4, some v5, some v6, some v7, none, none] := rfl
theorem start_10_9 (x0 x1 x2 x3 x4 x5 x6 x7 x8 x9 : Str) (v0 v1 v2 v3 v4 v5 v6 v7 v8 : V) : L2.start [x0, x1, x2, x3, x4, x5, x6, x7, x8, x9] [v0, v1, v2, v3, v4, v5, v6, v7, v8] = [some v0, some v1, some v2, some v3, some v4, some v5, some v6, some v7, some v8, none] := rfl
theorem start_10_10 (x0 x1 x2 x3 x4 x5 x6 x7 x8 x9 : Str) (v0 v1 v2 v3 v4 v5 v6 v7 v8 v9 : V) : L2.start [x0, x1, x2, x3, x4, x5, x6, x7, x8, x9] [v0, v1, v2, v3, v4, v5, v6, v7, v8, v9] = [some v0, some v1, some v2, some v3, some v4, some v5, some v6, some v7, some v8, some v9] := rfl
theorem start_11_0 (x0 x1 x2 x3 x4 x5 x6 x7 x8 x9 x10 : Str) : L2.start [x0, x1, x2, x3, x4, x5, x6, x7, x8, x9, x10] [] = [none, none, none, none, none, none, none, none, none, none, none] := rfl
theorem start_11_1 (x0 x1 x2 x3 x4 x5 x6 x7 x8 x9 x10 : Str) (v0 : V) : L2.start [x0, x1, x2, x3, x4, x5, x6, x7, x8, x9, x10] [v0] = [some v0, none, none, none, none, none, none, none, none, none, none] := rfl
theorem start_11_2 (x0 x1 x2 x3 x4 x5 x6 x7 x8 x9 x10 : Str) (v0 v1 : V) : L2.start [x0, x1, x2, x3, x4, x5, x6, x7, x8, x9, x10] [v0, v1] = [some v0, some v1, none, none, none, none, none, none, none, none, none] := rfl
theorem start_11_3 (x0 x1 x2 x3 x4 x5 x6 x7 x8 x9 x10 : Str) (v0 v1 v2 : V) : L2.start [x0, x1, x2, x3, x4, x5, x6, x7, x8, x9, x10] [v0, v1, v2] = [some v0, some v1, some v2, none, none, none, none, none, none, none, none] := rfl
theorem start_11_4 (x0 x1 x2 x3 x4 x5 x6 x7 x8 x9 x10 : Str) (v0 v1 v2 v3 : V) : L2.start [x0, x1, x2, x3, x4, x5, x6, x7, x8, x9, x10] [v0, v1, v2, v3] = [some v0, some v1, some v2, some v3, none, none, none, none, none, none, none] := rfl
theorem start_11_5 (x0 x1 x2 x3 x4 x5 x6 x7 x8 x9 x10 : Str) (v0 v1 v2 v3 v4 : V) : L2.start [x0, x1, x2, x3, x4, x5, x6, x7, x8, x9, x10] [v0, v1, v2, v3, v4] = [some v0, some v1, some v2, some v3, some v4, none, none, none, none, none, none] := rfl
theorem start_11_6 (x0 x1 x2 x3 x4 x5 x6 x7 x8 x9 x10 : Str) (v0 v1 v2 v3 v4 v5 : V) : L2.start [x0, x1, x2, x3, x4, x5, x6, x7, x8, x9, x10] [v0, v1, v2, v3, v4, v5] = [some v0, some v1, some v2, some v3, some v4, some v5, none, none, none, none, none] := rfl
theorem start_11_7 (x0 x1 x2 x3 x4 x5 x6 x7 x8 x9 x10 : Str) (v0 v1 v2 v3 v4 v5 v6 : V) : L2.start [x0, x1, x2, x3, x4, x5, x6, x7, x8, x9, x10] [v0, v1, v2, v3, v4, v5, v6] = [some v0, some v1, some v2, some v3, some v4, some v5, some v6, none, none, none, none] := rfl
theorem start_11_8 (x0 x1 x2 x3 x4 x5 x6 x7 x8 x9 x10 : Str) (v0 v1 v2 v3 v4 v5 v6 v7 : V) : L2.start [x0, x1, x2, x3, x4, x5, x6, x7, x8, x9, x10] [v0, v1, v2, v3, v4, v5, v6, v7] = [some v0, some v1, some v2, some v3, some v4, some v5, some v6, some v7, none, none, none] := rfl
theorem start_11_9 (x0 x1 x2 x3 x4 x5 x6 x7 x8 x9 x10 : Str) (v0 v1 v2 v3 v4 v5 v6 v7 v8 : V) : L2.start [x0, x1, x2, x3, x4, x5, x6, x7, x8, x9, x10] [v0, v1, v2, v3, v4, v5, v6, v7, v8] = [some v0, some v1, some v2, some v3, some v4, some v5, some v6, some v7, some v8, none, none] := rfl
theorem start_11_10 (x0 x1 x2 x3 x4 x5 x6 x7 x8 x9 x10 : Str) (v0 v1 v2 v3 v4 v5 v6 v7 v8 v9 : V) : L2.start [x0, x1, x2, x3, x4, x5, x6, x7, x8, x9, x10] [v0, v1, v2, v3, v4, v5, v6, v7, v8, v9] = [some v0, some v1, some v2, some v3, some v4, some v5, some v6, some v7, some v8, some v9, none] := rfl
theorem start_11_11 (x0 x1 x2 x3 x4 x5 x6 x7 x8 x9 x10 : Str) (v0 v1 v2 v3 v4 v5 v6 v7 v8 v9 v10 : V) : L2.start [x0, x1, x2, x3, x4, x5, x6, x7, x8, x9, x10] [v0, v1, v2, v3, v4, v5, v6, v7, v8, v9, v10] = [some v0, some v1, some v2, some v3, some v4, some v5, some v6, some v7, some v8, some v9, some v10] := rfl
theorem start_12_0 (x0 x1 x2 x3 x4 x5 x6 x7 x8 x9 x10 x11 : Str) : L2.start [x0, x1, x2, x3, x4, x5, x6, x7, x8, x9, x10, x11] [] = [none, none, none, none, none, none, none, none, none, none, none, none] := rfl
theorem start_12_1 (x0 x1 x2 x3 x4 x5 x6 x7 x8 x9 x10 x11 : Str) (v0 : V) : L2.start [x0, x1, x2, x3, x4, x5, x6, x7, x8, x9, x10, x11] [v0] = [some v0, none, none, none, none, none, none, none, none, none, none, none] := rfl
theorem start_12_2 (x0 x1 x2 x3 x4 x5 x6 x7 x8 x9 x10 x11 : Str) (v0 v1 : V) : L2.start [x0, x1, x2, x3, x4, x5, x6, x7, x8, x9, x10, x11] [v0, v1] = [some v0, some v1, none, none, none, none, none, none, none, none, none, none] := rfl
theorem start_12_3 (x0 x1 x2 x3 x4 x5 x6 x7 x8 x9 x10 x11 : Str) (v0 v1 v2 : V) : L2.start [x0, x1, x2, x3, x4, x5, x6, x7, x8, x9, x10, x11] [v0, v1, v2] = [some v0, some v1, some v2, none, none, none, none, none, none, none, none, none] := rfl
theorem start_12_4 (x0 x1 x2 x3 x4 x5 x6 x7 x8 x9 x10 x11 : Str) (v0 v1 v2 v3 : V) : L2.start [x0, x1, x2, x3, x4, x5, x6, x7, x8, x9, x10, x11] [v0, v1, v2, v3] = [some v0, some v1, some v2, some v3, none, none, none, none, none, none, none, none] := rfl
theorem start_12_5 (x0 x1 x2 x3 x4 x5 x6 x7 x8 x9 x10 x11 : Str) (v0 v1 v2 v3 v4 : V) : L2.start [x0, x1, x2, x3, x4, x5, x6, x7, x8, x9, x10, x11] [v0, v1, v2, v3, v4] = [some v0, some v1, some v2, some v3, some v4, none, none, none, none, none, none, none] := rfl
theorem start_12_6 (x0 x1 x2 x3 x4 x5 x6 x7 x8 x9 x10 x11 : Str) (v0 v1 v2 v3 v4 v5 : V) : L2.start [x0, x1, x2, x3, x4, x5, x6, x7, x8, x9, x10, x11] [v0, v1, v2, v3, v4, v5] = [some v0, some v1, some v2, some v3, some v4, some v5, none, none, none, none, none, none] := rfl
theorem start_12_7 (x0 x1 x2 x3 x4 x5 x6 x7 x8 x9 x10 x11 : Str) (v0 v1 v2 v3 v4 v5 v6 : V) : L2.start [x0, x1, x2, x3, x4, x5, x6, x7, x8, x9, x10, x11] [v0, v1, v2, v3, v4, v5, v6] = [some v0, some v1, some v2, some v3, some v4, some v5, some v6, none, none, none, none, none] := rfl
theorem start_12_8 (x0 x1 x2 x3 x4 x5 x6 x7 x8 x9 x10 x11 : Str) (v0 v1 v2 v3 v4 v5 v6 v7 : V) : L2.start [x0, x1, x2, x3, x4, x5, x6, x7, x8, x9, x10, x11] [v0, v1, v2, v3, v4, v5, v6, v7] = [some v0, some v1, some v2, some v3, some v4, some v5, some v6, some v7, none, none, none, none] := rfl
theorem start_12_9 (x0 x1 x2 x3 x4 x5 x6 x7 x8 x9 x10 x11 : Str) (v0 v1 v2 v3 v4 v5 v6 v7 v8 : V) : L2.start [x0, x1, x2, x3, x4, x5, x6, x7, x8, x9, x10, x11] [v0, v1, v2, v3, v4, v5, v6, v7, v8] = [some v0, some v1, some v2, some v3, some v4, some v5, some v6, some v7, some v8, none, none, none] := rfl
theorem start_12_10 (x0 x1 x2 x3 x4 x5 x6 x7 x8 x9 x10 x11 : Str) (v0 v1 v2 v3 v4 v5 v6 v7 v8 v9 : V) : L2.start [x0, x1, x2, x3, x4, x5, x6, x7, x8, x9, x10, x11] [v0, v1, v2, v3, v4, v5, v6, v7, v8, v9] = [some v0, some v1, some v2, some v3, some v4, some v5, some v6, some v7, some v8, some v9, none, none] := rfl
theorem start_12_11 (x0 x1 x2 x3 x4 x5 x6 x7 x8 x9 x10 x11 : Str) (v0 v1 v2 v3 v4 v5 v6 v7 v8 v9 v10 : V) : L2.start [x0, x1, x2, x3, x4, x5, x6, x7, x8, x9, x10, x11] [v0, v1, v2, v3, v4, v5, v6, v7, v8, v9, v10] = [some v0, some v1, some v2, some v3, some v4, some v5, some v6, some v7, some v8, some v9, some v10, none] := rfl
theorem start_12_12 (x0 x1 x2 x3 x4 x5 x6 x7 x8 x9 x10 x11 : Str) (v0 v1 v2 v3 v4 v5 v6 v7 v8 v9 v10 v11 : V) : L2.start [x0, x1, x2, x3, x4, x5, x6, x7, x8, x9, x10, x11] [v0, v1, v2, v3, v4, v5, v6, v7, v8, v9, v10, v11] = [some v0, some v1, some v2, some v3, some v4, some v5, some v6, some v7, some v8, some v9, some v10, some v11] := rfl
theorem start_13_0 (x0 x1 x2 x3 x4 x5 x6 x7 x8 x9 x10 x11 x12 : Str) : L2.start [x0, x1, x2, x3, x4, x5, x6, x7, x8, x9, x10, x11, x12] [] = [none, none, none, none, none, none, none, none, none, none, none, none, none] := rfl
theorem start_13_1 (x0 x1 x2 x3 x4 x5 x6 x7 x8 x9 x10 x11 x12 : Str) (v0 : V) : L2.start [x0, x1, x2, x3, x4, x5, x6, x7, x8, x9, x10, x11, x12] [v0] = [some v0, none, none, none, none, none, none, none, none, none, none, none, none] := rfl
theorem start_13_2 (x0 x1 x2 x3 x4 x5 x6 x7 x8 x9 x10 x11 x12 : Str) (v0 v1 : V) : L2.start [x0, x1, x2, x3, x4, x5, x6, x7, x8, x9, x10, x11, x12] [v0, v1] = [some v0, some v1, none, none, none, none, none, none, none, none, none, none, none] := rfl
theorem start_13_3 (x0 x1 x2 x3 x4 x5 x6 x7 x8 x9 x10 x11 x12 : Str) (v0 v1 v2 : V) : L2.start [x0, x1, x2, x3, x4, x5, x6, x7, x8, x9, x10, x11, x12] [v0, v1, v2] = [some v0, some v1, some v2, none, none, none, none, none, none, none, none, none, none] := rfl
theorem start_13_4 (x0 x1 x2 x3 x4 x5 x6 x7 x8 x9 x10 x11 x12 : Str) (v0 v1 v2 v3 : V) : L2.start [x0, x1, x2, x3, x4, x5, x6, x7, x8, x9, x10, x11, x12] [v0, v1, v2, v3] = [some v0, some v1, some v2, some v3, none, none, none, none, none, none, none, none, none] := rfl
theorem start_13_5 (x0 x1 x2 x3 x4 x5 x6 x7 x8 x9 x10 x11 x12 : Str) (v0 v1 v2 v3 v4 : V) : L2.start [x0, x1, x2, x3, x4, x5, x6, x7, x8, x9, x10, x11, x12] [v0, v1, v2, v3, v4] = [some v0, some v1, some v2, some v3, some v4, none, none, none, none, none, none, none, none] := rfl
theorem start_13_6 (x0 x1 x2 x3 x4 x5 x6 x7 x8 x9 x10 x11 x12 : Str) (v0 v1 v2 v3 v4 v5 : V) : L2.start [x0, x1, x2, x3, x4, x5, x6, x7, x8, x9, x10, x11, x12] [v0, v1, v2, v3, v4, v5] = [some v0, some v1, some v2, some v3, some v4, some v5, none, none, none, none, none, none, none] := rfl
theorem start_13_7 (x0 x1 x2 x3 x4 x5 x6 x7 x8 x9 x10 x11 x12 : Str) (v0 v1 v2 v3 v4 v5 v6 : V) : L2.start [x0, x1, x2, x3, x4, x5, x6, x7, x8, x9, x10, x11, x12] [v0, v1, v2, v3, v4, v5, v6] = [some v0, some v1, some v2, some v3, some v4, some v5, some v6, none, none, none, none, none, none] := rfl
theorem start_13_8 (x0 x1 x2 x3 x4 x5 x6 x7 x8 x9 x10 x11 x12 : Str) (v0 v1 v2 v3 v4 v5 v6 v7 : V) : L2.start [x0, x1, x2, x3, x4, x5, x6, x7, x8, x9, x10, x11, x12] [v0, v1, v2, v3, v4, v5, v6, v7] = [some v0, some v1, some v2, some v3, some v4, some v5, some v6, some v7, none, none, none, none, none] := rfl
theorem start_13_9 (x0 x1 x2 x3 x4 x5 x6 x7 x8 x9 x10 x11 x12 : Str) (v0 v1 v2 v3 v4 v5 v6 v7 v8 : V) : L2.start [x0, x1, x2, x3, x4, x5, x6, x7, x8, x9, x10, x11, x12] [v0, v1, v2, v3, v4, v5, v6, v7, v8] = [some v0, some v1, some v2, some v3, some v4, some v5, some v6, some v7, some v8, none, none, none, none] := rfl
theorem start_13_10 (x0 x1 x2 x3 x4 x5 x6 x7 x8 x9 x10 x11 x12 : Str) (v0 v1 v2 v3 v4 v5 v6 v7 v8 v9 : V) : L2.start [x0, x1, x2, x3, x4, x5, x6, x7, x8, x9, x10, x11, x12] [v0, v1, v2, v3, v4, v5, v6, v7, v8, v9] = [some v0, some v1, some v2, some v3, some v4, some v5, some v6, some v7, some v8, some v9, none, none, none] := rfl
theorem start_13_11 (x0 x1 x2 x3 x4 x5 x6 x7 x8 x9 x10 x11 x12 : Str) (v0 v1 v2 v3 v4 v5 v6 v7 v8 v9 v10 : V) : L2.start [x0, x1, x2, x3, x4, x5, x6, x7, x8, x9, x10, x11, x12] [v0, v1, v2, v3, v4, v5, v6, v7, v8, v9, v10] = [some v0, some v1, some v2, some v3, some v4, some v5, some v6, some v7, some v8, some v9, some v10, none, none] := rfl
theorem start_13_12 (x0 x1 x2 x3 x4 x5 x6 x7 x8 x9 x10 x11 x12 : Str) (v0 v1 v2 v3 v4 v5 v6 v7 v8 v9 v10 v11 : V) : L2.start [x0, x1, x2, x3, x4, x5, x6, x7, x8, x9, x10, x11, x12] [v0, v1, v2, v3, v4, v5, v6, v7, v8, v9, v10, v11] = [some v0, some v1, some v2, some v3, some v4, some v5, some v6, some v7, some v8, some v9, some v10, some v11, none] := rfl
theorem start_13_13 (x0 x1 x2 x3 x4 x5 x6 x7 x8 x9 x10 x11 x12 : Str) (v0 v1 v2 v3 v4 v5 v6 v7 v8 v9 v10 v11 v12 : V) : L2.start [x0, x1, x2, x3, x4, x5, x6, x7, x8, x9, x10, x11, x12] [v0, v1, v2, v3, v4, v5, v6, v7, v8, v9, v10, v11, v12] = [some v0, some v1, some v2, some v3, some v4, some v5, some v6, some v7, some v8, some v9, some v10, some v11, some v12] := rfl
theorem start_14_0 (x0 x1 x2 x3 x4 x5 x6 x7 x8 x9 x10 x11 x12 x13 : Str) : L2.start [x0, x1, x2, x3, x4, x5, x6, x7, x8, x9, x10, x11, x12, x13] [] = [none, none, none, none, none, none, none, none, none, none, none, none, none, none] := rfl
theorem start_14_1 (x0 x1 x2 x3 x4 x5 x6 x7 x8 x9 x10 x11 x12 x13 : Str) (v0 : V) : L2.start [x0, x1, x2, x3, x4, x5, x6, x7, x8, x9, x10, x11, x12, x13] [v0] = [some v0, none, none, none, none, none, none, none, none, none, none, none, none, none] := rfl
theorem start_14_2 (x0 x1 x2 x3 x4 x5 x6 x7 x8 x9 x10 x11 x12 x13 : Str) (v0 v1 : V) : L2.start [x0, x1, x2, x3, x4, x5, x6, x7, x8, x9, x10, x11, x12, x13] [v0, v1] = [some v0, some v1, none, none, none, none, none, none, none, none, none, none, none, none] := rfl
theorem start_14_3 (x0 x1 x2 x3 x4 x5 x6 x7 x8 x9 x10 x11 x12 x13 : Str) (v0 v1 v2 : V) : L2.start [x0, x1, x2, x3, x4, x5, x6, x7, x8, x9, x10, x11, x12, x13] [v0, v1, v2] = [some v0, some v1, some v2, none, none, none, none, none, none, none, none, none, none, none] := rfl
theorem start_14_4 (x0 x1 x2 x3 x4 x5 x6 x7 x8 x9 x10 x11 x12 x13 : Str) (v0 v1 v2 v3 : V) : L2.start [x0, x1, x2, x3, x4, x5, x6, x7, x8, x9, x10, x11, x12, x13] [v0, v1, v2, v3] = [some v0, some v1, some v2, some v3, none, none, none, none, none, none, none, none, none, none] := rfl
theorem start_14_5 (x0 x1 x2 x3 x4 x5 x6 x7 x8 x9 x10 x11 x12 x13 : Str) (v0 v1 v2 v3 v4 : V) : L2.start [x0, x1, x2, x3, x4, x5, x6, x7, x8, x9, x10, x11, x12, x13] [v0, v1, v2, v3, v4] = [some v0, some v1, some v2, some v3, some v4, none, none, none, none, none, none, none, none, none] := rfl
theorem start_14_6 (x0 x1 x2 x3 x4 x5 x6 x7 x8 x9 x10 x11 x12 x13 : Str) (v0 v1 v2 v3 v4 v5 : V) : L2.start [x0, x1, x2, x3, x4, x5, x6, x7, x8, x9, x10, x11, x12, x13] [v0, v1, v2, v3, v4, v5] = [some v0, some v1, some v2, some v3, some v4, some v5, none, none, none, none, none, none, none, none] := rfl
theorem start_14_7 (x0 x1 x2 x3 x4 x5 x6 x7 x8 x9 x10 x11 x12 x13 : Str) (v0 v1 v2 v3 v4 v5 v6 : V) : L2.start [x0, x1, x2, x3, x4, x5, x6, x7, x8, x9, x10, x11, x12, x13] [v0, v1, v2, v3, v4, v5, v6] = [some v0, some v1, some v2, some v3, some v4, some v5, some v6, none, none, none, none, none, none, none] := rfl
theorem start_14_8 (x0 x1 x2 x3 x4 x5 x6 x7 x8 x9 x10 x11 x12 x13 : Str) (v0 v1 v2 v3 v4 v5 v6 v7 : V) : L2.start [x0, x1, x2, x3, x4, x5, x6, x7, x8, x9, x10, x11, x12, x13] [v0, v1, v2, v3, v4, v5, v6, v7] = [some v0, some v1, some v2, some v3, some v4, some v5, some v6, some v7, none, none, none, none, none, none] := rfl
theorem start_14_9 (x0 x1 x2 x3 x4 x5 x6 x7 x8 x9 x10 x11 x12 x13 : Str) (v0 v1 v2 v3 v4 v5 v6 v7 v8 : V) : L2.start [x0, x1, x2, x3, x4, x5, x6, x7, x8, x9, x10, x11, x12, x13] [v0, v1, v2, v3, v4, v5, v6, v7, v8] = [some v0, some v1, some v2, some v3, some v4, some v5, some v6, some v7, some v8, none, none, none, none, none] := rfl
theorem start_14_10 (x0 x1 x2 x3 x4 x5 x6 x7 x8 x9 x10 x11 x12 x13 : Str) (v0 v1 v2 v3 v4 v5 v6 v7 v8 v9 : V) : L2.start [x0, x1, x2, x3, x4, x5, x6, x7, x8, x9, x10, x11, x12, x13] [v0, v1, v2, v3, v4, v5, v6, v7, v8, v9] = [some v0, some v1, some v2, some v3, some v4, some v5, some v6, some v7, some v8, some v9, none, none, none, none] := rfl
theorem start_14_11 (x0 x1 x2 x3 x4 x5 x6 x7 x8 x9 x10 x11 x12 x13 : Str) (v0 v1 v2 v3 v4 v5 v6 v7 v8 v9 v10 : V) : L2.start [x0, x1, x2, x3, x4, x5, x6, x7, x8, x9, x10, x11, x12, x13] [v0, v1, v2, v3, v4, v5, v6, v7, v8, v9, v10] = [some v0, some v1, some v2, some v3, some v4, some v5, some v6, some v7, some v8, some v9, some v10, none, none, none] := rfl
theorem start_14_12 (x0 x1 x2 x3 x4 x5 x6 x7 x8 x9 x10 x11 x12 x13 : Str) (v0 v1 v2 v3 v4 v5 v6 v7 v8 v9 v10 v11 : V) : L2.start [x0, x1, x2, x3, x4, x5, x6, x7, x8, x9, x10, x11, x12, x13] [v0, v1, v2, v3, v4, v5, v6, v7, v8, v9, v10, v11] = [some v0, some v1, some v2, some v3, some v4, some v5, some v6, some v7, some v8, some v9, some v10, some v11, none, none] := rfl
theorem start_14_13 (x0 x1 x2 x3 x4 x5 x6 x7 x8 x9 x10 x11 x12 x13 : Str) (v0 v1 v2 v3 v4 v5 v6 v7 v8 v9 v10 v11 v12 : V) : L2.start [x0, x1, x2, x3, x4, x5, x6, x7, x8, x9, x10, x11, x12, x13] [v0, v1, v2, v3, v4, v5, v6, v7, v8, v9, v10, v11, v12] = [some v0, some v1, some v2, some v3, some v4, some v5, some v6, some v7, some v8, some v9, some v10, some v11, some v12, none] := rfl
theorem start_14_14 (x0 x1 x2 x3 x4 x5 x6 x7 x8 x9 x10 x11 x12 x13 : Str) (v0 v1 v2 v3 v4 v5 v6 v7 v8 v9 v10 v11 v12 v13 : V) : L2.start [x0, x1, x2, x3, x4, x5, x6, x7, x8, x9, x10, x11, x12, x13] [v0, v1, v2, v3, v4, v5, v6, v7, v8, v9, v10, v11, v12, v13] = [some v0, some v1, some v2, some v3, some v4, some v5, some v6, some v7, some v8, some v9, some v10, some v11, some v12, some v13] := rfl
end T61
end
section
set_option Elab.async false
set_option linter.all false
set_option maxRecDepth 100000
set_option maxHeartbeats 1000000
namespace T61
open PySem PySem.Spec PyProof.Rows L2 L2.RL
local macro_rules | `(tactic| walk_at "rl ty") => `(tactic| first
  | assumption
  | exact .base (.int _)
  | exact .base (.str _)
  | exact .base .non
  | exact .base (.bl _)
  | exact ty_sqT (by walk_at "rl hp")
  | exact ty_sqL (by walk_at "rl hp")
  | exact .base (.tup (by walk_at "rl hp"))
  | exact .base (.lst (by walk_at "rl hp"))
  | exact .base (.dK (by walk_at "rl hp")))
local macro_rules | `(tactic| walk_at "rl if") => `(tactic| first
  | with_reducible refine iteT' rfl ?_
  | with_reducible refine iteF' rfl ?_
  | (refine iteT' rfl ?_)
  | (refine iteF' rfl ?_))
local macro_rules | `(tactic| walk_at "rl side") => `(tactic| first | assumption | omega | (constructor <;> omega) | decide)
local macro_rules | `(tactic| walk_at "rl ne") => `(tactic| first
  | assumption
  | exact Ne.symm (by assumption)
  | walk_at "rl ne2"
  | exact ne_of (by assumption) (by walk_at "rl hq") (by intro z; cases z)
  | exact (ne_of (by assumption) (by walk_at "rl hq") (by intro z; cases z)).symm)
local macro_rules | `(tactic| walk_at "rl hq") => `(tactic| first
  | assumption
  | exact upd_same
  | (refine' upd_at ?rlne ?rlhq; (case rlne => walk_at "rl ne"); (case rlhq => walk_at "rl hq"))
  | (refine' Same.at ?rlsa ?rlhq; (case rlsa => assumption); (case rlhq => walk_at "rl hq"))
  | (refine' But.at ?rlbu ?rlne ?rlhq; (case rlbu => assumption); (case rlne => walk_at "rl ne"); (case rlhq => walk_at "rl hq")))
local macro_rules | `(tactic| walk_at "rl hp") => `(tactic| first
  | assumption
  | (refine' SqL.of ?rlhq; (case rlhq => walk_at "rl hq"))
  | (refine' SqT.of ?rlhq; (case rlhq => walk_at "rl hq"))
  | (refine' Same.seq ?rlsa ?rlhp; (case rlsa => assumption); (case rlhp => walk_at "rl hp"))
  | (refine' Same.sqT ?rlsa ?rlhp; (case rlsa => assumption); (case rlhp => walk_at "rl hp"))
  | walk_at "rl hp2"
  | walk_at "rl hq")
local macro_rules | `(tactic| walk_at "rl w1") => `(tactic| first
  | with_reducible refine w_seq ?_
  | ((with_reducible refine' w_var ?rlv ?_); (case rlv => exact rfl))
  | with_reducible refine w_c ?_
  | with_reducible refine w_op ?_
  | with_reducible refine w_I0 ?_
  | with_reducible refine w_asg ?_
  | ((with_reducible refine' w_gName ?_); dsimp only [List.set])
  | ((with_reducible refine' w_nxD ?rle ?_); (case rle => exact rfl))
  | ((with_reducible refine' w_rtD ?rle ?_); (case rle => exact rfl))
  | with_reducible refine w_next ?_
  | with_reducible refine w_ret ?_
  | with_reducible refine w_cons ?_
  | with_reducible refine w_nil ?_
  | with_reducible refine w_ifS ?_
  | with_reducible refine w_test ?_
  | with_reducible refine w_B ?_
  | with_reducible refine w_bl ?_
  | with_reducible refine w_bl1 ?_
  | with_reducible refine w_blR ?_
  | with_reducible refine w_eqI ?_
  | with_reducible refine w_neI ?_
  | with_reducible refine w_eqS ?_
  | with_reducible refine w_neS ?_
  | with_reducible refine w_eqB ?_
  | with_reducible refine w_neB ?_
  | with_reducible refine w_and ?_
  | with_reducible refine w_or ?_
  | with_reducible refine w_not ?_
  | with_reducible refine w_andV ?_
  | with_reducible refine w_orV ?_
  | with_reducible refine w_notV ?_
  | with_reducible refine w_if ?_
  | with_reducible refine w_chain ?_
  | with_reducible refine w_un ?_
  | with_reducible refine w_U ?_
  | ((with_reducible refine' w_I ?rlc ?_); (case rlc => walk_at "rl side"))
  | with_reducible refine w_drop ?_
  | with_reducible refine w_retN ?_
  | with_reducible refine w_par ?_
  | ((with_reducible refine' w_par2 ?_); dsimp only [List.set])
  | ((with_reducible refine' w_aug ?rla ?_); (case rla => exact rfl))
  | with_reducible refine w_ipI ?_
  | with_reducible refine w_break ?_
  | with_reducible refine w_cont ?_
  | ((with_reducible refine' w_bkD ?rle ?_); (case rle => exact rfl))
  | ((with_reducible refine' w_ctD ?rle ?_); (case rle => exact rfl))
  | with_reducible refine w_tup ?_
  | with_reducible refine w_lst ?_
  | ((with_reducible refine' w_newO ?rln ?_); (case rln => exact Nat.le_of_ble_eq_true rfl); intro _ _ _ _ _)
  | ((with_reducible refine' w_new ?rln ?_); (case rln => exact Nat.le_of_ble_eq_true rfl))
  | ((with_reducible refine' w_mk ?_); intro _ _ _ _ _)
  | ((with_reducible refine' w_gTup ?rls ?rll ?_); (case rls => walk_at "rl hp"); (case rll => exact rfl))
  | with_reducible refine w_gCons ?_
  | with_reducible refine w_gNil ?_
  | with_reducible refine w_gSub ?_
  | ((with_reducible refine' w_setL ?rls ?rlj ?_); (case rls => walk_at "rl hp"); (case rlj => exact rfl))
  | ((with_reducible refine' w_ixL ?rls ?rli ?_); (case rls => walk_at "rl hp"); (case rli => exact rfl))
  | ((with_reducible refine' w_ixT ?rls ?rli ?_); (case rls => walk_at "rl hp"); (case rli => exact rfl))
  | with_reducible refine w_call ?_
  | with_reducible refine w_trI ?_
  | with_reducible refine w_yes ?_
  | with_reducible refine w_trB ?_
  | with_reducible refine w_trN ?_
  | with_reducible refine w_cb ?_
  | with_reducible refine w_fld ?_
  | ((with_reducible refine' w_fld1 ?rlo ?rlc ?rln ?rll ?_); (case rlo => walk_at "rl hp"); (case rlc => assumption); (case rln => assumption); (case rll => exact rfl))
  | with_reducible refine w_isiO ?_
  | with_reducible refine w_isiT ?_
  | ((with_reducible refine' w_isi (r := true) ?rlt ?rlk ?_); (case rlt => walk_at "rl ty"); (case rlk => exact rfl))
  | ((with_reducible refine' w_isi (r := false) ?rlt ?rlk ?_); (case rlt => walk_at "rl ty"); (case rlk => exact rfl))
  | ((with_reducible refine' w_isi2 (r := true) ?rlT ?rlt ?rlk ?_); (case rlT => walk_at "rl hp"); (case rlt => walk_at "rl ty"); (case rlk => exact rfl))
  | ((with_reducible refine' w_isi2 (r := false) ?rlT ?rlt ?rlk ?_); (case rlT => walk_at "rl hp"); (case rlt => walk_at "rl ty"); (case rlk => exact rfl))
  | with_reducible refine w_sFld ?_
  | with_reducible refine w_itemsK ?_
  | ((with_reducible refine' w_catT ?rlha ?rlhb ?rln1 ?rln2 ?rlhl ?_); (case rlha => walk_at "rl hp"); (case rlhb => walk_at "rl hp"); (case rln1 => exact (fun z => nomatch z)); (case rln2 => exact (fun z => nomatch z)); (case rlhl => exact Nat.le_trans (Nat.le_of_ble_eq_true rfl) (show 100000 ≤ sizeLine by decide)))
  | ((with_reducible refine' w_newE ?_); intro _ _ _ _ _)
  | with_reducible refine w_makeK ?_
  | ((with_reducible refine' w_sFld1 ?rlc ?rln ?rll ?rle ?_); (case rlc => assumption); (case rln => assumption); (case rll => exact Nat.lt_of_lt_of_le (Nat.lt_succ_self _) (Nat.le_of_ble_eq_true rfl)); (case rle => exact rfl))
  | ((with_reducible refine' w_sFld0 ?rlx ?rlc ?rln ?rll ?rle ?_); (case rlx => walk_at "rl hq"); (case rlc => assumption); (case rln => assumption); (case rll => exact Nat.lt_of_lt_of_le (Nat.lt_succ_self _) (Nat.le_of_ble_eq_true rfl)); (case rle => exact rfl))
  | with_reducible refine w_rflA ?_
  | with_reducible refine w_for ?_
  | with_reducible refine w_iList ?_
  | with_reducible refine w_iTup ?_
  | ((with_reducible refine' w_overL ?rls ?_); (case rls => walk_at "rl hp"))
  | ((with_reducible refine' w_overT ?rls ?_); (case rls => walk_at "rl hp"))
  | with_reducible refine w_rng1 ?_
  | ((with_reducible refine' w_rng1a ?rl1 ?rl2 ?_); (case rl1 => omega); (case rl2 => omega))
  | with_reducible refine w_rng2 ?_
  | ((with_reducible refine' w_rng2a ?rl1 ?_); (case rl1 => omega))
  | with_reducible refine w_zip2 ?_
  | with_reducible refine w_lc ?_
  | with_reducible refine w_enS ?_
  | with_reducible refine w_callSD ?_
  | with_reducible refine w_xf ?_
  | ((with_reducible refine' w_dnew ?_); intro _ _ _ _ _)
  | ((with_reducible refine' w_disp1 ?_); intro _ _ _ _ _)
  | with_reducible refine w_bm ?_
  | ((with_reducible refine' w_tyL ?rls ?_); (case rls => walk_at "rl hp"))
  | ((with_reducible refine' w_append ?rls ?rll ?_); (case rls => walk_at "rl hq"); (case rll => exact Nat.lt_of_lt_of_le (Nat.lt_succ_self _) (Nat.le_of_ble_eq_true rfl)))
  | ((with_reducible refine' w_cat ?rls ?rlt ?rll ?_); (case rls => walk_at "rl hq"); (case rlt => walk_at "rl hq"); (case rll => exact Nat.le_of_ble_eq_true rfl); intro _ _ _ _ _)
  | with_reducible refine w_int1 ?_
  | ((with_reducible refine w_intb ?_); (try dsimp only))
  | with_reducible refine w_one ?_
  | with_reducible refine w_two ?_
  | ((with_reducible refine' w_lenL ?rls ?_); (case rls => walk_at "rl hp"))
  | ((with_reducible refine' w_lenT ?rls ?_); (case rls => walk_at "rl hp"))
  | with_reducible refine w_meth ?_
  | ((with_reducible refine' w_meth1 ?rlo ?rll ?_); (case rlo => walk_at "rl hp"); (case rll => exact rfl)))
local macro_rules | `(tactic| walk_at "rl wp") => `(tactic| (repeat walk_at "rl w1"))
local macro_rules | `(tactic| walk_at "rl but") => `(tactic| first
  | assumption
  | exact But.refl _ _
  | exact But.upd
  | exact But.of_same (by assumption)
  | (refine But.trans ?_ (But.of_same (by assumption)); walk_at "rl but")
  | (refine But.trans ?_ (by assumption : But _ _ _); walk_at "rl but")
  | (refine But.trans ?_ But.upd; walk_at "rl but"))
local macro_rules | `(tactic| walk_at "rl same") => `(tactic| first
  | assumption
  | exact Same.refl _
  | (refine Same.trans ?_ (by assumption : Same _ _); walk_at "rl same"))

local macro_rules | `(tactic| walk_at "rl wi") => `(tactic| (repeat (first
  | walk_at "rl w1"
  | ((with_reducible refine' iteF' ?rlif ?_); (case rlif => exact rfl))
  | ((with_reducible refine' iteT' ?rlif ?_); (case rlif => exact rfl)))))
local macro_rules | `(tactic| walk_at "rl ty") => `(tactic| exact .base (.dK (by assumption)))
local macro_rules | `(tactic| walk_at "rl ty") => `(tactic| exact .base (.lst (by assumption)))
local macro_rules | `(tactic| walk_at "rl ty") => `(tactic| exact .base (.tup (by assumption)))
local macro_rules | `(tactic| walk_at "rl w1") => `(tactic| first
  | with_reducible refine w_par3 ?_
  | ((with_reducible refine' w_par3a ?_); dsimp only [List.set])
  | with_reducible refine w_dget ?_
  | ((with_reducible refine' w_dgetS ?rls ?rlv ?_); (case rls => walk_at "rl hq"); (case rlv => exact rfl))
  | ((with_reducible refine' w_dgetI ?rls ?rlv ?_); (case rls => walk_at "rl hq"); (case rlv => exact rfl))
  | with_reducible refine w_dget2 ?_
  | ((with_reducible refine' w_isD ?rls ?_); (case rls => walk_at "rl hq"))
  | ((with_reducible refine' w_dget2S ?rls ?_); (case rls => walk_at "rl hq"))
  | ((with_reducible refine' w_dget2I ?rls ?_); (case rls => walk_at "rl hq"))
  | ((with_reducible refine' w_setDS ?rls ?rll ?rlm ?_); (case rls => walk_at "rl hq"); (case rll => exact Nat.lt_of_lt_of_le (Nat.lt_succ_self _) (Nat.le_of_ble_eq_true rfl)); (case rlm => exact rfl))
  | ((with_reducible refine' w_tyD ?rls ?_); (case rls => walk_at "rl hq"))
  | with_reducible refine w_jNil ?_
  | with_reducible refine w_jCons ?_
  | with_reducible refine w_prop ?_
  | with_reducible refine w_makeKS ?_
  | with_reducible refine w_pNil ?_
  | with_reducible refine w_pCons ?_
  | ((with_reducible refine' w_dispN ?_); intro _ _ _ _ _))

def inI : PyData → Int → Int → Bool
  | .int i, lo, hi => decide (lo ≤ i) && decide (i ≤ hi)
  | _, _, _ => false
theorem inI_int (i lo hi : Int) : inI (.int i) lo hi = (decide (lo ≤ i) && decide (i ≤ hi)) := rfl
def oV : Option Str → V
  | none => .non
  | some s => .str s
def fitsB (v n : Int) (s : Bool) : Bool := if s = true then decide (0 < n) && (decide (-(1 * 2 ^ (n - 1).toNat) ≤ v) && decide (v < 1 * 2 ^ (n - 1).toNat)) else decide (0 ≤ v) && decide (v < 1 * 2 ^ n.toNat)
def badRange (lo hi n : Int) : Option Str := if fitsB lo n (decide (lo < 0)) = true then (if (decide (lo ≤ hi) && fitsB hi n (decide (lo < 0))) = true then none else some "high") else some "low"
def areUs (k : Nat) (f m c : Int) : Bool := if Builtin.bitAnd f 1 ≠ 0 then decide (k = 0) else if Builtin.bitAnd f 2 ≠ 0 then decide ((k : Int) = m) else decide (1 ≤ (k : Int)) && decide ((k : Int) ≤ c)
def spIsInt : Sp := fun vs H Q _ => ∃ (B : Addr → Prop) (x : V) (d : PyData) (lo hi : Int), vs = [x, .int lo, .int hi] ∧ Dq H B x d ∧ Q (.bl (inI d lo hi)) H
def spIsUsage : Sp := fun vs H Q _ => ∃ (B : Addr → Prop) (x : V) (d : PyData), vs = [x] ∧ Dq H B x d ∧ Q (.bl (inI d 0 4294967295)) H
def spFits : Sp := fun vs H Q _ => ∃ (v n : Int) (s : Bool), vs = [.int v, .int n, .bl s] ∧ 0 ≤ n ∧ n ≤ 32 ∧ Q (.bl (fitsB v n s)) H
def spBadRange : Sp := fun vs H Q _ => ∃ lo hi n : Int, vs = [.int lo, .int hi, .int n] ∧ 0 ≤ n ∧ n ≤ 32 ∧ Q (oV (badRange lo hi n)) H
def spAreUs (K : PySem.W.Frag) : Sp := fun vs H Q _ => ∃ (ua : Addr) (f m c : Int) (us : List V) (ns : List PyData), vs = [.ref ua, .int f, .int m, .int c] ∧ SqT K H ua us ∧ DpAll K H us ns ∧ PyData.canLayAll0 ns = true ∧ PyData.depthAll ns ≤ 10 ∧ ∀ H', Same H H' → Q (.bl (areUs us.length f m c)) H'
theorem DpAll.len {K : PySem.W.Frag} {H : Hp} : ∀ {us : List V} {ns : List PyData}, DpAll K H us ns → ns.length = us.length
  | _, _, .nil => rfl
  | _, _, .cons _ t => congrArg Nat.succ (DpAll.len t)
theorem eqv_nil {ns : List PyData} : PyData.eqv (.tuple ns) (.tuple []) = decide (ns.length = 0) := by
  cases ns with
  | nil => rfl
  | cons a l => rfl
theorem shaped_tup {ns : List PyData} (h : PyData.canLayAll0 ns = true) (d : PyData.depthAll ns ≤ 10) : SeqAt.shaped (.tuple ns) = true := by
  have e : SeqAt.shaped (.tuple ns) = (PyData.canLayAll0 ns && decide ((PyData.tuple ns).depth ≤ 64)) := rfl
  have e2 : (PyData.tuple ns).depth = PyData.depthAll ns + 1 := rfl
  rw [e, h, e2, decide_eq_true (by omega)]
  rfl

mutual
theorem Dp.sm {K : PySem.W.Frag} {H H' : Hp} (s : Same H H') : ∀ {d : PyData} {v : V}, Dp K H v d → Dp K H' v d
  | _, _, .non => .non
  | _, _, .bl b => .bl b
  | _, _, .int i => .int i
  | _, _, .str x => .str x
  | _, _, .lst h k => .lst (Same.seq s h) (DpAll.sm s k)
  | _, _, .tup h k => .tup (Same.sqT s h) (DpAll.sm s k)
theorem DpAll.sm {K : PySem.W.Frag} {H H' : Hp} (s : Same H H') : ∀ {ds : List PyData} {vs : List V}, DpAll K H vs ds → DpAll K H' vs ds
  | _, _, .nil => .nil
  | _, _, .cons h k => .cons (Dp.sm s h) (DpAll.sm s k)
end
theorem sc_is_integer : FnScope ["thing", "low", "high"] ["thing", "low", "high"] (defScope (top 18)) := ⟨rfl, rfl, rfl, by decide +kernel, rfl, by decide +kernel, by decide +kernel⟩
theorem ok_is_integer {P : Program} {w : World} {K : PySem.W.Frag} {mg : Str → Option Value} {base : Heap} (T : TT K mg)    : Ld P w K mg base CX0 1 "is_integer" ["thing", "low", "high"] [] (spIsInt) := by
  obtain ⟨fd, F⟩ := T.d_is_integer
  refine ⟨⟨fd, [], F.ok sc_is_integer (fun vs H Q E h => ?_) (fun cdv A outer s H vs Q E hr h => ?_), FunD.bindsN F (fun _ _ _ _ _ _ us hl => match us, hl with | [_, _, _], _ => rfl), .nil⟩, T.g_is_integer, F.kp⟩
  · obtain ⟨B, x, d, lo, hi, rfl, _⟩ := h
    rfl
  · obtain ⟨B, x, d, lo, hi, rfl, hd, q⟩ := h
    refine ⟨_, PSs.nox ((pss_one (ps_ret (pe_and (pe_callB call_isi (by rfl) T.m_isinstance (by decide +kernel) (pa_cons (pv 0) (pa_cons (pe_bltn (v := .ty "int") (by rfl) T.m_int (by decide +kernel) rfl) pa_nil))) (pe_and (pe_not (pe_callB call_isi (by rfl) T.m_isinstance (by decide +kernel) (pa_cons (pv 0) (pa_cons (pe_bltn (v := .ty "bool") (by rfl) T.m_bool (by decide +kernel) rfl) pa_nil)))) (pe_one (pe_chain op_le op_le (pv 1) (pv 0) (pv 2)))))))), ?_⟩; rw [start_3_3]; try dsimp only [cxOf]
    cases hd with
    | int i =>
      walk_at "rl wi"
      refine ite_dec (fun c => ?_) (fun c => ?_)
      · walk_at "rl wi"
        rw [show inI (.int i) lo hi = decide (i ≤ hi) from by rw [inI_int, decide_eq_true c]; rfl] at q
        exact q
      · walk_at "rl wi"
        rw [show inI (.int i) lo hi = false from by rw [inI_int, decide_eq_false c]; rfl] at q
        exact q
    | _ => walk_at "rl wi"; exact q

theorem sc_is_usage : FnScope ["thing"] ["thing"] (defScope (top 56)) := ⟨rfl, rfl, rfl, by decide +kernel, rfl, by decide +kernel, by decide +kernel⟩
theorem ok_is_usage {P : Program} {w : World} {K : PySem.W.Frag} {mg : Str → Option Value} {base : Heap} (T : TT K mg) (D_is_integer : Ld P w K mg base CX0 1 "is_integer" ["thing", "low", "high"] [] (spIsInt))   : Ld P w K mg base CX0 2 "is_usage" ["thing"] [] (spIsUsage) := by
  obtain ⟨⟨fd_is_integer, ds_is_integer, F_is_integer, b_is_integer, v_is_integer⟩, g_is_integer, k_is_integer⟩ := D_is_integer
  obtain ⟨fd, F⟩ := T.d_is_usage
  refine ⟨⟨fd, [], F.ok sc_is_usage (fun vs H Q E h => ?_) (fun cdv A outer s H vs Q E hr h => ?_), FunD.bindsN F (fun _ _ _ _ _ _ us hl => match us, hl with | [_], _ => rfl), .nil⟩, T.g_is_usage, F.kp⟩
  · obtain ⟨B, x, d, rfl, _⟩ := h
    rfl
  · obtain ⟨B, x, d, rfl, hd, q⟩ := h
    refine ⟨_, PSs.nox ((pss_one (ps_ret (pe_call F_is_integer hr (by rfl) g_is_integer k_is_integer b_is_integer v_is_integer pass0 (pa_cons (pv 0) (pa_cons pe_int (pa_cons (pe_glob rfl (T.i_MOST_USAGE_layouts).choose_spec (show RelV (.int (4294967295)) _ from ⟨_, rfl⟩)) pa_nil))))))), ?_⟩; rw [start_1_1]; try dsimp only [cxOf]
    walk_at "rl wp"
    exact ⟨B, x, d, 0, 4294967295, rfl, hd, q⟩

theorem sc_fits : FnScope ["value", "size", "is_signed"] ["value", "size", "is_signed"] (defScope (top 55)) := ⟨rfl, rfl, rfl, by decide +kernel, rfl, by decide +kernel, by decide +kernel⟩
theorem ok_fits {P : Program} {w : World} {K : PySem.W.Frag} {mg : Str → Option Value} {base : Heap} (T : TT K mg)    : Ld P w K mg base CX0 1 "fits" ["value", "size", "is_signed"] [] (spFits) := by
  obtain ⟨fd, F⟩ := T.d_fits
  refine ⟨⟨fd, [], F.ok sc_fits (fun vs H Q E h => ?_) (fun cdv A outer s H vs Q E hr h => ?_), FunD.bindsN F (fun _ _ _ _ _ _ us hl => match us, hl with | [_, _, _], _ => rfl), .nil⟩, T.g_fits, F.kp⟩
  · obtain ⟨v, lo, hi, rfl, _⟩ := h
    rfl
  · obtain ⟨v, n, s, rfl, h1, h2, q⟩ := h
    refine ⟨_, PSs.nox ((pss_cons (ps_if (pt_val (pv 2)) (pss_one (ps_ret (pe_and (pe_cmpR op_gt (pv 1) pe_int (nomark _)) (pe_one (pe_chain op_le op_lt (pe_un un_neg (pe_op op_shl pe_int (pe_op op_sub (pv 1) pe_int))) (pv 0) (pe_op op_shl pe_int (pe_op op_sub (pv 1) pe_int))))))) pss_nil) (pss_one (ps_ret (pe_chain op_le op_lt pe_int (pv 0) (pe_op op_shl pe_int (pv 1))))))), ?_⟩; rw [start_3_3]; try dsimp only [cxOf]
    have k0 : CPow 1 n := ⟨by omega, by omega, by decide⟩
    walk_at "rl wp"
    cases s with
    | true =>
      refine iteT' rfl ?_
      rw [show fitsB v n true = (decide (0 < n) && (decide (-(1 * 2 ^ (n - 1).toNat) ≤ v) && decide (v < 1 * 2 ^ (n - 1).toNat))) from if_pos rfl] at q
      walk_at "rl wp"
      refine ite_dec (fun c => ?_) (fun c => ?_)
      · have k1 : CPow 1 (n - 1) := ⟨by omega, by omega, by decide⟩
        rw [decide_eq_true c, Bool.true_and] at q
        walk_at "rl wp"
        refine ite_dec (fun c2 => ?_) (fun c2 => ?_)
        · rw [decide_eq_true c2, Bool.true_and] at q
          walk_at "rl wp"
          exact q
        · rw [decide_eq_false c2, Bool.false_and] at q
          walk_at "rl wp"
          exact q
      · rw [decide_eq_false c, Bool.false_and] at q
        walk_at "rl wp"
        exact q
    | false =>
      refine iteF' rfl ?_
      rw [show fitsB v n false = (decide (0 ≤ v) && decide (v < 1 * 2 ^ n.toNat)) from if_neg (by decide)] at q
      walk_at "rl wp"
      refine ite_dec (fun c => ?_) (fun c => ?_)
      · rw [decide_eq_true c, Bool.true_and] at q
        walk_at "rl wp"
        exact q
      · rw [decide_eq_false c, Bool.false_and] at q
        walk_at "rl wp"
        exact q

theorem sc_bad_range : FnScope ["low", "high", "size"] ["low", "high", "size"] (defScope (top 57)) := ⟨rfl, rfl, rfl, by decide +kernel, rfl, by decide +kernel, by decide +kernel⟩
theorem ok_bad_range {P : Program} {w : World} {K : PySem.W.Frag} {mg : Str → Option Value} {base : Heap} (T : TT K mg) (D_fits : Ld P w K mg base CX0 1 "fits" ["value", "size", "is_signed"] [] (spFits))   : Ld P w K mg base CX0 2 "bad_range" ["low", "high", "size"] [] (spBadRange) := by
  obtain ⟨⟨fd_fits, ds_fits, F_fits, b_fits, v_fits⟩, g_fits, k_fits⟩ := D_fits
  obtain ⟨fd, F⟩ := T.d_bad_range
  refine ⟨⟨fd, [], F.ok sc_bad_range (fun vs H Q E h => ?_) (fun cdv A outer s H vs Q E hr h => ?_), FunD.bindsN F (fun _ _ _ _ _ _ us hl => match us, hl with | [_, _, _], _ => rfl), .nil⟩, T.g_bad_range, F.kp⟩
  · obtain ⟨lo, hi, n, rfl, _⟩ := h
    rfl
  · obtain ⟨lo, hi, n, rfl, w0, w1, q⟩ := h
    refine ⟨_, PSs.nox ((pss_cons (ps_if (pt_not (pt_val (pe_call F_fits hr (by rfl) g_fits k_fits b_fits v_fits pass0 (pa_cons (pv 0) (pa_cons (pv 2) (pa_cons (pe_cmpR op_lt (pv 0) pe_int (nomark _)) pa_nil)))))) (pss_one (ps_ret pe_str)) pss_nil) (pss_one (ps_ret (pe_ifExp (PW.pt (pw_and (pt_cmpR op_le (pv 0) (pv 1) (nomark _)) (pw_and1 (pt_val (pe_call F_fits hr (by rfl) g_fits k_fits b_fits v_fits pass0 (pa_cons (pv 1) (pa_cons (pv 2) (pa_cons (pe_cmpR op_lt (pv 0) pe_int (nomark _)) pa_nil)))))))) pe_non pe_str))))), ?_⟩; rw [start_3_3]; try dsimp only [cxOf]
    walk_at "rl wp"
    refine ⟨lo, n, decide (lo < 0), rfl, w0, w1, ?_⟩
    walk_at "rl wp"
    cases hf : fitsB lo n (decide (lo < 0)) with
    | false =>
      refine iteT' rfl ?_
      rw [show badRange lo hi n = some "low" from by unfold badRange; rw [hf]; rfl] at q
      walk_at "rl wp"
      exact q
    | true =>
      refine iteF' rfl ?_
      have e : badRange lo hi n = if (decide (lo ≤ hi) && fitsB hi n (decide (lo < 0))) = true then (none : Option Str) else some ("high" : Str) := by
        unfold badRange
        rw [hf]
        rfl
      rw [e] at q
      walk_at "rl wp"
      refine ite_dec (fun c => ?_) (fun c => ?_)
      · rw [decide_eq_true c, Bool.true_and] at q
        walk_at "rl wp"
        refine ⟨hi, n, decide (lo < 0), rfl, w0, w1, ?_⟩
        cases hg : fitsB hi n (decide (lo < 0)) with
        | true =>
          rw [hg] at q
          walk_at "rl wi"
          exact q
        | false =>
          rw [hg] at q
          walk_at "rl wi"
          exact q
      · rw [decide_eq_false c, Bool.false_and] at q
        walk_at "rl wi"
        exact q

theorem sc_are_usages : FnScope ["usages", "flags", "amount", "codes"] ["usages", "flags", "amount", "codes"] (defScope (top 58)) := ⟨rfl, rfl, rfl, by decide +kernel, rfl, by decide +kernel, by decide +kernel⟩
theorem ok_are_usages {P : Program} {w : World} {K : PySem.W.Frag} {mg : Str → Option Value} {base : Heap} (T : TT K mg)    : Ld P w K mg base CX0 1 "are_usages" ["usages", "flags", "amount", "codes"] [] (spAreUs K) := by
  obtain ⟨fd, F⟩ := T.d_are_usages
  refine ⟨⟨fd, [], F.ok sc_are_usages (fun vs H Q E h => ?_) (fun cdv A outer s H vs Q E hr h => ?_), FunD.bindsN F (fun _ _ _ _ _ _ us hl => match us, hl with | [_, _, _, _], _ => rfl), .nil⟩, T.g_are_usages, F.kp⟩
  · obtain ⟨ua, f, m, c, us, ns, rfl, _⟩ := h
    rfl
  · obtain ⟨ua, f, m, c, us, ns, rfl, hu, hd, hc, hz, q⟩ := h
    refine ⟨_, PSs.nox ((pss_cons (ps_if (pt_truth (pe_op op_and (pv 1) (pe_glob rfl (T.i_CONSTANT_layouts).choose_spec (show RelV (.int (1)) _ from ⟨_, rfl⟩))) (by intro _; rfl)) (pss_one (ps_ret (pe_cmpR (op_eqD hr.units) (pv 0) (pe_tup pa_nil) (nomark _)))) pss_nil) (pss_cons (ps_if (pt_truth (pe_op op_and (pv 1) (pe_glob rfl (T.i_VARIABLE_layouts).choose_spec (show RelV (.int (2)) _ from ⟨_, rfl⟩))) (by intro _; rfl)) (pss_one (ps_ret (pe_cmpR op_eq (pe_callB call_len_seq (by rfl) T.m_len PySem.boot_len (pa_cons (pv 0) pa_nil)) (pv 2) (nomark _)))) pss_nil) (pss_one (ps_ret (pe_chain op_le op_le pe_int (pe_callB call_len_seq (by rfl) T.m_len PySem.boot_len (pa_cons (pv 0) pa_nil)) (pv 3))))))), ?_⟩; rw [start_4_4]; try dsimp only [cxOf]
    walk_at "rl wp"
    by_cases c1 : Builtin.bitAnd f 1 = 0
    · rw [show areUs us.length f m c = if Builtin.bitAnd f 2 ≠ 0 then decide ((us.length : Int) = m) else decide (1 ≤ (us.length : Int)) && decide ((us.length : Int) ≤ c) from if_neg (fun z => z c1)] at q
      refine iteF' (by rw [c1]; rfl) ?_
      walk_at "rl wp"
      by_cases c2 : Builtin.bitAnd f 2 = 0
      · rw [if_neg (fun z => z c2)] at q
        refine iteF' (by rw [c2]; rfl) ?_
        walk_at "rl wp"
        refine ite_dec (fun c3 => ?_) (fun c3 => ?_)
        · rw [decide_eq_true c3, Bool.true_and] at q
          walk_at "rl wp"
          exact q _ (Same.refl _)
        · rw [decide_eq_false c3, Bool.false_and] at q
          walk_at "rl wp"
          exact q _ (Same.refl _)
      · rw [if_pos c2] at q
        refine iteT' (by simpa using c2) ?_
        walk_at "rl wp"
        exact q _ (Same.refl _)
    · rw [show areUs us.length f m c = decide (us.length = 0) from if_pos c1] at q
      refine iteT' (by simpa using c1) ?_
      walk_at "rl wp"
      rename_i p H1 np sm hp
      refine ⟨.tuple ns, .tuple [], .tup (Same.sqT sm hu) (DpAll.sm sm hd), .tup (SqT.of hp) .nil, shaped_tup hc hz, rfl, ?_⟩
      rw [eqv_nil, DpAll.len hd]
      exact q _ sm
end T61
end
section
set_option Elab.async false
set_option linter.all false
set_option maxRecDepth 100000
set_option maxHeartbeats 1000000
namespace T61
open PySem PySem.Spec PyProof.Rows L2 L2.RL
def initP : List Str := ["self", "role", "number", "flags", "size", "amount", "low", "high", "plow", "phigh", "exponent", "unit", "usages"]
def pl1 : List (Nat × Nat) := [(0, 0), (0, 1), (2, 0), (2, 1), (2, 2), (2, 3), (2, 4), (2, 5), (2, 6), (2, 7), (2, 8), (2, 9), (2, 10)]
def ms1 (K : PySem.W.Frag) : List V := []
theorem kb1 {K : PySem.W.Frag} {mg : Str → Option Value} (T : TT K mg) {fd : FuncData} (F : FunD K "__init__" "Field.__init__" (defArgs (inClass (top 59) 0)) (defBody (inClass (top 59) 0)) (defScope (inClass (top 59) 0)) [] (([("number", .int 0), ("flags", .int 2), ("size", .int 8), ("amount", .int 1), ("low", .int 0), ("high", .int 255), ("plow", .int 0), ("phigh", .int 0), ("exponent", .int 0), ("unit", .int 0), ("usages", .adr (kdfAt ("Field", some "__init__") "usages"))] : List (Str × He.Dv)).map fun q => (q.1, q.2.v K)) (He.ma K (He.ga K "Field") "__init__") fd) :
  ∃ g, KBn K fd initP 2 ["number", "flags", "size", "amount", "low", "high", "plow", "phigh", "exponent", "unit", "usages"] g (fun vs zs => pick3 pl1 vs (ms1 K) zs) := by
  obtain ⟨mv, h⟩ := F.kbinds0 (ps := initP) 2 ["number", "flags", "size", "amount", "low", "high", "plow", "phigh", "exponent", "unit", "usages"] [] (fun us mv ws => pick3 pl1 us mv ws) (by simp) (by
    intro q hq
    cases hq) (fun r1 r2 r3 => pick3_vals _ r1 r2 r3) (by
    intro D doc pm an cdv ct us mv ws h1 h2 h3
    match us, mv, ws, h1, h2, h3 with
    | [u1, u2], [], [w0, w1, w2, w3, w4, w5, w6, w7, w8, w9, w10], _, _, _ =>
      exact by (show _ = pure _); kernel_rfl!)
  exact ⟨_, h⟩
def pl2 : List (Nat × Nat) := [(0, 0), (0, 1), (1, 0), (1, 1), (2, 0), (2, 1), (2, 2), (2, 3), (1, 2), (1, 3), (1, 4), (1, 5), (2, 4)]
def ms2 (K : PySem.W.Frag) : List V := [.int 0, .int 2, .int 0, .int 0, .int 0, .int 0]
theorem kb2 {K : PySem.W.Frag} {mg : Str → Option Value} (T : TT K mg) {fd : FuncData} (F : FunD K "__init__" "Field.__init__" (defArgs (inClass (top 59) 0)) (defBody (inClass (top 59) 0)) (defScope (inClass (top 59) 0)) [] (([("number", .int 0), ("flags", .int 2), ("size", .int 8), ("amount", .int 1), ("low", .int 0), ("high", .int 255), ("plow", .int 0), ("phigh", .int 0), ("exponent", .int 0), ("unit", .int 0), ("usages", .adr (kdfAt ("Field", some "__init__") "usages"))] : List (Str × He.Dv)).map fun q => (q.1, q.2.v K)) (He.ma K (He.ga K "Field") "__init__") fd) :
  ∃ g, KBn K fd initP 2 ["size", "amount", "low", "high", "usages"] g (fun vs zs => pick3 pl2 vs (ms2 K) zs) := by
  obtain ⟨mv, h⟩ := F.kbinds0 (ps := initP) 2 ["size", "amount", "low", "high", "usages"] [("number", .int 0), ("flags", .int 2), ("plow", .int 0), ("phigh", .int 0), ("exponent", .int 0), ("unit", .int 0)] (fun us mv ws => pick3 pl2 us mv ws) (by simp) (by
    intro q hq
    simp only [List.mem_cons, List.not_mem_nil, or_false] at hq
    rcases hq with rfl | rfl | rfl | rfl | rfl | rfl <;> simp [He.Dv.v]) (fun r1 r2 r3 => pick3_vals _ r1 r2 r3) (by
    intro D doc pm an cdv ct us mv ws h1 h2 h3
    match us, mv, ws, h1, h2, h3 with
    | [u1, u2], [m0, m1, m2, m3, m4, m5], [w0, w1, w2, w3, w4], _, _, _ =>
      exact ⟨_, _, _, _, _, _, rfl, rfl, ⟨_, _, _, _, _, _, rfl, rfl, ⟨_, _, _, _, _, _, rfl, rfl, ⟨_, _, _, _, _, _, rfl, rfl, ⟨_, _, _, _, _, _, rfl, rfl, ⟨_, _, _, _, _, _, rfl, rfl, by (show _ = pure _); kernel_rfl!⟩⟩⟩⟩⟩⟩)
  exact ⟨_, h⟩
def pl3 : List (Nat × Nat) := [(0, 0), (0, 1), (1, 0), (2, 0), (2, 1), (1, 1), (1, 2), (1, 3), (1, 4), (1, 5), (1, 6), (1, 7), (1, 8)]
def ms3 (K : PySem.W.Frag) : List V := [.int 0, .int 1, .int 0, .int 255, .int 0, .int 0, .int 0, .int 0, .ref (kdfAt ("Field", some "__init__") "usages" K)]
theorem kb3 {K : PySem.W.Frag} {mg : Str → Option Value} (T : TT K mg) {fd : FuncData} (F : FunD K "__init__" "Field.__init__" (defArgs (inClass (top 59) 0)) (defBody (inClass (top 59) 0)) (defScope (inClass (top 59) 0)) [] (([("number", .int 0), ("flags", .int 2), ("size", .int 8), ("amount", .int 1), ("low", .int 0), ("high", .int 255), ("plow", .int 0), ("phigh", .int 0), ("exponent", .int 0), ("unit", .int 0), ("usages", .adr (kdfAt ("Field", some "__init__") "usages"))] : List (Str × He.Dv)).map fun q => (q.1, q.2.v K)) (He.ma K (He.ga K "Field") "__init__") fd) :
  ∃ g, KBn K fd initP 2 ["flags", "size"] g (fun vs zs => pick3 pl3 vs (ms3 K) zs) := by
  obtain ⟨mv, h⟩ := F.kbinds0 (ps := initP) 2 ["flags", "size"] [("number", .int 0), ("amount", .int 1), ("low", .int 0), ("high", .int 255), ("plow", .int 0), ("phigh", .int 0), ("exponent", .int 0), ("unit", .int 0), ("usages", .ref (kdfAt ("Field", some "__init__") "usages" K))] (fun us mv ws => pick3 pl3 us mv ws) (by simp) (by
    intro q hq
    simp only [List.mem_cons, List.not_mem_nil, or_false] at hq
    rcases hq with rfl | rfl | rfl | rfl | rfl | rfl | rfl | rfl | rfl <;> simp [He.Dv.v]) (fun r1 r2 r3 => pick3_vals _ r1 r2 r3) (by
    intro D doc pm an cdv ct us mv ws h1 h2 h3
    match us, mv, ws, h1, h2, h3 with
    | [u1, u2], [m0, m1, m2, m3, m4, m5, m6, m7, m8], [w0, w1], _, _, _ =>
      exact ⟨_, _, _, _, _, _, rfl, rfl, ⟨_, _, _, _, _, _, rfl, rfl, ⟨_, _, _, _, _, _, rfl, rfl, ⟨_, _, _, _, _, _, rfl, rfl, ⟨_, _, _, _, _, _, rfl, rfl, ⟨_, _, _, _, _, _, rfl, rfl, ⟨_, _, _, _, _, _, rfl, rfl, ⟨_, _, _, _, _, _, rfl, rfl, ⟨_, _, _, _, _, _, rfl, rfl, by (show _ = pure _); kernel_rfl!⟩⟩⟩⟩⟩⟩⟩⟩⟩)
  exact ⟨_, h⟩
end T61
end
section
set_option Elab.async false
set_option linter.all false
set_option maxRecDepth 100000
set_option maxHeartbeats 0
namespace T61
open PySem PySem.Spec PyProof.Rows L2 L2.RL
local macro_rules | `(tactic| walk_at "rl ty") => `(tactic| first
  | assumption
  | exact .base (.int _)
  | exact .base (.str _)
  | exact .base .non
  | exact .base (.bl _)
  | exact ty_sqT (by walk_at "rl hp")
  | exact ty_sqL (by walk_at "rl hp")
  | exact .base (.tup (by walk_at "rl hp"))
  | exact .base (.lst (by walk_at "rl hp"))
  | exact .base (.dK (by walk_at "rl hp")))
local macro_rules | `(tactic| walk_at "rl if") => `(tactic| first
  | with_reducible refine iteT' rfl ?_
  | with_reducible refine iteF' rfl ?_
  | (refine iteT' rfl ?_)
  | (refine iteF' rfl ?_))
local macro_rules | `(tactic| walk_at "rl side") => `(tactic| first | assumption | omega | (constructor <;> omega) | decide)
local macro_rules | `(tactic| walk_at "rl ne") => `(tactic| first
  | assumption
  | exact Ne.symm (by assumption)
  | walk_at "rl ne2"
  | exact ne_of (by assumption) (by walk_at "rl hq") (by intro z; cases z)
  | exact (ne_of (by assumption) (by walk_at "rl hq") (by intro z; cases z)).symm)
local macro_rules | `(tactic| walk_at "rl hq") => `(tactic| first
  | assumption
  | exact upd_same
  | (refine' upd_at ?rlne ?rlhq; (case rlne => walk_at "rl ne"); (case rlhq => walk_at "rl hq"))
  | (refine' Same.at ?rlsa ?rlhq; (case rlsa => assumption); (case rlhq => walk_at "rl hq"))
  | (refine' But.at ?rlbu ?rlne ?rlhq; (case rlbu => assumption); (case rlne => walk_at "rl ne"); (case rlhq => walk_at "rl hq")))
local macro_rules | `(tactic| walk_at "rl hp") => `(tactic| first
  | assumption
  | (refine' SqL.of ?rlhq; (case rlhq => walk_at "rl hq"))
  | (refine' SqT.of ?rlhq; (case rlhq => walk_at "rl hq"))
  | (refine' Same.seq ?rlsa ?rlhp; (case rlsa => assumption); (case rlhp => walk_at "rl hp"))
  | (refine' Same.sqT ?rlsa ?rlhp; (case rlsa => assumption); (case rlhp => walk_at "rl hp"))
  | walk_at "rl hp2"
  | walk_at "rl hq")
local macro_rules | `(tactic| walk_at "rl w1") => `(tactic| first
  | with_reducible refine w_seq ?_
  | ((with_reducible refine' w_var ?rlv ?_); (case rlv => exact rfl))
  | with_reducible refine w_c ?_
  | with_reducible refine w_op ?_
  | with_reducible refine w_I0 ?_
  | with_reducible refine w_asg ?_
  | ((with_reducible refine' w_gName ?_); dsimp only [List.set])
  | ((with_reducible refine' w_nxD ?rle ?_); (case rle => exact rfl))
  | ((with_reducible refine' w_rtD ?rle ?_); (case rle => exact rfl))
  | with_reducible refine w_next ?_
  | with_reducible refine w_ret ?_
  | with_reducible refine w_cons ?_
  | with_reducible refine w_nil ?_
  | with_reducible refine w_ifS ?_
  | with_reducible refine w_test ?_
  | with_reducible refine w_B ?_
  | with_reducible refine w_bl ?_
  | with_reducible refine w_bl1 ?_
  | with_reducible refine w_blR ?_
  | with_reducible refine w_eqI ?_
  | with_reducible refine w_neI ?_
  | with_reducible refine w_eqS ?_
  | with_reducible refine w_neS ?_
  | with_reducible refine w_eqB ?_
  | with_reducible refine w_neB ?_
  | with_reducible refine w_and ?_
  | with_reducible refine w_or ?_
  | with_reducible refine w_not ?_
  | with_reducible refine w_andV ?_
  | with_reducible refine w_orV ?_
  | with_reducible refine w_notV ?_
  | with_reducible refine w_if ?_
  | with_reducible refine w_chain ?_
  | with_reducible refine w_un ?_
  | with_reducible refine w_U ?_
  | ((with_reducible refine' w_I ?rlc ?_); (case rlc => walk_at "rl side"))
  | with_reducible refine w_drop ?_
  | with_reducible refine w_retN ?_
  | with_reducible refine w_par ?_
  | ((with_reducible refine' w_par2 ?_); dsimp only [List.set])
  | ((with_reducible refine' w_aug ?rla ?_); (case rla => exact rfl))
  | with_reducible refine w_ipI ?_
  | with_reducible refine w_break ?_
  | with_reducible refine w_cont ?_
  | ((with_reducible refine' w_bkD ?rle ?_); (case rle => exact rfl))
  | ((with_reducible refine' w_ctD ?rle ?_); (case rle => exact rfl))
  | with_reducible refine w_tup ?_
  | with_reducible refine w_lst ?_
  | ((with_reducible refine' w_newO ?rln ?_); (case rln => exact Nat.le_of_ble_eq_true rfl); intro _ _ _ _ _)
  | ((with_reducible refine' w_new ?rln ?_); (case rln => exact Nat.le_of_ble_eq_true rfl))
  | ((with_reducible refine' w_mk ?_); intro _ _ _ _ _)
  | ((with_reducible refine' w_gTup ?rls ?rll ?_); (case rls => walk_at "rl hp"); (case rll => exact rfl))
  | with_reducible refine w_gCons ?_
  | with_reducible refine w_gNil ?_
  | with_reducible refine w_gSub ?_
  | ((with_reducible refine' w_setL ?rls ?rlj ?_); (case rls => walk_at "rl hp"); (case rlj => exact rfl))
  | ((with_reducible refine' w_ixL ?rls ?rli ?_); (case rls => walk_at "rl hp"); (case rli => exact rfl))
  | ((with_reducible refine' w_ixT ?rls ?rli ?_); (case rls => walk_at "rl hp"); (case rli => exact rfl))
  | with_reducible refine w_call ?_
  | with_reducible refine w_trI ?_
  | with_reducible refine w_yes ?_
  | with_reducible refine w_trB ?_
  | with_reducible refine w_trN ?_
  | with_reducible refine w_cb ?_
  | with_reducible refine w_fld ?_
  | ((with_reducible refine' w_fld1 ?rlo ?rlc ?rln ?rll ?_); (case rlo => walk_at "rl hp"); (case rlc => assumption); (case rln => assumption); (case rll => exact rfl))
  | with_reducible refine w_isiO ?_
  | with_reducible refine w_isiT ?_
  | ((with_reducible refine' w_isi (r := true) ?rlt ?rlk ?_); (case rlt => walk_at "rl ty"); (case rlk => exact rfl))
  | ((with_reducible refine' w_isi (r := false) ?rlt ?rlk ?_); (case rlt => walk_at "rl ty"); (case rlk => exact rfl))
  | ((with_reducible refine' w_isi2 (r := true) ?rlT ?rlt ?rlk ?_); (case rlT => walk_at "rl hp"); (case rlt => walk_at "rl ty"); (case rlk => exact rfl))
  | ((with_reducible refine' w_isi2 (r := false) ?rlT ?rlt ?rlk ?_); (case rlT => walk_at "rl hp"); (case rlt => walk_at "rl ty"); (case rlk => exact rfl))
  | with_reducible refine w_sFld ?_
  | with_reducible refine w_itemsK ?_
  | ((with_reducible refine' w_catT ?rlha ?rlhb ?rln1 ?rln2 ?rlhl ?_); (case rlha => walk_at "rl hp"); (case rlhb => walk_at "rl hp"); (case rln1 => exact (fun z => nomatch z)); (case rln2 => exact (fun z => nomatch z)); (case rlhl => exact Nat.le_trans (Nat.le_of_ble_eq_true rfl) (show 100000 ≤ sizeLine by decide)))
  | ((with_reducible refine' w_newE ?_); intro _ _ _ _ _)
  | with_reducible refine w_makeK ?_
  | ((with_reducible refine' w_sFld1 ?rlc ?rln ?rll ?rle ?_); (case rlc => assumption); (case rln => assumption); (case rll => exact Nat.lt_of_lt_of_le (Nat.lt_succ_self _) (Nat.le_of_ble_eq_true rfl)); (case rle => exact rfl))
  | ((with_reducible refine' w_sFld0 ?rlx ?rlc ?rln ?rll ?rle ?_); (case rlx => walk_at "rl hq"); (case rlc => assumption); (case rln => assumption); (case rll => exact Nat.lt_of_lt_of_le (Nat.lt_succ_self _) (Nat.le_of_ble_eq_true rfl)); (case rle => exact rfl))
  | with_reducible refine w_rflA ?_
  | with_reducible refine w_for ?_
  | with_reducible refine w_iList ?_
  | with_reducible refine w_iTup ?_
  | ((with_reducible refine' w_overL ?rls ?_); (case rls => walk_at "rl hp"))
  | ((with_reducible refine' w_overT ?rls ?_); (case rls => walk_at "rl hp"))
  | with_reducible refine w_rng1 ?_
  | ((with_reducible refine' w_rng1a ?rl1 ?rl2 ?_); (case rl1 => omega); (case rl2 => omega))
  | with_reducible refine w_rng2 ?_
  | ((with_reducible refine' w_rng2a ?rl1 ?_); (case rl1 => omega))
  | with_reducible refine w_zip2 ?_
  | with_reducible refine w_lc ?_
  | with_reducible refine w_enS ?_
  | with_reducible refine w_callSD ?_
  | with_reducible refine w_xf ?_
  | ((with_reducible refine' w_dnew ?_); intro _ _ _ _ _)
  | ((with_reducible refine' w_disp1 ?_); intro _ _ _ _ _)
  | with_reducible refine w_bm ?_
  | ((with_reducible refine' w_tyL ?rls ?_); (case rls => walk_at "rl hp"))
  | ((with_reducible refine' w_append ?rls ?rll ?_); (case rls => walk_at "rl hq"); (case rll => exact Nat.lt_of_lt_of_le (Nat.lt_succ_self _) (Nat.le_of_ble_eq_true rfl)))
  | ((with_reducible refine' w_cat ?rls ?rlt ?rll ?_); (case rls => walk_at "rl hq"); (case rlt => walk_at "rl hq"); (case rll => exact Nat.le_of_ble_eq_true rfl); intro _ _ _ _ _)
  | with_reducible refine w_int1 ?_
  | ((with_reducible refine w_intb ?_); (try dsimp only))
  | with_reducible refine w_one ?_
  | with_reducible refine w_two ?_
  | ((with_reducible refine' w_lenL ?rls ?_); (case rls => walk_at "rl hp"))
  | ((with_reducible refine' w_lenT ?rls ?_); (case rls => walk_at "rl hp"))
  | with_reducible refine w_meth ?_
  | ((with_reducible refine' w_meth1 ?rlo ?rll ?_); (case rlo => walk_at "rl hp"); (case rll => exact rfl)))
local macro_rules | `(tactic| walk_at "rl wp") => `(tactic| (repeat walk_at "rl w1"))
local macro_rules | `(tactic| walk_at "rl but") => `(tactic| first
  | assumption
  | exact But.refl _ _
  | exact But.upd
  | exact But.of_same (by assumption)
  | (refine But.trans ?_ (But.of_same (by assumption)); walk_at "rl but")
  | (refine But.trans ?_ (by assumption : But _ _ _); walk_at "rl but")
  | (refine But.trans ?_ But.upd; walk_at "rl but"))
local macro_rules | `(tactic| walk_at "rl same") => `(tactic| first
  | assumption
  | exact Same.refl _
  | (refine Same.trans ?_ (by assumption : Same _ _); walk_at "rl same"))

local macro_rules | `(tactic| walk_at "rl wi") => `(tactic| (repeat (first
  | walk_at "rl w1"
  | ((with_reducible refine' iteF' ?rlif ?_); (case rlif => exact rfl))
  | ((with_reducible refine' iteT' ?rlif ?_); (case rlif => exact rfl)))))
local macro_rules | `(tactic| walk_at "rl ty") => `(tactic| exact .base (.dK (by assumption)))
local macro_rules | `(tactic| walk_at "rl ty") => `(tactic| exact .base (.lst (by assumption)))
local macro_rules | `(tactic| walk_at "rl ty") => `(tactic| exact .base (.tup (by assumption)))
local macro_rules | `(tactic| walk_at "rl w1") => `(tactic| first
  | with_reducible refine w_par3 ?_
  | ((with_reducible refine' w_par3a ?_); dsimp only [List.set])
  | with_reducible refine w_dget ?_
  | ((with_reducible refine' w_dgetS ?rls ?rlv ?_); (case rls => walk_at "rl hq"); (case rlv => exact rfl))
  | ((with_reducible refine' w_dgetI ?rls ?rlv ?_); (case rls => walk_at "rl hq"); (case rlv => exact rfl))
  | with_reducible refine w_dget2 ?_
  | ((with_reducible refine' w_isD ?rls ?_); (case rls => walk_at "rl hq"))
  | ((with_reducible refine' w_dget2S ?rls ?_); (case rls => walk_at "rl hq"))
  | ((with_reducible refine' w_dget2I ?rls ?_); (case rls => walk_at "rl hq"))
  | ((with_reducible refine' w_setDS ?rls ?rll ?rlm ?_); (case rls => walk_at "rl hq"); (case rll => exact Nat.lt_of_lt_of_le (Nat.lt_succ_self _) (Nat.le_of_ble_eq_true rfl)); (case rlm => exact rfl))
  | ((with_reducible refine' w_tyD ?rls ?_); (case rls => walk_at "rl hq"))
  | with_reducible refine w_jNil ?_
  | with_reducible refine w_jCons ?_
  | with_reducible refine w_prop ?_
  | with_reducible refine w_makeKS ?_
  | with_reducible refine w_pNil ?_
  | with_reducible refine w_pCons ?_
  | ((with_reducible refine' w_dispN ?_); intro _ _ _ _ _))

structure Fa where
  r : V
  n : V
  f : V
  z : V
  a : V
  l : V
  h : V
  p : V
  q : V
  e : V
  u : V
  s : V
def Fa.all (v : Fa) : List V := [v.r, v.n, v.f, v.z, v.a, v.l, v.h, v.p, v.q, v.e, v.u, v.s]
def Fa.at (v : Fa) : List (Str × V) := [("role", v.r), ("number", v.n), ("flags", v.f), ("size", v.z), ("amount", v.a), ("low", v.l), ("high", v.h), ("plow", v.p), ("phigh", v.q), ("exponent", v.e), ("unit", v.u), ("usages", v.s)]
def Fa.nums (v : Fa) : List V := [v.n, v.f, v.z, v.a, v.l, v.h, v.p, v.q, v.e, v.u]
def bnds : List (Str × Int × Int) := [("number", 0, 255), ("flags", 0, 7), ("size", 0, 32), ("amount", 0, 255), ("low", (-2147483648), 2147483647), ("high", (-2147483648), 2147483647), ("plow", (-2147483648), 2147483647), ("phigh", (-2147483648), 2147483647), ("exponent", (-8), 7), ("unit", 0, 4294967295)]
def numBad : List (Str × Int × Int) → List PyData → Option Str
  | b :: bs, d :: ds => if inI d b.2.1 b.2.2 = true then numBad bs ds else some b.1
  | _, _ => none
theorem numBad_step {bs : List (Str × Int × Int)} {ds : List PyData} {i : Nat} {b : Str × Int × Int} {d : PyData} (hb : bs[i]? = some b) (hd : ds[i]? = some d) : numBad (bs.drop i) (ds.drop i) = if inI d b.2.1 b.2.2 = true then numBad (bs.drop (i + 1)) (ds.drop (i + 1)) else some b.1 := by
  obtain ⟨h1, e1⟩ := List.getElem?_eq_some_iff.mp hb
  obtain ⟨h2, e2⟩ := List.getElem?_eq_some_iff.mp hd
  rw [List.drop_eq_getElem_cons h1, List.drop_eq_getElem_cons h2, e1, e2]
  rfl
def toI : PyData → Int
  | .int i => i
  | _ => 0
def roleOk : PyData → Bool
  | .str x => decide (x = "input") || (decide (x = "output") || decide (x = "feature"))
  | _ => false
def lastBad (f z m lo hi : Int) (k : Nat) : Option Str :=
  match (if Builtin.bitAnd f 1 ≠ 0 then (none : Option Str) else badRange lo hi z) with
  | some s => some s
  | none => if areUs k f m (hi - lo + 1) = true then none else some ("usages" : Str)
def usBad (f z m lo hi : Int) : PyData → Option Str
  | .tuple es => if (decide (es.length ≤ 256) && es.all fun d => inI d 0 4294967295) = true then lastBad f z m lo hi es.length else some ("usages" : Str)
  | _ => some ("usages" : Str)
def badName (ds : List PyData) : Option Str :=
  if roleOk (ds.getD 0 .none) = true then (match numBad bnds (ds.drop 1) with
    | some s => some s
    | none => usBad (toI (ds.getD 2 .none)) (toI (ds.getD 3 .none)) (toI (ds.getD 4 .none)) (toI (ds.getD 5 .none)) (toI (ds.getD 6 .none)) (ds.getD 11 .none)) else some ("role" : Str)
theorem inI_ex {d : PyData} {lo hi : Int} (h : inI d lo hi = true) : ∃ i, d = .int i ∧ lo ≤ i ∧ i ≤ hi := by
  cases d with
  | int i =>
    rw [inI_int, Bool.and_eq_true_iff] at h
    exact ⟨i, rfl, of_decide_eq_true h.1, of_decide_eq_true h.2⟩
  | _ => cases h
theorem numBad_ok : ∀ {bs : List (Str × Int × Int)} {ds : List PyData}, numBad bs ds = none → ∀ (i : Nat) (b : Str × Int × Int) (d : PyData), bs[i]? = some b → ds[i]? = some d → inI d b.2.1 b.2.2 = true
  | [], _, _, i, b, d, h, _ => by simp at h
  | _ :: _, [], _, i, b, d, _, h => by simp at h
  | b0 :: bs, d0 :: ds, h, i, b, d, h1, h2 => by
    have h' : (if inI d0 b0.2.1 b0.2.2 = true then numBad bs ds else some b0.1) = none := h
    by_cases c : inI d0 b0.2.1 b0.2.2 = true
    · rw [if_pos c] at h'
      cases i with
      | zero =>
        simp only [List.getElem?_cons_zero, Option.some.injEq] at h1 h2
        subst h1 h2
        exact c
      | succ i => exact numBad_ok h' i b d (by simpa using h1) (by simpa using h2)
    · rw [if_neg c] at h'
      cases h'
theorem bnds_at {i : Nat} (h : i < 10) : ∃ nm lo hi, bounds[i]? = some (.str nm, [.int lo, .int hi]) ∧ bnds[i]? = some (nm, lo, hi) := by
  match i, h with
  | 0, _ => exact ⟨_, _, _, rfl, rfl⟩
  | 1, _ => exact ⟨_, _, _, rfl, rfl⟩
  | 2, _ => exact ⟨_, _, _, rfl, rfl⟩
  | 3, _ => exact ⟨_, _, _, rfl, rfl⟩
  | 4, _ => exact ⟨_, _, _, rfl, rfl⟩
  | 5, _ => exact ⟨_, _, _, rfl, rfl⟩
  | 6, _ => exact ⟨_, _, _, rfl, rfl⟩
  | 7, _ => exact ⟨_, _, _, rfl, rfl⟩
  | 8, _ => exact ⟨_, _, _, rfl, rfl⟩
  | 9, _ => exact ⟨_, _, _, rfl, rfl⟩
theorem DqAll.drop {H : Hp} {B : Addr → Prop} : ∀ {us : List V} {ns : List PyData} (k : Nat), DqAll H B us ns → DqAll H B (us.drop k) (ns.drop k)
  | _, _, 0, h => h
  | _, _, k + 1, .nil => .nil
  | _, _, k + 1, .cons _ t => DqAll.drop k t
theorem dqR {H : Hp} {B : Addr → Prop} {x : V} {d : PyData} (h : Dq H B x d) : roleOk d = match x with | .str y => decide (y = "input") || (decide (y = "output") || decide (y = "feature")) | _ => false := by
  cases h <;> rfl
theorem inRole (y : Str) : (if false = true then !inV (.str y) [V.str "input", V.str "output", V.str "feature"] else inV (.str y) [V.str "input", V.str "output", V.str "feature"]) = roleOk (.str y) := by
  rw [if_neg (by decide)]
  show (decide _ || (decide _ || (decide _ || false))) = (decide _ || (decide _ || decide _))
  rw [Bool.or_false, decide_eq_decide.mpr (eq_comm (a := ("input" : Str))), decide_eq_decide.mpr (eq_comm (a := ("output" : Str))), decide_eq_decide.mpr (eq_comm (a := ("feature" : Str)))]
theorem inRoleN (y : Str) : (if true = true then !inV (.str y) [V.str "input", V.str "output", V.str "feature"] else inV (.str y) [V.str "input", V.str "output", V.str "feature"]) = !roleOk (.str y) := by
  have h := inRole y
  rw [if_neg (by decide)] at h
  rw [if_pos rfl, h]
theorem ints_of {H : Hp} {B : Addr → Prop} {lo hi : Int} : ∀ {us : List V} {ns : List PyData}, DqAll H B us ns → (ns.all fun d => inI d lo hi) = true → ∃ is : List Int, us = is.map V.int ∧ ns = is.map PyData.int
  | _, _, .nil, _ => ⟨[], rfl, rfl⟩
  | _, _, .cons (d := d) h t, e => by
    rw [List.all_cons, Bool.and_eq_true_iff] at e
    obtain ⟨is, e1, e2⟩ := ints_of t e.2
    obtain ⟨i, rfl, _⟩ := inI_ex e.1
    cases h
    exact ⟨i :: is, by rw [e1]; rfl, by rw [e2]; rfl⟩
theorem dpI {K : PySem.W.Frag} {H : Hp} : ∀ is : List Int, DpAll K H (is.map V.int) (is.map PyData.int)
  | [] => .nil
  | i :: is => .cons (.int i) (dpI is)
theorem layI : ∀ is : List Int, PyData.canLayAll0 (is.map PyData.int) = true
  | [] => rfl
  | i :: is => layI is
theorem depI : ∀ is : List Int, PyData.depthAll (is.map PyData.int) ≤ 10
  | [] => Nat.zero_le _
  | i :: is => Nat.max_le.mpr ⟨Nat.zero_le _, depI is⟩
def FldAt (K : PySem.W.Frag) (H : Hp) (a : Addr) (v : Fa) : Prop := ∃ dx, H a = some (.ins (He.ga K "Field") dx v.at)
def spNumbers (K : PySem.W.Frag) : Sp := fun vs H Q _ => ∃ (a : Addr) (v : Fa), vs = [.ref a] ∧ FldAt K H a v ∧ ∀ p H', Same H H' → H' p = some (.tup v.nums) → Q (.ref p) H'
structure V12 (K : PySem.W.Frag) (H : Hp) (B : Addr → Prop) (v : Fa) (ds : List PyData) : Prop where
  at_ : ∀ (i : Nat) (x : V), i < 11 → v.all[i]? = some x → ∃ d, ds[i]? = some d ∧ Dq H B x d
  us : ∃ d, ds[11]? = some d ∧ (Dq H B v.s d ∨ ∃ p, v.s = .ref p ∧ d = .tuple [] ∧ SqT K H p [])
theorem V12.of {K : PySem.W.Frag} {H : Hp} {B : Addr → Prop} {v : Fa} {ds : List PyData} (h : DqAll H B v.all ds) : V12 K H B v ds :=
  ⟨fun i x _ e => h.at e, let ⟨d, e, q⟩ := h.at (i := 11) (x := v.s) rfl; ⟨d, e, .inl q⟩⟩
def spBadName (K : PySem.W.Frag) : Sp := fun vs H Q _ => ∃ (B : Addr → Prop) (a : Addr) (v : Fa) (ds : List PyData), vs = [.ref a] ∧ FldAt K H a v ∧ V12 K H B v ds ∧ ∀ H', Same H H' → Q (oV (badName ds)) H'
theorem sc_Field_numbers : FnScope ["self", "head"] ["self"] (defScope ((inClass (top 59) 1))) := ⟨rfl, rfl, rfl, by decide +kernel, rfl, by decide +kernel, by decide +kernel⟩
theorem ok_Field_numbers {P : Program} {w : World} {K : PySem.W.Frag} {mg : Str → Option Value} {base : Heap} (T : TT K mg)    : Lm P w K mg base CX0 1 "Field" "numbers" ["self"] [] (spNumbers K) := by
  obtain ⟨fd, F⟩ := T.d_Field_numbers
  refine ⟨⟨fd, [], F.ok sc_Field_numbers (fun vs H Q E h => ?_) (fun cdv A outer s H vs Q E hr h => ?_), FunD.bindsN F (fun _ _ _ _ _ _ us hl => match us, hl with | [_], _ => rfl), .nil⟩⟩
  · obtain ⟨a, v, rfl, _⟩ := h
    rfl
  · obtain ⟨a, v, rfl, ⟨dx, ha⟩, q⟩ := h
    have c_F := T.c_Field
    have n_role := T.n_Field_role
    have n_number := T.n_Field_number
    have n_flags := T.n_Field_flags
    have n_size := T.n_Field_size
    have n_amount := T.n_Field_amount
    have n_low := T.n_Field_low
    have n_high := T.n_Field_high
    have n_plow := T.n_Field_plow
    have n_phigh := T.n_Field_phigh
    have n_exponent := T.n_Field_exponent
    have n_unit := T.n_Field_unit
    have n_usages := T.n_Field_usages
    refine ⟨_, PSs.nox ((pss_cons (ps_set (i := 1) sc_Field_numbers.nd rfl (by first | exact Or.inl rfl | exact Or.inr rfl) (pe_tup (pa_cons (pe_fld (pv 0) rfl) (pa_cons (pe_fld (pv 0) rfl) (pa_cons (pe_fld (pv 0) rfl) (pa_cons (pe_fld (pv 0) rfl) (pa_cons (pe_fld (pv 0) rfl) (pa_cons (pe_fld (pv 0) rfl) pa_nil)))))))) (pss_one (ps_ret (pe_op op_catT (pv 1) (pe_tup (pa_cons (pe_fld (pv 0) rfl) (pa_cons (pe_fld (pv 0) rfl) (pa_cons (pe_fld (pv 0) rfl) (pa_cons (pe_fld (pv 0) rfl) pa_nil)))))))))), ?_⟩; rw [start_2_1]; try dsimp only [cxOf]
    walk_at "rl wp"
    exact q _ _ (by walk_at "rl same") (by assumption)

theorem sc_Field_bad_name : FnScope ["self", "value", "name", "low", "high", "usages", "bad", "one"] ["self"] (defScope ((inClass (top 59) 2))) := ⟨rfl, rfl, rfl, by decide +kernel, rfl, by decide +kernel, by decide +kernel⟩
theorem ok_Field_bad_name {P : Program} {w : World} {K : PySem.W.Frag} {mg : Str → Option Value} {base : Heap} (T : TT K mg) (D_is_integer : Ld P w K mg base CX0 1 "is_integer" ["thing", "low", "high"] [] (spIsInt)) (D_is_usage : Ld P w K mg base CX0 2 "is_usage" ["thing"] [] (spIsUsage)) (D_bad_range : Ld P w K mg base CX0 2 "bad_range" ["low", "high", "size"] [] (spBadRange)) (D_are_usages : Ld P w K mg base CX0 1 "are_usages" ["usages", "flags", "amount", "codes"] [] (spAreUs K)) (D_Field_numbers : Lm P w K mg base CX0 1 "Field" "numbers" ["self"] [] (spNumbers K))   : Lm P w K mg base CX0 3 "Field" "bad_name" ["self"] [] (spBadName K) := by
  obtain ⟨⟨fd_is_integer, ds_is_integer, F_is_integer, b_is_integer, v_is_integer⟩, g_is_integer, k_is_integer⟩ := D_is_integer
  obtain ⟨⟨fd_is_usage, ds_is_usage, F_is_usage, b_is_usage, v_is_usage⟩, g_is_usage, k_is_usage⟩ := D_is_usage
  obtain ⟨⟨fd_bad_range, ds_bad_range, F_bad_range, b_bad_range, v_bad_range⟩, g_bad_range, k_bad_range⟩ := D_bad_range
  obtain ⟨⟨fd_are_usages, ds_are_usages, F_are_usages, b_are_usages, v_are_usages⟩, g_are_usages, k_are_usages⟩ := D_are_usages
  obtain ⟨⟨fd_Field_numbers, ds_Field_numbers, F_Field_numbers, b_Field_numbers, v_Field_numbers⟩⟩ := D_Field_numbers
  obtain ⟨fd, F⟩ := T.d_Field_bad_name
  refine ⟨⟨fd, [], F.ok sc_Field_bad_name (fun vs H Q E h => ?_) (fun cdv A outer s H vs Q E hr h => ?_), FunD.bindsN F (fun _ _ _ _ _ _ us hl => match us, hl with | [_], _ => rfl), .nil⟩⟩
  · obtain ⟨B, a, v, ds, rfl, _⟩ := h
    rfl
  · obtain ⟨B, a, v, ds, rfl, fv, hd, q⟩ := h
    obtain ⟨dx, ha⟩ := fv
    obtain ⟨x0, x1, x2, x3, x4, x5, x6, x7, x8, x9, x10, x11⟩ := v
    have fv : FldAt K H a ⟨x0, x1, x2, x3, x4, x5, x6, x7, x8, x9, x10, x11⟩ := ⟨dx, ha⟩
    have tR : SqT K H (He.ga K "ROLES_layouts") [V.str "input", V.str "output", V.str "feature"] := T.t_ROLES_layouts H
    have c_F := T.c_Field
    have n_role := T.n_Field_role
    have n_number := T.n_Field_number
    have n_flags := T.n_Field_flags
    have n_size := T.n_Field_size
    have n_amount := T.n_Field_amount
    have n_low := T.n_Field_low
    have n_high := T.n_Field_high
    have n_plow := T.n_Field_plow
    have n_phigh := T.n_Field_phigh
    have n_exponent := T.n_Field_exponent
    have n_unit := T.n_Field_unit
    have n_usages := T.n_Field_usages
    have HD0 := hd.at_ 0 x0 (by decide) rfl
    have HD2 := hd.at_ 2 x2 (by decide) rfl
    have HD3 := hd.at_ 3 x3 (by decide) rfl
    have HD4 := hd.at_ 4 x4 (by decide) rfl
    have HD5 := hd.at_ 5 x5 (by decide) rfl
    have HD6 := hd.at_ 6 x6 (by decide) rfl
    have HD11 := hd.us
    obtain ⟨kvs, hk1, hk2⟩ := T.t_BOUNDS
    have hkl : kvs.length = 10 := hk1.length.symm
    obtain ⟨d0, e0, q0⟩ := HD0
    obtain ⟨d2, e2, q2⟩ := HD2
    obtain ⟨d3, e3, q3⟩ := HD3
    obtain ⟨d4, e4, q4⟩ := HD4
    obtain ⟨d5, e5, q5⟩ := HD5
    obtain ⟨d6, e6, q6⟩ := HD6
    obtain ⟨d11, e11, q11⟩ := HD11
    have g0 : ds.getD 0 .none = d0 := by rw [List.getD_eq_getElem?_getD, e0]; rfl
    have g2 : ds.getD 2 .none = d2 := by rw [List.getD_eq_getElem?_getD, e2]; rfl
    have g3 : ds.getD 3 .none = d3 := by rw [List.getD_eq_getElem?_getD, e3]; rfl
    have g4 : ds.getD 4 .none = d4 := by rw [List.getD_eq_getElem?_getD, e4]; rfl
    have g5 : ds.getD 5 .none = d5 := by rw [List.getD_eq_getElem?_getD, e5]; rfl
    have g6 : ds.getD 6 .none = d6 := by rw [List.getD_eq_getElem?_getD, e6]; rfl
    have g11 : ds.getD 11 .none = d11 := by rw [List.getD_eq_getElem?_getD, e11]; rfl
    have er : roleOk d0 = false → badName ds = some ("role" : Str) := fun c => by
      unfold badName
      rw [g0, c]
      rfl
    have eg : roleOk d0 = true → badName ds = (match numBad bnds (ds.drop 1) with
        | some s => some s
        | none => usBad (toI d2) (toI d3) (toI d4) (toI d5) (toI d6) d11) := fun c => by
      unfold badName
      rw [g0, g2, g3, g4, g5, g6, g11, if_pos c]
    have k1 := fun i b d => numBad_ok (bs := bnds) (ds := ds.drop 1) (i := i) (b := b) (d := d)
    clear g0 g2 g3 g4 g5 g6 g11 e0
    refine ⟨_, PSs.nox ((pss_cons (ps_if (PW.pt (pw_or (pt_not (pt_val (pe_callB call_isi (by rfl) T.m_isinstance (by decide +kernel) (pa_cons (pe_fld (pv 0) rfl) (pa_cons (pe_bltn (v := .ty "str") (by rfl) T.m_str (by decide +kernel) rfl) pa_nil))))) (pw_or1 (pt_cmpR op_notIn_seq (pe_fld (pv 0) rfl) (pe_glob rfl (T.g_ROLES_layouts) (show RelV (.ref (He.ga K "ROLES_layouts")) _ from rfl)) (by rfl))))) (pss_one (ps_ret pe_str)) pss_nil) (pss_cons (ps_for PassesOwn.never rfl (pi_zip2S (by rfl) T.m_zip (pa_cons (pe_itemsK (pe_glob rfl (T.g_BOUNDS_layouts) (show RelV (.ref (He.ga K "BOUNDS_layouts")) _ from rfl))) (pa_cons (pe_meth0 (pv 0) T.c_Field T.h_Field_numbers F_Field_numbers (hr.mono (by decide)) b_Field_numbers v_Field_numbers pass0) pa_nil))) (pg_tup rfl (pgs_cons (pg_tup rfl (pgs_cons (pg_name (i := 2) sc_Field_bad_name.nd rfl (by first | exact Or.inl rfl | exact Or.inr rfl)) (pgs_cons (pg_tup rfl (pgs_cons (pg_name (i := 3) sc_Field_bad_name.nd rfl (by first | exact Or.inl rfl | exact Or.inr rfl)) (pgs_cons (pg_name (i := 4) sc_Field_bad_name.nd rfl (by first | exact Or.inl rfl | exact Or.inr rfl)) pgs_nil))) pgs_nil))) (pgs_cons (pg_name (i := 1) sc_Field_bad_name.nd rfl (by first | exact Or.inl rfl | exact Or.inr rfl)) pgs_nil))) (pss_one (ps_if (pt_not (pt_val (pe_call F_is_integer (hr.mono (by decide)) (by rfl) g_is_integer k_is_integer b_is_integer v_is_integer pass0 (pa_cons (pv 1) (pa_cons (pv 3) (pa_cons (pv 4) pa_nil)))))) (pss_one (ps_ret (pv 2))) pss_nil))) (pss_cons (ps_set (i := 5) sc_Field_bad_name.nd rfl (by first | exact Or.inl rfl | exact Or.inr rfl) (pe_fld (pv 0) rfl)) (pss_cons (ps_if (PW.pt (pw_or (pt_not (pt_val (pe_callB call_isi (by rfl) T.m_isinstance (by decide +kernel) (pa_cons (pv 5) (pa_cons (pe_bltn (v := .ty "tuple") (by rfl) T.m_tuple (by decide +kernel) rfl) pa_nil))))) (pw_or (pt_cmpR op_gt (pe_callB call_len_seq (by rfl) T.m_len PySem.boot_len (pa_cons (pv 5) pa_nil)) (pe_glob rfl (T.i_MOST_USAGES_layouts).choose_spec (show RelV (.int (256)) _ from ⟨_, rfl⟩)) (nomark _)) (pw_or1 (pt_not (pt_val (pe_callB (cr_all rfl) (by rfl) T.m_all (by decide +kernel) (pa_cons (by exact (pe_lc (own := [("one", 7)]) rfl sc_Field_bad_name.nd (pi_tup (pv 5)) (blkOk_by (own := [("one", 7)]) (N := ["self", "value", "name", "low", "high", "usages", "bad", "one"]) (sc := defScope ((inClass (top 59) 2))) (by decide +kernel)) (fun _ _ _ _ _ => by exact (pg_name (i := 7) sc_Field_bad_name.nd rfl (by first | exact Or.inl rfl | exact Or.inr rfl))) (fun _ _ _ _ _ => by exact pts_nil) (fun _ _ _ _ _ => by exact (pe_call F_is_usage hr (by rfl) g_is_usage k_is_usage b_is_usage v_is_usage pass0 (pa_cons (pv 7) pa_nil))))) pa_nil)))))))) (pss_one (ps_ret pe_str)) pss_nil) (pss_cons (ps_set (i := 6) sc_Field_bad_name.nd rfl (by first | exact Or.inl rfl | exact Or.inr rfl) (pe_ifExp (pt_truth (pe_op op_and (pe_fld (pv 0) rfl) (pe_glob rfl (T.i_CONSTANT_layouts).choose_spec (show RelV (.int (1)) _ from ⟨_, rfl⟩))) (by intro _; rfl)) pe_non (pe_call F_bad_range hr (by rfl) g_bad_range k_bad_range b_bad_range v_bad_range pass0 (pa_cons (pe_fld (pv 0) rfl) (pa_cons (pe_fld (pv 0) rfl) (pa_cons (pe_fld (pv 0) rfl) pa_nil)))))) (pss_cons (ps_if (pt_cmpR op_notN (pv 6) pe_non (nomark _)) (pss_one (ps_ret (pv 6))) pss_nil) (pss_one (ps_ret (pe_ifExp (pt_val (pe_call F_are_usages (hr.mono (by decide)) (by rfl) g_are_usages k_are_usages b_are_usages v_are_usages pass0 (pa_cons (pv 5) (pa_cons (pe_fld (pv 0) rfl) (pa_cons (pe_fld (pv 0) rfl) (pa_cons (pe_op op_add (pe_op op_sub (pe_fld (pv 0) rfl) (pe_fld (pv 0) rfl)) pe_int) pa_nil)))))) pe_non pe_str)))))))))), ?_⟩; rw [start_8_1]; try dsimp only [cxOf]
    have hx1 : ∀ (i : Nat) (x : V), i < 10 → [x1, x2, x3, x4, x5, x6, x7, x8, x9, x10, x11][i]? = some x → ∃ d, (ds.drop 1)[i]? = some d ∧ Dq H B x d := fun i x hi e => by
      rw [List.getElem?_drop, Nat.add_comm]
      exact hd.at_ (i + 1) x (by omega) e
    cases q0 with
    | str y =>
      walk_at "rl wi"
      refine w_inT tR rfl rfl ?_
      rw [inRoleN]
      cases hr0 : roleOk (.str y) with
      | false =>
        rw [er hr0] at q
        walk_at "rl wi"
        exact q _ (Same.refl _)
      | true =>
      rw [eg hr0] at q
      clear er eg
      walk_at "rl wi"
      refine w_item1 hk2 ?_
      walk_at "rl wp"
      refine ⟨a, _, rfl, ⟨dx, by walk_at "rl hq"⟩, fun pn H2 s2 hpn => ?_⟩
      walk_at "rl wp"
      refine ⟨_, _, ItI kvs, Itt K pn, rfl, .inr (.inr ⟨_, _, _, rfl, by walk_at "rl hq", hk2, rfl⟩), .inr (.inl ⟨_, _, rfl, SqT.of hpn, rfl⟩), ?_⟩
      refine w_forI 10 (fun i σ' H' => Same H2 H' ∧ numBad bnds (ds.drop 1) = numBad (bnds.drop i) ((ds.drop 1).drop i) ∧ ∃ s1 s2 s3 s4, σ' = [some (.ref a), s1, s2, s3, s4, none, none, none]) ⟨Same.refl _, rfl, _, _, _, _, rfl⟩ ?_ ?_
      · rintro i σ' H' hi ⟨sm, en, s1, s2, s3, s4, rfl⟩
        obtain ⟨nm, lo, hi', b1, b2⟩ := bnds_at hi
        obtain ⟨x, hx, hx'⟩ : ∃ x, (Fa.nums ⟨.str y, x1, x2, x3, x4, x5, x6, x7, x8, x9, x10, x11⟩)[i]? = some x ∧ [x1, x2, x3, x4, x5, x6, x7, x8, x9, x10, x11][i]? = some x := by
          rcases (show i = 0 ∨ i = 1 ∨ i = 2 ∨ i = 3 ∨ i = 4 ∨ i = 5 ∨ i = 6 ∨ i = 7 ∨ i = 8 ∨ i = 9 by omega) with rfl | rfl | rfl | rfl | rfl | rfl | rfl | rfl | rfl | rfl <;> exact ⟨_, rfl, rfl⟩
        obtain ⟨d, ed, qd⟩ := hx1 i x hi hx'
        have est := numBad_step b2 ed
        obtain ⟨⟨k, w⟩, e1, e2', b, e3', e4'⟩ := Paired.at hk1 b1
        dsimp only at e2' e3'
        subst e2' e3'
        have hpn' : SqT K H' pn (Fa.nums ⟨.str y, x1, x2, x3, x4, x5, x6, x7, x8, x9, x10, x11⟩) := SqT.of (sm _ _ hpn)
        refine ⟨zip_go (by omega) hpn' hx, fun v H3 yv => ?_⟩
        obtain ⟨T1, T2, rfl, t1, t2, sm3⟩ := zip_yld yv e1 hpn' hx
        have e4'' := e4' H3
        have sH : Same H H3 := by walk_at "rl same"
        walk_at "rl wp"
        refine ⟨_, _, _, _, _, rfl, qd.same sH, ?_⟩
        walk_at "rl wp"
        cases hI : inI d lo hi' with
        | true =>
          refine iteF' rfl ?_
          walk_at "rl wp"
          rw [hI, if_pos rfl] at est
          exact ⟨sm.trans sm3, en.trans est, _, _, _, _, rfl⟩
        | false =>
          refine iteT' rfl ?_
          walk_at "rl wp"
          rw [hI, if_neg (by decide)] at est
          rw [en, est] at q
          exact q _ sH
      rintro σ' H' ⟨sm, en, s1, s2, s3, s4, rfl⟩
      have en0 : numBad bnds (ds.drop 1) = none := by rw [en]; rfl
      rw [en0] at q
      have q : ∀ H', Same H H' → Q (oV (usBad (toI d2) (toI d3) (toI d4) (toI d5) (toI d6) d11)) H' := q
      clear en
      have ed : ∀ k : Nat, (ds.drop 1)[k]? = ds[k + 1]? := fun k => by rw [List.getElem?_drop, Nat.add_comm]
      obtain ⟨i2, rfl, _, _⟩ := inI_ex (k1 1 _ d2 en0 rfl ((ed 1).trans e2))
      obtain ⟨i3, rfl, z0, z1⟩ := inI_ex (k1 2 _ d3 en0 rfl ((ed 2).trans e3))
      obtain ⟨i4, rfl, _, _⟩ := inI_ex (k1 3 _ d4 en0 rfl ((ed 3).trans e4))
      obtain ⟨i5, rfl, l0, l1⟩ := inI_ex (k1 4 _ d5 en0 rfl ((ed 4).trans e5))
      obtain ⟨i6, rfl, l2, l3⟩ := inI_ex (k1 5 _ d6 en0 rfl ((ed 5).trans e6))
      clear k1 ed
      cases q2
      cases q3
      cases q4
      cases q5
      cases q6
      have z0' : 0 ≤ i3 := z0
      have z1' : i3 ≤ 32 := z1
      have hq' : Same H H' := by walk_at "rl same"
      have ha2 := hq' _ _ ha
      have uf : ∀ {g : Nat → Ends}, True := fun {_} => trivial
      refine ⟨zip_stop (by omega) (SqT.of (sm _ _ hpn)) (Nat.le_refl _), ?_⟩
      have q12 : (∃ pu us es, x11 = .ref pu ∧ d11 = .tuple es ∧ SqT K H pu us ∧ DqAll H B us es) ∨ (Dq H B x11 d11 ∧ ∀ es, d11 ≠ .tuple es) := by
        rcases q11 with q11 | ⟨p, e, e2, hu⟩
        · cases q11 with
          | tup te tn th => exact .inl ⟨_, _, _, rfl, rfl, SqT.of te, th⟩
          | lst te tn th => exact .inr ⟨.lst te tn th, fun _ z => nomatch z⟩
          | dk0 te tn => exact .inr ⟨.dk0 te tn, fun _ z => nomatch z⟩
          | dk1 te tn => exact .inr ⟨.dk1 te tn, fun _ z => nomatch z⟩
          | non => exact .inr ⟨.non, fun _ z => nomatch z⟩
          | bl b => exact .inr ⟨.bl b, fun _ z => nomatch z⟩
          | int b => exact .inr ⟨.int b, fun _ z => nomatch z⟩
          | str b => exact .inr ⟨.str b, fun _ z => nomatch z⟩
        · exact .inl ⟨p, [], [], e, e2, hu, .nil⟩
      clear q11
      rcases q12 with ⟨pu, us, es, rfl, rfl, hu, hes⟩ | ⟨q11, hnt⟩
      case inl =>
        have hu' : SqT K H' pu us := Same.sqT hq' hu
        have q : ∀ H', Same H H' → Q (oV (if (decide (es.length ≤ 256) && es.all fun d => inI d 0 4294967295) = true then lastBad i2 i3 i4 i5 i6 es.length else some ("usages" : Str))) H' := q
        walk_at "rl wi"
        rw [hes.len]
        refine ite_dec (fun c => ?_) (fun c => ?_)
        · rw [decide_eq_false (by omega), Bool.false_and] at q
          walk_at "rl wi"
          exact q _ hq'
        rw [decide_eq_true (by omega), Bool.true_and] at q
        walk_at "rl wp"
        refine w_lcSL (fun L i acc H2 => Same H' H2 ∧ acc = (es.take i).map fun d => V.bl (inI d 0 4294967295)) (fun L i acc H2 ⟨sm, _⟩ => seqT (Same.sqT sm hu')) (fun L n => ⟨same_upd n, rfl⟩) ?_ ?_
        · rintro L i acc x H7 nL hx eL hacc ⟨sm7, rfl⟩
          obtain ⟨dd, hdd, hx2⟩ := hes.at hx
          have hi2 : i < es.length := (List.getElem?_eq_some_iff.mp hdd).1
          have hx3 := hx2.same (hq'.trans sm7)
          walk_at "rl wp"
          refine ⟨rfl, ?_⟩
          dsimp only [wipe, List.map, List.foldl, List.set]
          walk_at "rl wi"
          refine ⟨_, _, _, rfl, hx3, lc_put (n := es.length) eL hacc hi2 (by omega) ⟨Same.updN nL sm7, take_step (f := fun d => V.bl (inI d 0 4294967295)) hdd⟩⟩
        rintro L acc H7 nL eL ⟨sm7, rfl⟩
        have ha7 := sm7 _ _ ha2
        have sH7 : Same H H7 := hq'.trans sm7
        have elt : es.take us.length = es := by rw [hes.len]; exact List.take_length
        rw [elt] at eL
        walk_at "rl wp"
        refine w_all (bs := es.map fun d => inI d 0 4294967295) (by rw [List.map_map]; exact SqL.of eL) ?_
        rw [show (es.map fun d => inI d 0 4294967295).all id = es.all fun d => inI d 0 4294967295 from by rw [List.all_map]; rfl]
        cases hall : es.all fun d => inI d 0 4294967295 with
        | false =>
          rw [hall] at q
          walk_at "rl wi"
          exact q _ sH7
        | true =>
        rw [hall, if_pos rfl] at q
        obtain ⟨is, rfl, rfl⟩ := ints_of hes hall
        have hu7 : SqT K H7 pu (is.map V.int) := Same.sqT sH7 hu
        unfold lastBad at q
        walk_at "rl wi"
        by_cases c1 : Builtin.bitAnd i2 1 = 0
        · rw [if_neg (fun z => z c1)] at q
          refine iteF' (by rw [c1]; rfl) ?_
          walk_at "rl wp"
          refine ⟨_, _, _, rfl, z0', z1', ?_⟩
          cases hb : badRange i5 i6 i3 with
          | some nm =>
            rw [hb] at q
            walk_at "rl wi"
            exact q _ sH7
          | none =>
            rw [hb] at q
            walk_at "rl wi"
            refine ⟨_, _, _, _, _, _, rfl, hu7, dpI is, layI is, depI is, fun H8 sm8 => ?_⟩
            rw [show (is.map V.int).length = (is.map PyData.int).length from by rw [List.length_map, List.length_map]]
            cases hau : areUs (is.map PyData.int).length i2 i4 (i6 - i5 + 1) with
            | true =>
              rw [hau] at q
              walk_at "rl wi"
              exact q _ (sH7.trans sm8)
            | false =>
              rw [hau] at q
              walk_at "rl wi"
              exact q _ (sH7.trans sm8)
        · rw [if_pos c1] at q
          refine iteT' (by simpa using c1) ?_
          walk_at "rl wi"
          refine ⟨_, _, _, _, _, _, rfl, hu7, dpI is, layI is, depI is, fun H8 sm8 => ?_⟩
          rw [show (is.map V.int).length = (is.map PyData.int).length from by rw [List.length_map, List.length_map]]
          cases hau : areUs (is.map PyData.int).length i2 i4 (i6 - i5 + 1) with
          | true =>
            rw [hau] at q
            walk_at "rl wi"
            exact q _ (sH7.trans sm8)
          | false =>
            rw [hau] at q
            walk_at "rl wi"
            exact q _ (sH7.trans sm8)
      case inr =>
        cases q11 with
        | tup e nb hes => exact absurd rfl (hnt _)
        | lst e nb hes => have e' := hq' _ _ e; walk_at "rl wi"; exact q _ hq'
        | dk0 e nb => have e' := hq' _ _ e; walk_at "rl wi"; exact q _ hq'
        | dk1 e nb => have e' := hq' _ _ e; walk_at "rl wi"; exact q _ hq'
        | _ => walk_at "rl wi"; exact q _ hq'
    | _ => rw [er rfl] at q; walk_at "rl wi"; exact q _ (Same.refl _)
end T61
end
section
set_option Elab.async false
set_option linter.all false
set_option maxRecDepth 100000
set_option maxHeartbeats 1000000
namespace T61
open PySem PySem.Spec PyProof.Rows L2 L2.RL
local macro_rules | `(tactic| walk_at "rl ty") => `(tactic| first
  | assumption
  | exact .base (.int _)
  | exact .base (.str _)
  | exact .base .non
  | exact .base (.bl _)
  | exact ty_sqT (by walk_at "rl hp")
  | exact ty_sqL (by walk_at "rl hp")
  | exact .base (.tup (by walk_at "rl hp"))
  | exact .base (.lst (by walk_at "rl hp"))
  | exact .base (.dK (by walk_at "rl hp")))
local macro_rules | `(tactic| walk_at "rl if") => `(tactic| first
  | with_reducible refine iteT' rfl ?_
  | with_reducible refine iteF' rfl ?_
  | (refine iteT' rfl ?_)
  | (refine iteF' rfl ?_))
local macro_rules | `(tactic| walk_at "rl side") => `(tactic| first | assumption | omega | (constructor <;> omega) | decide)
local macro_rules | `(tactic| walk_at "rl ne") => `(tactic| first
  | assumption
  | exact Ne.symm (by assumption)
  | walk_at "rl ne2"
  | exact ne_of (by assumption) (by walk_at "rl hq") (by intro z; cases z)
  | exact (ne_of (by assumption) (by walk_at "rl hq") (by intro z; cases z)).symm)
local macro_rules | `(tactic| walk_at "rl hq") => `(tactic| first
  | assumption
  | exact upd_same
  | (refine' upd_at ?rlne ?rlhq; (case rlne => walk_at "rl ne"); (case rlhq => walk_at "rl hq"))
  | (refine' Same.at ?rlsa ?rlhq; (case rlsa => assumption); (case rlhq => walk_at "rl hq"))
  | (refine' But.at ?rlbu ?rlne ?rlhq; (case rlbu => assumption); (case rlne => walk_at "rl ne"); (case rlhq => walk_at "rl hq")))
local macro_rules | `(tactic| walk_at "rl hp") => `(tactic| first
  | assumption
  | (refine' SqL.of ?rlhq; (case rlhq => walk_at "rl hq"))
  | (refine' SqT.of ?rlhq; (case rlhq => walk_at "rl hq"))
  | (refine' Same.seq ?rlsa ?rlhp; (case rlsa => assumption); (case rlhp => walk_at "rl hp"))
  | (refine' Same.sqT ?rlsa ?rlhp; (case rlsa => assumption); (case rlhp => walk_at "rl hp"))
  | walk_at "rl hp2"
  | walk_at "rl hq")
local macro_rules | `(tactic| walk_at "rl w1") => `(tactic| first
  | with_reducible refine w_seq ?_
  | ((with_reducible refine' w_var ?rlv ?_); (case rlv => exact rfl))
  | with_reducible refine w_c ?_
  | with_reducible refine w_op ?_
  | with_reducible refine w_I0 ?_
  | with_reducible refine w_asg ?_
  | ((with_reducible refine' w_gName ?_); dsimp only [List.set])
  | ((with_reducible refine' w_nxD ?rle ?_); (case rle => exact rfl))
  | ((with_reducible refine' w_rtD ?rle ?_); (case rle => exact rfl))
  | with_reducible refine w_next ?_
  | with_reducible refine w_ret ?_
  | with_reducible refine w_cons ?_
  | with_reducible refine w_nil ?_
  | with_reducible refine w_ifS ?_
  | with_reducible refine w_test ?_
  | with_reducible refine w_B ?_
  | with_reducible refine w_bl ?_
  | with_reducible refine w_bl1 ?_
  | with_reducible refine w_blR ?_
  | with_reducible refine w_eqI ?_
  | with_reducible refine w_neI ?_
  | with_reducible refine w_eqS ?_
  | with_reducible refine w_neS ?_
  | with_reducible refine w_eqB ?_
  | with_reducible refine w_neB ?_
  | with_reducible refine w_and ?_
  | with_reducible refine w_or ?_
  | with_reducible refine w_not ?_
  | with_reducible refine w_andV ?_
  | with_reducible refine w_orV ?_
  | with_reducible refine w_notV ?_
  | with_reducible refine w_if ?_
  | with_reducible refine w_chain ?_
  | with_reducible refine w_un ?_
  | with_reducible refine w_U ?_
  | ((with_reducible refine' w_I ?rlc ?_); (case rlc => walk_at "rl side"))
  | with_reducible refine w_drop ?_
  | with_reducible refine w_retN ?_
  | with_reducible refine w_par ?_
  | ((with_reducible refine' w_par2 ?_); dsimp only [List.set])
  | ((with_reducible refine' w_aug ?rla ?_); (case rla => exact rfl))
  | with_reducible refine w_ipI ?_
  | with_reducible refine w_break ?_
  | with_reducible refine w_cont ?_
  | ((with_reducible refine' w_bkD ?rle ?_); (case rle => exact rfl))
  | ((with_reducible refine' w_ctD ?rle ?_); (case rle => exact rfl))
  | with_reducible refine w_tup ?_
  | with_reducible refine w_lst ?_
  | ((with_reducible refine' w_newO ?rln ?_); (case rln => exact Nat.le_of_ble_eq_true rfl); intro _ _ _ _ _)
  | ((with_reducible refine' w_new ?rln ?_); (case rln => exact Nat.le_of_ble_eq_true rfl))
  | ((with_reducible refine' w_mk ?_); intro _ _ _ _ _)
  | ((with_reducible refine' w_gTup ?rls ?rll ?_); (case rls => walk_at "rl hp"); (case rll => exact rfl))
  | with_reducible refine w_gCons ?_
  | with_reducible refine w_gNil ?_
  | with_reducible refine w_gSub ?_
  | ((with_reducible refine' w_setL ?rls ?rlj ?_); (case rls => walk_at "rl hp"); (case rlj => exact rfl))
  | ((with_reducible refine' w_ixL ?rls ?rli ?_); (case rls => walk_at "rl hp"); (case rli => exact rfl))
  | ((with_reducible refine' w_ixT ?rls ?rli ?_); (case rls => walk_at "rl hp"); (case rli => exact rfl))
  | with_reducible refine w_call ?_
  | with_reducible refine w_trI ?_
  | with_reducible refine w_yes ?_
  | with_reducible refine w_trB ?_
  | with_reducible refine w_trN ?_
  | with_reducible refine w_cb ?_
  | with_reducible refine w_fld ?_
  | ((with_reducible refine' w_fld1 ?rlo ?rlc ?rln ?rll ?_); (case rlo => walk_at "rl hp"); (case rlc => assumption); (case rln => assumption); (case rll => exact rfl))
  | with_reducible refine w_isiO ?_
  | with_reducible refine w_isiT ?_
  | ((with_reducible refine' w_isi (r := true) ?rlt ?rlk ?_); (case rlt => walk_at "rl ty"); (case rlk => exact rfl))
  | ((with_reducible refine' w_isi (r := false) ?rlt ?rlk ?_); (case rlt => walk_at "rl ty"); (case rlk => exact rfl))
  | ((with_reducible refine' w_isi2 (r := true) ?rlT ?rlt ?rlk ?_); (case rlT => walk_at "rl hp"); (case rlt => walk_at "rl ty"); (case rlk => exact rfl))
  | ((with_reducible refine' w_isi2 (r := false) ?rlT ?rlt ?rlk ?_); (case rlT => walk_at "rl hp"); (case rlt => walk_at "rl ty"); (case rlk => exact rfl))
  | with_reducible refine w_sFld ?_
  | with_reducible refine w_itemsK ?_
  | ((with_reducible refine' w_catT ?rlha ?rlhb ?rln1 ?rln2 ?rlhl ?_); (case rlha => walk_at "rl hp"); (case rlhb => walk_at "rl hp"); (case rln1 => exact (fun z => nomatch z)); (case rln2 => exact (fun z => nomatch z)); (case rlhl => exact Nat.le_trans (Nat.le_of_ble_eq_true rfl) (show 100000 ≤ sizeLine by decide)))
  | ((with_reducible refine' w_newE ?_); intro _ _ _ _ _)
  | with_reducible refine w_makeK ?_
  | ((with_reducible refine' w_sFld1 ?rlc ?rln ?rll ?rle ?_); (case rlc => assumption); (case rln => assumption); (case rll => exact Nat.lt_of_lt_of_le (Nat.lt_succ_self _) (Nat.le_of_ble_eq_true rfl)); (case rle => exact rfl))
  | ((with_reducible refine' w_sFld0 ?rlx ?rlc ?rln ?rll ?rle ?_); (case rlx => walk_at "rl hq"); (case rlc => assumption); (case rln => assumption); (case rll => exact Nat.lt_of_lt_of_le (Nat.lt_succ_self _) (Nat.le_of_ble_eq_true rfl)); (case rle => exact rfl))
  | with_reducible refine w_rflA ?_
  | with_reducible refine w_for ?_
  | with_reducible refine w_iList ?_
  | with_reducible refine w_iTup ?_
  | ((with_reducible refine' w_overL ?rls ?_); (case rls => walk_at "rl hp"))
  | ((with_reducible refine' w_overT ?rls ?_); (case rls => walk_at "rl hp"))
  | with_reducible refine w_rng1 ?_
  | ((with_reducible refine' w_rng1a ?rl1 ?rl2 ?_); (case rl1 => omega); (case rl2 => omega))
  | with_reducible refine w_rng2 ?_
  | ((with_reducible refine' w_rng2a ?rl1 ?_); (case rl1 => omega))
  | with_reducible refine w_zip2 ?_
  | with_reducible refine w_lc ?_
  | with_reducible refine w_enS ?_
  | with_reducible refine w_callSD ?_
  | with_reducible refine w_xf ?_
  | ((with_reducible refine' w_dnew ?_); intro _ _ _ _ _)
  | ((with_reducible refine' w_disp1 ?_); intro _ _ _ _ _)
  | with_reducible refine w_bm ?_
  | ((with_reducible refine' w_tyL ?rls ?_); (case rls => walk_at "rl hp"))
  | ((with_reducible refine' w_append ?rls ?rll ?_); (case rls => walk_at "rl hq"); (case rll => exact Nat.lt_of_lt_of_le (Nat.lt_succ_self _) (Nat.le_of_ble_eq_true rfl)))
  | ((with_reducible refine' w_cat ?rls ?rlt ?rll ?_); (case rls => walk_at "rl hq"); (case rlt => walk_at "rl hq"); (case rll => exact Nat.le_of_ble_eq_true rfl); intro _ _ _ _ _)
  | with_reducible refine w_int1 ?_
  | ((with_reducible refine w_intb ?_); (try dsimp only))
  | with_reducible refine w_one ?_
  | with_reducible refine w_two ?_
  | ((with_reducible refine' w_lenL ?rls ?_); (case rls => walk_at "rl hp"))
  | ((with_reducible refine' w_lenT ?rls ?_); (case rls => walk_at "rl hp"))
  | with_reducible refine w_meth ?_
  | ((with_reducible refine' w_meth1 ?rlo ?rll ?_); (case rlo => walk_at "rl hp"); (case rll => exact rfl)))
local macro_rules | `(tactic| walk_at "rl wp") => `(tactic| (repeat walk_at "rl w1"))
local macro_rules | `(tactic| walk_at "rl but") => `(tactic| first
  | assumption
  | exact But.refl _ _
  | exact But.upd
  | exact But.of_same (by assumption)
  | (refine But.trans ?_ (But.of_same (by assumption)); walk_at "rl but")
  | (refine But.trans ?_ (by assumption : But _ _ _); walk_at "rl but")
  | (refine But.trans ?_ But.upd; walk_at "rl but"))
local macro_rules | `(tactic| walk_at "rl same") => `(tactic| first
  | assumption
  | exact Same.refl _
  | (refine Same.trans ?_ (by assumption : Same _ _); walk_at "rl same"))

local macro_rules | `(tactic| walk_at "rl wi") => `(tactic| (repeat (first
  | walk_at "rl w1"
  | ((with_reducible refine' iteF' ?rlif ?_); (case rlif => exact rfl))
  | ((with_reducible refine' iteT' ?rlif ?_); (case rlif => exact rfl)))))
local macro_rules | `(tactic| walk_at "rl ty") => `(tactic| exact .base (.dK (by assumption)))
local macro_rules | `(tactic| walk_at "rl ty") => `(tactic| exact .base (.lst (by assumption)))
local macro_rules | `(tactic| walk_at "rl ty") => `(tactic| exact .base (.tup (by assumption)))
local macro_rules | `(tactic| walk_at "rl w1") => `(tactic| first
  | with_reducible refine w_par3 ?_
  | ((with_reducible refine' w_par3a ?_); dsimp only [List.set])
  | with_reducible refine w_dget ?_
  | ((with_reducible refine' w_dgetS ?rls ?rlv ?_); (case rls => walk_at "rl hq"); (case rlv => exact rfl))
  | ((with_reducible refine' w_dgetI ?rls ?rlv ?_); (case rls => walk_at "rl hq"); (case rlv => exact rfl))
  | with_reducible refine w_dget2 ?_
  | ((with_reducible refine' w_isD ?rls ?_); (case rls => walk_at "rl hq"))
  | ((with_reducible refine' w_dget2S ?rls ?_); (case rls => walk_at "rl hq"))
  | ((with_reducible refine' w_dget2I ?rls ?_); (case rls => walk_at "rl hq"))
  | ((with_reducible refine' w_setDS ?rls ?rll ?rlm ?_); (case rls => walk_at "rl hq"); (case rll => exact Nat.lt_of_lt_of_le (Nat.lt_succ_self _) (Nat.le_of_ble_eq_true rfl)); (case rlm => exact rfl))
  | ((with_reducible refine' w_tyD ?rls ?_); (case rls => walk_at "rl hq"))
  | with_reducible refine w_jNil ?_
  | with_reducible refine w_jCons ?_
  | with_reducible refine w_prop ?_
  | with_reducible refine w_makeKS ?_
  | with_reducible refine w_pNil ?_
  | with_reducible refine w_pCons ?_
  | ((with_reducible refine' w_dispN ?_); intro _ _ _ _ _))

theorem w_fmt {σ : L2.St} {H : Hp} {Q : VK} {te : TE} (h : te σ H fun x H1 => (∃ y : Str, x = .str y ∧ y.length ≤ sizeLine ∧ Q (.str y) H1) ∨ ∃ i : Int, x = .int i ∧ i.natAbs.log2 < 1920 ∧ Q (.str (toString i)) H1) : tFmt te σ H Q := h
def nameFit (s : Str) : Bool := decide (s.length ≤ 100) && decide ((Str.empty ++ "bad argument: " ++ s : Str).length ≤ 100)
def spErrS (C : Addr) (f : Str) : Sp := fun vs H Q _ => ∃ (a : Addr) (s : Str), vs = [.ref a, .str s] ∧ nameFit s = true ∧ H a = some (exo a C none) ∧ ∀ dx H', H dx = none → dx ≠ a → H' = upd (upd H dx (exd dx [(f, .str s)])) a (exo a C (some dx)) → Q .non H'
theorem w_mkS {σ : L2.St} {H : Hp} {C : Addr} {f : Str} {ta : TA} {E : XK} (h : ta σ H fun vs H1 => ∃ s, vs = [.str s] ∧ nameFit s = true ∧ ∀ d H', H1 d = none → Same H1 H' → H' d = some (.xd [(f, .str s)]) → E (.ref C) (some d) H') (mono : ∀ {R1 R2 : List V → Hp → Prop}, ta σ H R1 → (∀ vs H1, R1 vs H1 → R2 vs H1) → ta σ H R2) : tMkO C (spErrS C f) [] ta σ H E := by
  refine mono h fun vs H1 ⟨x, e, hn, q⟩ => ?_
  subst e
  refine ⟨Nat.le_of_ble_eq_true rfl, fun a na => ⟨a, x, rfl, hn, upd_same, fun dx H' n1 n2 e => ?_⟩⟩
  subst e
  have nd : H1 dx = none := by rw [upd_ne n2] at n1; exact n1
  refine ⟨rfl, dx, [(f, .str x)], upd_same, by rw [upd_ne n2, upd_same], nd, q dx _ nd (fun b o g => ?_) upd_same⟩
  have b1 : b ≠ dx := ne_of_none g nd
  have b2 : b ≠ a := ne_of_none g na
  rw [upd_ne b1, del_ne b2, upd_ne b2, upd_ne b1, upd_ne b2]
  exact g
theorem numBad_fit : ∀ {bs : List (Str × Int × Int)} {ds : List PyData} {s : Str}, (∀ b ∈ bs, nameFit b.1 = true) → numBad bs ds = some s → nameFit s = true
  | [], _, _, _, h => by simp [numBad] at h
  | _ :: _, [], _, _, h => by simp [numBad] at h
  | b0 :: bs, d0 :: ds, s, hb, h => by
    have h' : (if inI d0 b0.2.1 b0.2.2 = true then numBad bs ds else some b0.1) = some s := h
    by_cases c : inI d0 b0.2.1 b0.2.2 = true
    · rw [if_pos c] at h'
      exact numBad_fit (fun b m => hb b (List.mem_cons_of_mem _ m)) h'
    · rw [if_neg c] at h'
      cases h'
      exact hb _ (List.mem_cons_self ..)
theorem range_fit {lo hi n : Int} {s : Str} (h : badRange lo hi n = some s) : nameFit s = true := by
  unfold badRange at h
  split at h
  · split at h
    · cases h
    · cases h
      decide +kernel
  · cases h
    decide +kernel
theorem us_fit {f z m lo hi : Int} {d : PyData} {s : Str} (h : usBad f z m lo hi d = some s) : nameFit s = true := by
  have hu : nameFit "usages" = true := by decide +kernel
  unfold usBad at h
  split at h
  · split at h
    · unfold lastBad at h
      split at h
      · rename_i e
        cases h
        split at e
        · cases e
        · exact range_fit e
      · split at h
        · cases h
        · cases h
          exact hu
    · cases h
      exact hu
  · cases h
    exact hu
theorem badName_fit {ds : List PyData} {s : Str} (h : badName ds = some s) : nameFit s = true := by
  unfold badName at h
  split at h
  · split at h
    · rename_i e
      cases h
      exact numBad_fit (by decide +kernel) e
    · exact us_fit h
  · cases h
    decide +kernel
def spIni (K : PySem.W.Frag) : Sp := fun vs H Q E => ∃ (B : Addr → Prop) (x dx : Addr) (v : Fa) (ds : List PyData), vs = .ref x :: v.all ∧ H x = some (.ins (He.ga K "Field") dx []) ∧ (∀ b, B b → b ≠ x) ∧ V12 K H B v ds ∧
  (badName ds = none → ∀ H', But x H H' → FldAt K H' x v → Q .non H') ∧ (∀ s, badName ds = some s → ∀ e H', But x H H' → H e = none → H' e = some (.xd [("name", .str s)]) → E (.ref (He.ga K "BadField")) (some e) H')
theorem V12.upd {K : PySem.W.Frag} {H : Hp} {B : Addr → Prop} {v : Fa} {ds : List PyData} {x C dx : Addr} {fs : List (Str × V)} {o : HO} (hB : ∀ b, B b → b ≠ x) (hx : H x = some (.ins C dx fs)) (h : V12 K H B v ds) : V12 K (L2.upd H x o) B v ds := by
  obtain ⟨h1, d, e, h2⟩ := h
  refine ⟨fun i y hi ey => ?_, d, e, ?_⟩
  · obtain ⟨d, ed, hd⟩ := h1 i y hi ey
    exact ⟨d, ed, Dq.keep (fun a o n e => ⟨(upd_ne (hB a n)).trans e, n⟩) _ _ hd⟩
  · rcases h2 with h2 | ⟨p, a, b, c⟩
    · exact .inl (Dq.keep (fun a o n e => ⟨(upd_ne (hB a n)).trans e, n⟩) _ _ h2)
    · exact .inr ⟨p, a, b, SqT.but But.upd hx c⟩
theorem no_new {x e : Addr} {H H1 : Hp} {o : HO} (b : But x H H1) (hx : H1 x = some o) (n : H1 e = none) : H e = none := by
  cases c : H e with
  | none => rfl
  | some u =>
    by_cases d : e = x
    · rw [d, hx] at n
      cases n
    · rw [b _ _ d c] at n
      cases n
theorem sc_BadField___init__ : FnScope ["self", "name"] ["self", "name"] (defScope ((inClass (top 4) 0))) := ⟨rfl, rfl, rfl, by decide +kernel, rfl, by decide +kernel, by decide +kernel⟩
theorem ok_BadField___init__ {P : Program} {w : World} {K : PySem.W.Frag} {mg : Str → Option Value} {base : Heap} (T : TT K mg)    : Lm P w K mg base CX0 1 "BadField" "__init__" ["self", "name"] [] (spErrS (He.ga K "BadField") "name") := by
  obtain ⟨fd, F⟩ := T.d_BadField___init__
  refine ⟨⟨fd, [], F.ok sc_BadField___init__ (fun vs H Q E h => ?_) (fun cdv A outer s H vs Q E hr h => ?_), FunD.bindsN F (fun _ _ _ _ _ _ us hl => match us, hl with | [_, _], _ => rfl), .nil⟩⟩
  · obtain ⟨a, x, rfl, _⟩ := h
    rfl
  · obtain ⟨a, x, rfl, hf, ha, q⟩ := h
    have hl : x.length ≤ sizeLine := by
      have h1 := of_decide_eq_true (Bool.and_eq_true_iff.mp hf).1
      have h2 : (100 : Nat) ≤ sizeLine := by decide
      omega
    have hj : (Str.empty ++ "bad argument: " ++ x : Str).length ≤ sizeLine := by
      have h1 := of_decide_eq_true (Bool.and_eq_true_iff.mp hf).2
      have h2 : (100 : Nat) ≤ sizeLine := by decide
      omega
    refine ⟨_, PSs.nox ((pss_cons (ps_expr (pe_binit errV rfl (by rfl) T.m_ValueError T.fc_ValueError (pa_cons (pv 0) (pa_cons (pe_joined (.cons pe_str (.cons (pe_fmt (pv 1)) .nil))) pa_nil)))) (pss_one (ps_setB errV (pv 0) (pv 1))))), ?_⟩; rw [start_2_2]; try dsimp only [cxOf]
    walk_at "rl wp"
    refine w_bi ?_
    walk_at "rl wp"
    refine ⟨_, rfl, by decide +kernel, ?_⟩
    walk_at "rl wp"
    refine w_fmt ?_
    walk_at "rl wp"
    refine .inl ⟨x, rfl, hl, x, rfl, hj, ?_⟩
    walk_at "rl wp"
    refine w_bi1 T.ob_BadField (Nat.le_of_ble_eq_true rfl) ha ?_
    walk_at "rl wp"
    refine w_setB ?_
    walk_at "rl wp"
    exact ⟨a, _, rfl, T.ob_BadField, T.xn_BadField_name, .inl ⟨ha, fun dx n1 n2 => q dx _ n1 n2 rfl⟩⟩
end T61
end
section
set_option Elab.async false
set_option linter.all false
set_option maxRecDepth 100000
set_option maxHeartbeats 1000000
namespace T61
open PySem PySem.Spec PyProof.Rows L2 L2.RL
local macro_rules | `(tactic| walk_at "rl ty") => `(tactic| first
  | assumption
  | exact .base (.int _)
  | exact .base (.str _)
  | exact .base .non
  | exact .base (.bl _)
  | exact ty_sqT (by walk_at "rl hp")
  | exact ty_sqL (by walk_at "rl hp")
  | exact .base (.tup (by walk_at "rl hp"))
  | exact .base (.lst (by walk_at "rl hp"))
  | exact .base (.dK (by walk_at "rl hp")))
local macro_rules | `(tactic| walk_at "rl if") => `(tactic| first
  | with_reducible refine iteT' rfl ?_
  | with_reducible refine iteF' rfl ?_
  | (refine iteT' rfl ?_)
  | (refine iteF' rfl ?_))
local macro_rules | `(tactic| walk_at "rl side") => `(tactic| first | assumption | omega | (constructor <;> omega) | decide)
local macro_rules | `(tactic| walk_at "rl ne") => `(tactic| first
  | assumption
  | exact Ne.symm (by assumption)
  | walk_at "rl ne2"
  | exact ne_of (by assumption) (by walk_at "rl hq") (by intro z; cases z)
  | exact (ne_of (by assumption) (by walk_at "rl hq") (by intro z; cases z)).symm)
local macro_rules | `(tactic| walk_at "rl hq") => `(tactic| first
  | assumption
  | exact upd_same
  | (refine' upd_at ?rlne ?rlhq; (case rlne => walk_at "rl ne"); (case rlhq => walk_at "rl hq"))
  | (refine' Same.at ?rlsa ?rlhq; (case rlsa => assumption); (case rlhq => walk_at "rl hq"))
  | (refine' But.at ?rlbu ?rlne ?rlhq; (case rlbu => assumption); (case rlne => walk_at "rl ne"); (case rlhq => walk_at "rl hq")))
local macro_rules | `(tactic| walk_at "rl hp") => `(tactic| first
  | assumption
  | (refine' SqL.of ?rlhq; (case rlhq => walk_at "rl hq"))
  | (refine' SqT.of ?rlhq; (case rlhq => walk_at "rl hq"))
  | (refine' Same.seq ?rlsa ?rlhp; (case rlsa => assumption); (case rlhp => walk_at "rl hp"))
  | (refine' Same.sqT ?rlsa ?rlhp; (case rlsa => assumption); (case rlhp => walk_at "rl hp"))
  | walk_at "rl hp2"
  | walk_at "rl hq")
local macro_rules | `(tactic| walk_at "rl w1") => `(tactic| first
  | with_reducible refine w_seq ?_
  | ((with_reducible refine' w_var ?rlv ?_); (case rlv => exact rfl))
  | with_reducible refine w_c ?_
  | with_reducible refine w_op ?_
  | with_reducible refine w_I0 ?_
  | with_reducible refine w_asg ?_
  | ((with_reducible refine' w_gName ?_); dsimp only [List.set])
  | ((with_reducible refine' w_nxD ?rle ?_); (case rle => exact rfl))
  | ((with_reducible refine' w_rtD ?rle ?_); (case rle => exact rfl))
  | with_reducible refine w_next ?_
  | with_reducible refine w_ret ?_
  | with_reducible refine w_cons ?_
  | with_reducible refine w_nil ?_
  | with_reducible refine w_ifS ?_
  | with_reducible refine w_test ?_
  | with_reducible refine w_B ?_
  | with_reducible refine w_bl ?_
  | with_reducible refine w_bl1 ?_
  | with_reducible refine w_blR ?_
  | with_reducible refine w_eqI ?_
  | with_reducible refine w_neI ?_
  | with_reducible refine w_eqS ?_
  | with_reducible refine w_neS ?_
  | with_reducible refine w_eqB ?_
  | with_reducible refine w_neB ?_
  | with_reducible refine w_and ?_
  | with_reducible refine w_or ?_
  | with_reducible refine w_not ?_
  | with_reducible refine w_andV ?_
  | with_reducible refine w_orV ?_
  | with_reducible refine w_notV ?_
  | with_reducible refine w_if ?_
  | with_reducible refine w_chain ?_
  | with_reducible refine w_un ?_
  | with_reducible refine w_U ?_
  | ((with_reducible refine' w_I ?rlc ?_); (case rlc => walk_at "rl side"))
  | with_reducible refine w_drop ?_
  | with_reducible refine w_retN ?_
  | with_reducible refine w_par ?_
  | ((with_reducible refine' w_par2 ?_); dsimp only [List.set])
  | ((with_reducible refine' w_aug ?rla ?_); (case rla => exact rfl))
  | with_reducible refine w_ipI ?_
  | with_reducible refine w_break ?_
  | with_reducible refine w_cont ?_
  | ((with_reducible refine' w_bkD ?rle ?_); (case rle => exact rfl))
  | ((with_reducible refine' w_ctD ?rle ?_); (case rle => exact rfl))
  | with_reducible refine w_tup ?_
  | with_reducible refine w_lst ?_
  | ((with_reducible refine' w_newO ?rln ?_); (case rln => exact Nat.le_of_ble_eq_true rfl); intro _ _ _ _ _)
  | ((with_reducible refine' w_new ?rln ?_); (case rln => exact Nat.le_of_ble_eq_true rfl))
  | ((with_reducible refine' w_mk ?_); intro _ _ _ _ _)
  | ((with_reducible refine' w_gTup ?rls ?rll ?_); (case rls => walk_at "rl hp"); (case rll => exact rfl))
  | with_reducible refine w_gCons ?_
  | with_reducible refine w_gNil ?_
  | with_reducible refine w_gSub ?_
  | ((with_reducible refine' w_setL ?rls ?rlj ?_); (case rls => walk_at "rl hp"); (case rlj => exact rfl))
  | ((with_reducible refine' w_ixL ?rls ?rli ?_); (case rls => walk_at "rl hp"); (case rli => exact rfl))
  | ((with_reducible refine' w_ixT ?rls ?rli ?_); (case rls => walk_at "rl hp"); (case rli => exact rfl))
  | with_reducible refine w_call ?_
  | with_reducible refine w_trI ?_
  | with_reducible refine w_yes ?_
  | with_reducible refine w_trB ?_
  | with_reducible refine w_trN ?_
  | with_reducible refine w_cb ?_
  | with_reducible refine w_fld ?_
  | ((with_reducible refine' w_fld1 ?rlo ?rlc ?rln ?rll ?_); (case rlo => walk_at "rl hp"); (case rlc => assumption); (case rln => assumption); (case rll => exact rfl))
  | with_reducible refine w_isiO ?_
  | with_reducible refine w_isiT ?_
  | ((with_reducible refine' w_isi (r := true) ?rlt ?rlk ?_); (case rlt => walk_at "rl ty"); (case rlk => exact rfl))
  | ((with_reducible refine' w_isi (r := false) ?rlt ?rlk ?_); (case rlt => walk_at "rl ty"); (case rlk => exact rfl))
  | ((with_reducible refine' w_isi2 (r := true) ?rlT ?rlt ?rlk ?_); (case rlT => walk_at "rl hp"); (case rlt => walk_at "rl ty"); (case rlk => exact rfl))
  | ((with_reducible refine' w_isi2 (r := false) ?rlT ?rlt ?rlk ?_); (case rlT => walk_at "rl hp"); (case rlt => walk_at "rl ty"); (case rlk => exact rfl))
  | with_reducible refine w_sFld ?_
  | with_reducible refine w_itemsK ?_
  | ((with_reducible refine' w_catT ?rlha ?rlhb ?rln1 ?rln2 ?rlhl ?_); (case rlha => walk_at "rl hp"); (case rlhb => walk_at "rl hp"); (case rln1 => exact (fun z => nomatch z)); (case rln2 => exact (fun z => nomatch z)); (case rlhl => exact Nat.le_trans (Nat.le_of_ble_eq_true rfl) (show 100000 ≤ sizeLine by decide)))
  | ((with_reducible refine' w_newE ?_); intro _ _ _ _ _)
  | with_reducible refine w_makeK ?_
  | ((with_reducible refine' w_sFld1 ?rlc ?rln ?rll ?rle ?_); (case rlc => assumption); (case rln => assumption); (case rll => exact Nat.lt_of_lt_of_le (Nat.lt_succ_self _) (Nat.le_of_ble_eq_true rfl)); (case rle => exact rfl))
  | ((with_reducible refine' w_sFld0 ?rlx ?rlc ?rln ?rll ?rle ?_); (case rlx => walk_at "rl hq"); (case rlc => assumption); (case rln => assumption); (case rll => exact Nat.lt_of_lt_of_le (Nat.lt_succ_self _) (Nat.le_of_ble_eq_true rfl)); (case rle => exact rfl))
  | with_reducible refine w_rflA ?_
  | with_reducible refine w_for ?_
  | with_reducible refine w_iList ?_
  | with_reducible refine w_iTup ?_
  | ((with_reducible refine' w_overL ?rls ?_); (case rls => walk_at "rl hp"))
  | ((with_reducible refine' w_overT ?rls ?_); (case rls => walk_at "rl hp"))
  | with_reducible refine w_rng1 ?_
  | ((with_reducible refine' w_rng1a ?rl1 ?rl2 ?_); (case rl1 => omega); (case rl2 => omega))
  | with_reducible refine w_rng2 ?_
  | ((with_reducible refine' w_rng2a ?rl1 ?_); (case rl1 => omega))
  | with_reducible refine w_zip2 ?_
  | with_reducible refine w_lc ?_
  | with_reducible refine w_enS ?_
  | with_reducible refine w_callSD ?_
  | with_reducible refine w_xf ?_
  | ((with_reducible refine' w_dnew ?_); intro _ _ _ _ _)
  | ((with_reducible refine' w_disp1 ?_); intro _ _ _ _ _)
  | with_reducible refine w_bm ?_
  | ((with_reducible refine' w_tyL ?rls ?_); (case rls => walk_at "rl hp"))
  | ((with_reducible refine' w_append ?rls ?rll ?_); (case rls => walk_at "rl hq"); (case rll => exact Nat.lt_of_lt_of_le (Nat.lt_succ_self _) (Nat.le_of_ble_eq_true rfl)))
  | ((with_reducible refine' w_cat ?rls ?rlt ?rll ?_); (case rls => walk_at "rl hq"); (case rlt => walk_at "rl hq"); (case rll => exact Nat.le_of_ble_eq_true rfl); intro _ _ _ _ _)
  | with_reducible refine w_int1 ?_
  | ((with_reducible refine w_intb ?_); (try dsimp only))
  | with_reducible refine w_one ?_
  | with_reducible refine w_two ?_
  | ((with_reducible refine' w_lenL ?rls ?_); (case rls => walk_at "rl hp"))
  | ((with_reducible refine' w_lenT ?rls ?_); (case rls => walk_at "rl hp"))
  | with_reducible refine w_meth ?_
  | ((with_reducible refine' w_meth1 ?rlo ?rll ?_); (case rlo => walk_at "rl hp"); (case rll => exact rfl)))
local macro_rules | `(tactic| walk_at "rl wp") => `(tactic| (repeat walk_at "rl w1"))
local macro_rules | `(tactic| walk_at "rl but") => `(tactic| first
  | assumption
  | exact But.refl _ _
  | exact But.upd
  | exact But.of_same (by assumption)
  | (refine But.trans ?_ (But.of_same (by assumption)); walk_at "rl but")
  | (refine But.trans ?_ (by assumption : But _ _ _); walk_at "rl but")
  | (refine But.trans ?_ But.upd; walk_at "rl but"))
local macro_rules | `(tactic| walk_at "rl same") => `(tactic| first
  | assumption
  | exact Same.refl _
  | (refine Same.trans ?_ (by assumption : Same _ _); walk_at "rl same"))

local macro_rules | `(tactic| walk_at "rl wi") => `(tactic| (repeat (first
  | walk_at "rl w1"
  | ((with_reducible refine' iteF' ?rlif ?_); (case rlif => exact rfl))
  | ((with_reducible refine' iteT' ?rlif ?_); (case rlif => exact rfl)))))
local macro_rules | `(tactic| walk_at "rl ty") => `(tactic| exact .base (.dK (by assumption)))
local macro_rules | `(tactic| walk_at "rl ty") => `(tactic| exact .base (.lst (by assumption)))
local macro_rules | `(tactic| walk_at "rl ty") => `(tactic| exact .base (.tup (by assumption)))
local macro_rules | `(tactic| walk_at "rl w1") => `(tactic| first
  | with_reducible refine w_par3 ?_
  | ((with_reducible refine' w_par3a ?_); dsimp only [List.set])
  | with_reducible refine w_dget ?_
  | ((with_reducible refine' w_dgetS ?rls ?rlv ?_); (case rls => walk_at "rl hq"); (case rlv => exact rfl))
  | ((with_reducible refine' w_dgetI ?rls ?rlv ?_); (case rls => walk_at "rl hq"); (case rlv => exact rfl))
  | with_reducible refine w_dget2 ?_
  | ((with_reducible refine' w_isD ?rls ?_); (case rls => walk_at "rl hq"))
  | ((with_reducible refine' w_dget2S ?rls ?_); (case rls => walk_at "rl hq"))
  | ((with_reducible refine' w_dget2I ?rls ?_); (case rls => walk_at "rl hq"))
  | ((with_reducible refine' w_setDS ?rls ?rll ?rlm ?_); (case rls => walk_at "rl hq"); (case rll => exact Nat.lt_of_lt_of_le (Nat.lt_succ_self _) (Nat.le_of_ble_eq_true rfl)); (case rlm => exact rfl))
  | ((with_reducible refine' w_tyD ?rls ?_); (case rls => walk_at "rl hq"))
  | with_reducible refine w_jNil ?_
  | with_reducible refine w_jCons ?_
  | with_reducible refine w_prop ?_
  | with_reducible refine w_makeKS ?_
  | with_reducible refine w_pNil ?_
  | with_reducible refine w_pCons ?_
  | ((with_reducible refine' w_dispN ?_); intro _ _ _ _ _))

structure Li (P : Program) (w : World) (K : PySem.W.Frag) (mg : Str → Option Value) (base : Heap) (CX : CXT) (k : Nat) (sp : Sp) : Prop where
  ex : ∃ fd, FnOk P w K mg base CX k (He.ma K (He.ga K "Field") "__init__") fd initP sp ∧ FunD K "__init__" "Field.__init__" (defArgs (inClass (top 59) 0)) (defBody (inClass (top 59) 0)) (defScope (inClass (top 59) 0)) [] (([("number", .int 0), ("flags", .int 2), ("size", .int 8), ("amount", .int 1), ("low", .int 0), ("high", .int 255), ("plow", .int 0), ("phigh", .int 0), ("exponent", .int 0), ("unit", .int 0), ("usages", .adr (kdfAt ("Field", some "__init__") "usages"))] : List (Str × He.Dv)).map fun q => (q.1, q.2.v K)) (He.ma K (He.ga K "Field") "__init__") fd
theorem passF {P : Program} {w : World} {X : Cx} : Passes (L2.CX P w) X (fun _ _ _ => False) := fun _ _ _ _ _ _ _ h => by
  obtain ⟨a, B, H', cls, d, z1, fl, z2, ub, z3, z4, z5, z6⟩ := h
  exact z6.elim
theorem sc_Field___init__ : FnScope ["self", "role", "number", "flags", "size", "amount", "low", "high", "plow", "phigh", "exponent", "unit", "usages", "bad"] ["self", "role", "number", "flags", "size", "amount", "low", "high", "plow", "phigh", "exponent", "unit", "usages"] (defScope ((inClass (top 59) 0))) := ⟨rfl, rfl, rfl, by decide +kernel, rfl, by decide +kernel, by decide +kernel⟩
theorem ok_Field___init__ {P : Program} {w : World} {K : PySem.W.Frag} {mg : Str → Option Value} {base : Heap} (T : TT K mg) (D_Field_bad_name : Lm P w K mg base CX0 3 "Field" "bad_name" ["self"] [] (spBadName K)) (D_BadField___init__ : Lm P w K mg base CX0 1 "BadField" "__init__" ["self", "name"] [] (spErrS (He.ga K "BadField") "name"))   : Li P w K mg base (L2.CX P w) 4 (spIni K) := by
  obtain ⟨⟨fd_Field_bad_name, ds_Field_bad_name, F_Field_bad_name, b_Field_bad_name, v_Field_bad_name⟩⟩ := D_Field_bad_name
  obtain ⟨⟨fd_BadField___init__, ds_BadField___init__, F_BadField___init__, b_BadField___init__, v_BadField___init__⟩⟩ := D_BadField___init__
  obtain ⟨fd, F⟩ := T.d_Field___init__
  refine ⟨⟨fd, F.ok sc_Field___init__ (fun vs H Q E h => ?_) (fun cdv A outer s H vs Q E hr h => ?_), F⟩⟩
  · obtain ⟨B, x, dx, v, ds, rfl, _⟩ := h
    rfl
  · obtain ⟨B, x, dx, v, ds, rfl, hx, hB, hd, q1, q2⟩ := h
    have c_F := T.c_Field
    have n_role := T.n_Field_role
    have n_number := T.n_Field_number
    have n_flags := T.n_Field_flags
    have n_size := T.n_Field_size
    have n_amount := T.n_Field_amount
    have n_low := T.n_Field_low
    have n_high := T.n_Field_high
    have n_plow := T.n_Field_plow
    have n_phigh := T.n_Field_phigh
    have n_exponent := T.n_Field_exponent
    have n_unit := T.n_Field_unit
    have n_usages := T.n_Field_usages
    obtain ⟨x0, x1, x2, x3, x4, x5, x6, x7, x8, x9, x10, x11⟩ := v
    obtain ⟨v, hv⟩ : ∃ v : Fa, v = ⟨x0, x1, x2, x3, x4, x5, x6, x7, x8, x9, x10, x11⟩ := ⟨_, rfl⟩
    refine ⟨_, (pss_cons (ps_fld (pv 0) (pv 1) rfl) (pss_cons (ps_fld (pv 0) (pv 2) rfl) (pss_cons (ps_fld (pv 0) (pv 3) rfl) (pss_cons (ps_fld (pv 0) (pv 4) rfl) (pss_cons (ps_fld (pv 0) (pv 5) rfl) (pss_cons (ps_fld (pv 0) (pv 6) rfl) (pss_cons (ps_fld (pv 0) (pv 7) rfl) (pss_cons (ps_fld (pv 0) (pv 8) rfl) (pss_cons (ps_fld (pv 0) (pv 9) rfl) (pss_cons (ps_fld (pv 0) (pv 10) rfl) (pss_cons (ps_fld (pv 0) (pv 11) rfl) (pss_cons (ps_fld (pv 0) (pv 12) rfl) (pss_cons (ps_set (i := 13) sc_Field___init__.nd rfl (by first | exact Or.inl rfl | exact Or.inr rfl) (pe_meth0 (pv 0) T.c_Field T.h_Field_bad_name F_Field_bad_name hr b_Field_bad_name v_Field_bad_name pass0)) (pss_one (ps_if (pt_cmpR op_notN (pv 13) pe_non (nomark _)) (pss_one (ps_raise rfl (takes_of rfl rfl rfl rfl) (pmk_oexB errV T.ob_BadField T.ie_BadField T.ti_BadField F_BadField___init__ (hr.mono (by decide)) b_BadField___init__ v_BadField___init__ pass0 (by rfl) T.g_BadField (pa_cons (pv 13) pa_nil)))) pss_nil))))))))))))))), ?_⟩; dsimp only [Fa.all]; rw [start_14_13]; try dsimp only [cxOf]
    walk_at "rl wp"
    rw [← hv] at hd q1
    have b : But x H (upd H x (.ins (He.ga K "Field") dx v.at)) := But.upd
    have fa : FldAt K (upd H x (.ins (He.ga K "Field") dx v.at)) x v := ⟨dx, upd_same⟩
    subst hv
    refine ⟨B, x, _, ds, rfl, fa, V12.upd hB hx hd, fun H' sm => ?_⟩
    cases hb : badName ds with
    | none =>
      walk_at "rl wi"
      exact q1 hb _ (b.trans (But.of_same sm)) ⟨dx, sm _ _ upd_same⟩
    | some s =>
      walk_at "rl wi"
      refine w_mkS ?_ (fun ⟨v, e, h⟩ k => ⟨v, e, k _ _ h⟩)
      walk_at "rl wp"
      exact ⟨s, rfl, badName_fit hb, fun d H2 n s2 e => q2 s hb d H2 (b.trans (But.of_same (sm.trans s2))) (no_new (b.trans (But.of_same sm)) (sm _ _ upd_same) n) e⟩
end T61
end
section
set_option Elab.async false
set_option linter.all false
set_option maxRecDepth 100000
set_option maxHeartbeats 1000000
namespace T61
open PySem PySem.Spec PyProof.Rows L2 L2.RL
local macro_rules | `(tactic| walk_at "rl ty") => `(tactic| first
  | assumption
  | exact .base (.int _)
  | exact .base (.str _)
  | exact .base .non
  | exact .base (.bl _)
  | exact ty_sqT (by walk_at "rl hp")
  | exact ty_sqL (by walk_at "rl hp")
  | exact .base (.tup (by walk_at "rl hp"))
  | exact .base (.lst (by walk_at "rl hp"))
  | exact .base (.dK (by walk_at "rl hp")))
local macro_rules | `(tactic| walk_at "rl if") => `(tactic| first
  | with_reducible refine iteT' rfl ?_
  | with_reducible refine iteF' rfl ?_
  | (refine iteT' rfl ?_)
  | (refine iteF' rfl ?_))
local macro_rules | `(tactic| walk_at "rl side") => `(tactic| first | assumption | omega | (constructor <;> omega) | decide)
local macro_rules | `(tactic| walk_at "rl ne") => `(tactic| first
  | assumption
  | exact Ne.symm (by assumption)
  | walk_at "rl ne2"
  | exact ne_of (by assumption) (by walk_at "rl hq") (by intro z; cases z)
  | exact (ne_of (by assumption) (by walk_at "rl hq") (by intro z; cases z)).symm)
local macro_rules | `(tactic| walk_at "rl hq") => `(tactic| first
  | assumption
  | exact upd_same
  | (refine' upd_at ?rlne ?rlhq; (case rlne => walk_at "rl ne"); (case rlhq => walk_at "rl hq"))
  | (refine' Same.at ?rlsa ?rlhq; (case rlsa => assumption); (case rlhq => walk_at "rl hq"))
  | (refine' But.at ?rlbu ?rlne ?rlhq; (case rlbu => assumption); (case rlne => walk_at "rl ne"); (case rlhq => walk_at "rl hq")))
local macro_rules | `(tactic| walk_at "rl hp") => `(tactic| first
  | assumption
  | (refine' SqL.of ?rlhq; (case rlhq => walk_at "rl hq"))
  | (refine' SqT.of ?rlhq; (case rlhq => walk_at "rl hq"))
  | (refine' Same.seq ?rlsa ?rlhp; (case rlsa => assumption); (case rlhp => walk_at "rl hp"))
  | (refine' Same.sqT ?rlsa ?rlhp; (case rlsa => assumption); (case rlhp => walk_at "rl hp"))
  | walk_at "rl hp2"
  | walk_at "rl hq")
local macro_rules | `(tactic| walk_at "rl w1") => `(tactic| first
  | with_reducible refine w_seq ?_
  | ((with_reducible refine' w_var ?rlv ?_); (case rlv => exact rfl))
  | with_reducible refine w_c ?_
  | with_reducible refine w_op ?_
  | with_reducible refine w_I0 ?_
  | with_reducible refine w_asg ?_
  | ((with_reducible refine' w_gName ?_); dsimp only [List.set])
  | ((with_reducible refine' w_nxD ?rle ?_); (case rle => exact rfl))
  | ((with_reducible refine' w_rtD ?rle ?_); (case rle => exact rfl))
  | with_reducible refine w_next ?_
  | with_reducible refine w_ret ?_
  | with_reducible refine w_cons ?_
  | with_reducible refine w_nil ?_
  | with_reducible refine w_ifS ?_
  | with_reducible refine w_test ?_
  | with_reducible refine w_B ?_
  | with_reducible refine w_bl ?_
  | with_reducible refine w_bl1 ?_
  | with_reducible refine w_blR ?_
  | with_reducible refine w_eqI ?_
  | with_reducible refine w_neI ?_
  | with_reducible refine w_eqS ?_
  | with_reducible refine w_neS ?_
  | with_reducible refine w_eqB ?_
  | with_reducible refine w_neB ?_
  | with_reducible refine w_and ?_
  | with_reducible refine w_or ?_
  | with_reducible refine w_not ?_
  | with_reducible refine w_andV ?_
  | with_reducible refine w_orV ?_
  | with_reducible refine w_notV ?_
  | with_reducible refine w_if ?_
  | with_reducible refine w_chain ?_
  | with_reducible refine w_un ?_
  | with_reducible refine w_U ?_
  | ((with_reducible refine' w_I ?rlc ?_); (case rlc => walk_at "rl side"))
  | with_reducible refine w_drop ?_
  | with_reducible refine w_retN ?_
  | with_reducible refine w_par ?_
  | ((with_reducible refine' w_par2 ?_); dsimp only [List.set])
  | ((with_reducible refine' w_aug ?rla ?_); (case rla => exact rfl))
  | with_reducible refine w_ipI ?_
  | with_reducible refine w_break ?_
  | with_reducible refine w_cont ?_
  | ((with_reducible refine' w_bkD ?rle ?_); (case rle => exact rfl))
  | ((with_reducible refine' w_ctD ?rle ?_); (case rle => exact rfl))
  | with_reducible refine w_tup ?_
  | with_reducible refine w_lst ?_
  | ((with_reducible refine' w_newO ?rln ?_); (case rln => exact Nat.le_of_ble_eq_true rfl); intro _ _ _ _ _)
  | ((with_reducible refine' w_new ?rln ?_); (case rln => exact Nat.le_of_ble_eq_true rfl))
  | ((with_reducible refine' w_mk ?_); intro _ _ _ _ _)
  | ((with_reducible refine' w_gTup ?rls ?rll ?_); (case rls => walk_at "rl hp"); (case rll => exact rfl))
  | with_reducible refine w_gCons ?_
  | with_reducible refine w_gNil ?_
  | with_reducible refine w_gSub ?_
  | ((with_reducible refine' w_setL ?rls ?rlj ?_); (case rls => walk_at "rl hp"); (case rlj => exact rfl))
  | ((with_reducible refine' w_ixL ?rls ?rli ?_); (case rls => walk_at "rl hp"); (case rli => exact rfl))
  | ((with_reducible refine' w_ixT ?rls ?rli ?_); (case rls => walk_at "rl hp"); (case rli => exact rfl))
  | with_reducible refine w_call ?_
  | with_reducible refine w_trI ?_
  | with_reducible refine w_yes ?_
  | with_reducible refine w_trB ?_
  | with_reducible refine w_trN ?_
  | with_reducible refine w_cb ?_
  | with_reducible refine w_fld ?_
  | ((with_reducible refine' w_fld1 ?rlo ?rlc ?rln ?rll ?_); (case rlo => walk_at "rl hp"); (case rlc => assumption); (case rln => assumption); (case rll => exact rfl))
  | with_reducible refine w_isiO ?_
  | with_reducible refine w_isiT ?_
  | ((with_reducible refine' w_isi (r := true) ?rlt ?rlk ?_); (case rlt => walk_at "rl ty"); (case rlk => exact rfl))
  | ((with_reducible refine' w_isi (r := false) ?rlt ?rlk ?_); (case rlt => walk_at "rl ty"); (case rlk => exact rfl))
  | ((with_reducible refine' w_isi2 (r := true) ?rlT ?rlt ?rlk ?_); (case rlT => walk_at "rl hp"); (case rlt => walk_at "rl ty"); (case rlk => exact rfl))
  | ((with_reducible refine' w_isi2 (r := false) ?rlT ?rlt ?rlk ?_); (case rlT => walk_at "rl hp"); (case rlt => walk_at "rl ty"); (case rlk => exact rfl))
  | with_reducible refine w_sFld ?_
  | with_reducible refine w_itemsK ?_
  | ((with_reducible refine' w_catT ?rlha ?rlhb ?rln1 ?rln2 ?rlhl ?_); (case rlha => walk_at "rl hp"); (case rlhb => walk_at "rl hp"); (case rln1 => exact (fun z => nomatch z)); (case rln2 => exact (fun z => nomatch z)); (case rlhl => exact Nat.le_trans (Nat.le_of_ble_eq_true rfl) (show 100000 ≤ sizeLine by decide)))
  | ((with_reducible refine' w_newE ?_); intro _ _ _ _ _)
  | with_reducible refine w_makeK ?_
  | ((with_reducible refine' w_sFld1 ?rlc ?rln ?rll ?rle ?_); (case rlc => assumption); (case rln => assumption); (case rll => exact Nat.lt_of_lt_of_le (Nat.lt_succ_self _) (Nat.le_of_ble_eq_true rfl)); (case rle => exact rfl))
  | ((with_reducible refine' w_sFld0 ?rlx ?rlc ?rln ?rll ?rle ?_); (case rlx => walk_at "rl hq"); (case rlc => assumption); (case rln => assumption); (case rll => exact Nat.lt_of_lt_of_le (Nat.lt_succ_self _) (Nat.le_of_ble_eq_true rfl)); (case rle => exact rfl))
  | with_reducible refine w_rflA ?_
  | with_reducible refine w_for ?_
  | with_reducible refine w_iList ?_
  | with_reducible refine w_iTup ?_
  | ((with_reducible refine' w_overL ?rls ?_); (case rls => walk_at "rl hp"))
  | ((with_reducible refine' w_overT ?rls ?_); (case rls => walk_at "rl hp"))
  | with_reducible refine w_rng1 ?_
  | ((with_reducible refine' w_rng1a ?rl1 ?rl2 ?_); (case rl1 => omega); (case rl2 => omega))
  | with_reducible refine w_rng2 ?_
  | ((with_reducible refine' w_rng2a ?rl1 ?_); (case rl1 => omega))
  | with_reducible refine w_zip2 ?_
  | with_reducible refine w_lc ?_
  | with_reducible refine w_enS ?_
  | with_reducible refine w_callSD ?_
  | with_reducible refine w_xf ?_
  | ((with_reducible refine' w_dnew ?_); intro _ _ _ _ _)
  | ((with_reducible refine' w_disp1 ?_); intro _ _ _ _ _)
  | with_reducible refine w_bm ?_
  | ((with_reducible refine' w_tyL ?rls ?_); (case rls => walk_at "rl hp"))
  | ((with_reducible refine' w_append ?rls ?rll ?_); (case rls => walk_at "rl hq"); (case rll => exact Nat.lt_of_lt_of_le (Nat.lt_succ_self _) (Nat.le_of_ble_eq_true rfl)))
  | ((with_reducible refine' w_cat ?rls ?rlt ?rll ?_); (case rls => walk_at "rl hq"); (case rlt => walk_at "rl hq"); (case rll => exact Nat.le_of_ble_eq_true rfl); intro _ _ _ _ _)
  | with_reducible refine w_int1 ?_
  | ((with_reducible refine w_intb ?_); (try dsimp only))
  | with_reducible refine w_one ?_
  | with_reducible refine w_two ?_
  | ((with_reducible refine' w_lenL ?rls ?_); (case rls => walk_at "rl hp"))
  | ((with_reducible refine' w_lenT ?rls ?_); (case rls => walk_at "rl hp"))
  | with_reducible refine w_meth ?_
  | ((with_reducible refine' w_meth1 ?rlo ?rll ?_); (case rlo => walk_at "rl hp"); (case rll => exact rfl)))
local macro_rules | `(tactic| walk_at "rl wp") => `(tactic| (repeat walk_at "rl w1"))
local macro_rules | `(tactic| walk_at "rl but") => `(tactic| first
  | assumption
  | exact But.refl _ _
  | exact But.upd
  | exact But.of_same (by assumption)
  | (refine But.trans ?_ (But.of_same (by assumption)); walk_at "rl but")
  | (refine But.trans ?_ (by assumption : But _ _ _); walk_at "rl but")
  | (refine But.trans ?_ But.upd; walk_at "rl but"))
local macro_rules | `(tactic| walk_at "rl same") => `(tactic| first
  | assumption
  | exact Same.refl _
  | (refine Same.trans ?_ (by assumption : Same _ _); walk_at "rl same"))

local macro_rules | `(tactic| walk_at "rl wi") => `(tactic| (repeat (first
  | walk_at "rl w1"
  | ((with_reducible refine' iteF' ?rlif ?_); (case rlif => exact rfl))
  | ((with_reducible refine' iteT' ?rlif ?_); (case rlif => exact rfl)))))
local macro_rules | `(tactic| walk_at "rl ty") => `(tactic| exact .base (.dK (by assumption)))
local macro_rules | `(tactic| walk_at "rl ty") => `(tactic| exact .base (.lst (by assumption)))
local macro_rules | `(tactic| walk_at "rl ty") => `(tactic| exact .base (.tup (by assumption)))
local macro_rules | `(tactic| walk_at "rl w1") => `(tactic| first
  | with_reducible refine w_par3 ?_
  | ((with_reducible refine' w_par3a ?_); dsimp only [List.set])
  | with_reducible refine w_dget ?_
  | ((with_reducible refine' w_dgetS ?rls ?rlv ?_); (case rls => walk_at "rl hq"); (case rlv => exact rfl))
  | ((with_reducible refine' w_dgetI ?rls ?rlv ?_); (case rls => walk_at "rl hq"); (case rlv => exact rfl))
  | with_reducible refine w_dget2 ?_
  | ((with_reducible refine' w_isD ?rls ?_); (case rls => walk_at "rl hq"))
  | ((with_reducible refine' w_dget2S ?rls ?_); (case rls => walk_at "rl hq"))
  | ((with_reducible refine' w_dget2I ?rls ?_); (case rls => walk_at "rl hq"))
  | ((with_reducible refine' w_setDS ?rls ?rll ?rlm ?_); (case rls => walk_at "rl hq"); (case rll => exact Nat.lt_of_lt_of_le (Nat.lt_succ_self _) (Nat.le_of_ble_eq_true rfl)); (case rlm => exact rfl))
  | ((with_reducible refine' w_tyD ?rls ?_); (case rls => walk_at "rl hq"))
  | with_reducible refine w_jNil ?_
  | with_reducible refine w_jCons ?_
  | with_reducible refine w_prop ?_
  | with_reducible refine w_makeKS ?_
  | with_reducible refine w_pNil ?_
  | with_reducible refine w_pCons ?_
  | ((with_reducible refine' w_dispN ?_); intro _ _ _ _ _))

def styleOf (f : Int) : Str := if Builtin.bitAnd f 1 ≠ 0 then "constant" else if Builtin.bitAnd f 2 ≠ 0 then "variable" else "array"
def spStyle (K : PySem.W.Frag) : Sp := fun vs H Q _ => ∃ (a : Addr) (v : Fa) (f : Int), vs = [.ref a] ∧ FldAt K H a v ∧ v.f = .int f ∧ Q (.str (styleOf f)) H
def spRelative (K : PySem.W.Frag) : Sp := fun vs H Q _ => ∃ (a : Addr) (v : Fa) (f : Int), vs = [.ref a] ∧ FldAt K H a v ∧ v.f = .int f ∧ Q (.bl (decide (0 < Builtin.bitAnd f 4))) H
def spSigned (K : PySem.W.Frag) : Sp := fun vs H Q _ => ∃ (a : Addr) (v : Fa) (f l : Int), vs = [.ref a] ∧ FldAt K H a v ∧ v.f = .int f ∧ v.l = .int l ∧ Q (.bl (decide (styleOf f ≠ "constant" ∧ l < 0))) H
theorem sc_Field_style : FnScope ["self"] ["self"] (defScope ((inClass (top 59) 4))) := ⟨rfl, rfl, rfl, by decide +kernel, rfl, by decide +kernel, by decide +kernel⟩
theorem ok_Field_style {P : Program} {w : World} {K : PySem.W.Frag} {mg : Str → Option Value} {base : Heap} (T : TT K mg)    : Lq P w K mg base CX0 1 "Field" "style" ["self"] [] (spStyle K) := by
  obtain ⟨fd, F⟩ := T.d_Field_style
  refine ⟨⟨fd, [], F.ok sc_Field_style (fun vs H Q E h => ?_) (fun cdv A outer s H vs Q E hr h => ?_), FunD.bindsN F (fun _ _ _ _ _ _ us hl => match us, hl with | [_], _ => rfl), .nil⟩⟩
  · obtain ⟨a, v, f, rfl, _⟩ := h
    rfl
  · obtain ⟨a, v, f, rfl, ⟨dx, ha⟩, hf, q⟩ := h
    obtain ⟨x0, x1, x2, x3, x4, x5, x6, x7, x8, x9, x10, x11⟩ := v
    obtain rfl : x2 = .int f := hf
    have c_F := T.c_Field
    have n_role := T.n_Field_role
    have n_number := T.n_Field_number
    have n_flags := T.n_Field_flags
    have n_size := T.n_Field_size
    have n_amount := T.n_Field_amount
    have n_low := T.n_Field_low
    have n_high := T.n_Field_high
    have n_plow := T.n_Field_plow
    have n_phigh := T.n_Field_phigh
    have n_exponent := T.n_Field_exponent
    have n_unit := T.n_Field_unit
    have n_usages := T.n_Field_usages
    refine ⟨_, PSs.nox ((pss_cons (ps_if (pt_truth (pe_op op_and (pe_fld (pv 0) rfl) (pe_glob rfl (T.i_CONSTANT_layouts).choose_spec (show RelV (.int (1)) _ from ⟨_, rfl⟩))) (by intro _; rfl)) (pss_one (ps_ret pe_str)) pss_nil) (pss_one (ps_ret (pe_ifExp (pt_truth (pe_op op_and (pe_fld (pv 0) rfl) (pe_glob rfl (T.i_VARIABLE_layouts).choose_spec (show RelV (.int (2)) _ from ⟨_, rfl⟩))) (by intro _; rfl)) pe_str pe_str))))), ?_⟩; rw [start_1_1]; try dsimp only [cxOf]
    walk_at "rl wp"
    unfold styleOf at q
    by_cases c1 : Builtin.bitAnd f 1 = 0
    · rw [if_neg (fun z => z c1)] at q
      refine iteF' (by rw [c1]; rfl) ?_
      walk_at "rl wp"
      by_cases c2 : Builtin.bitAnd f 2 = 0
      · rw [if_neg (fun z => z c2)] at q
        refine iteF' (by rw [c2]; rfl) ?_
        walk_at "rl wp"
        exact q
      · rw [if_pos c2] at q
        refine iteT' (by simpa using c2) ?_
        walk_at "rl wp"
        exact q
    · rw [if_pos c1] at q
      refine iteT' (by simpa using c1) ?_
      walk_at "rl wp"
      exact q


end T61
end
section
set_option Elab.async false
set_option linter.all false
set_option maxRecDepth 100000
set_option maxHeartbeats 0
namespace T61
open PySem PySem.Spec PyProof.Rows L2 L2.RL
local macro_rules | `(tactic| walk_at "rl ty") => `(tactic| first
  | assumption
  | exact .base (.int _)
  | exact .base (.str _)
  | exact .base .non
  | exact .base (.bl _)
  | exact ty_sqT (by walk_at "rl hp")
  | exact ty_sqL (by walk_at "rl hp")
  | exact .base (.tup (by walk_at "rl hp"))
  | exact .base (.lst (by walk_at "rl hp"))
  | exact .base (.dK (by walk_at "rl hp")))
local macro_rules | `(tactic| walk_at "rl if") => `(tactic| first
  | with_reducible refine iteT' rfl ?_
  | with_reducible refine iteF' rfl ?_
  | (refine iteT' rfl ?_)
  | (refine iteF' rfl ?_))
local macro_rules | `(tactic| walk_at "rl side") => `(tactic| first | assumption | omega | (constructor <;> omega) | decide)
local macro_rules | `(tactic| walk_at "rl ne") => `(tactic| first
  | assumption
  | exact Ne.symm (by assumption)
  | walk_at "rl ne2"
  | exact ne_of (by assumption) (by walk_at "rl hq") (by intro z; cases z)
  | exact (ne_of (by assumption) (by walk_at "rl hq") (by intro z; cases z)).symm)
local macro_rules | `(tactic| walk_at "rl hq") => `(tactic| first
  | assumption
  | exact upd_same
  | (refine' upd_at ?rlne ?rlhq; (case rlne => walk_at "rl ne"); (case rlhq => walk_at "rl hq"))
  | (refine' Same.at ?rlsa ?rlhq; (case rlsa => assumption); (case rlhq => walk_at "rl hq"))
  | (refine' But.at ?rlbu ?rlne ?rlhq; (case rlbu => assumption); (case rlne => walk_at "rl ne"); (case rlhq => walk_at "rl hq")))
local macro_rules | `(tactic| walk_at "rl hp") => `(tactic| first
  | assumption
  | (refine' SqL.of ?rlhq; (case rlhq => walk_at "rl hq"))
  | (refine' SqT.of ?rlhq; (case rlhq => walk_at "rl hq"))
  | (refine' Same.seq ?rlsa ?rlhp; (case rlsa => assumption); (case rlhp => walk_at "rl hp"))
  | (refine' Same.sqT ?rlsa ?rlhp; (case rlsa => assumption); (case rlhp => walk_at "rl hp"))
  | walk_at "rl hp2"
  | walk_at "rl hq")
local macro_rules | `(tactic| walk_at "rl w1") => `(tactic| first
  | with_reducible refine w_seq ?_
  | ((with_reducible refine' w_var ?rlv ?_); (case rlv => exact rfl))
  | with_reducible refine w_c ?_
  | with_reducible refine w_op ?_
  | with_reducible refine w_I0 ?_
  | with_reducible refine w_asg ?_
  | ((with_reducible refine' w_gName ?_); dsimp only [List.set])
  | ((with_reducible refine' w_nxD ?rle ?_); (case rle => exact rfl))
  | ((with_reducible refine' w_rtD ?rle ?_); (case rle => exact rfl))
  | with_reducible refine w_next ?_
  | with_reducible refine w_ret ?_
  | with_reducible refine w_cons ?_
  | with_reducible refine w_nil ?_
  | with_reducible refine w_ifS ?_
  | with_reducible refine w_test ?_
  | with_reducible refine w_B ?_
  | with_reducible refine w_bl ?_
  | with_reducible refine w_bl1 ?_
  | with_reducible refine w_blR ?_
  | with_reducible refine w_eqI ?_
  | with_reducible refine w_neI ?_
  | with_reducible refine w_eqS ?_
  | with_reducible refine w_neS ?_
  | with_reducible refine w_eqB ?_
  | with_reducible refine w_neB ?_
  | with_reducible refine w_and ?_
  | with_reducible refine w_or ?_
  | with_reducible refine w_not ?_
  | with_reducible refine w_andV ?_
  | with_reducible refine w_orV ?_
  | with_reducible refine w_notV ?_
  | with_reducible refine w_if ?_
  | with_reducible refine w_chain ?_
  | with_reducible refine w_un ?_
  | with_reducible refine w_U ?_
  | ((with_reducible refine' w_I ?rlc ?_); (case rlc => walk_at "rl side"))
  | with_reducible refine w_drop ?_
  | with_reducible refine w_retN ?_
  | with_reducible refine w_par ?_
  | ((with_reducible refine' w_par2 ?_); dsimp only [List.set])
  | ((with_reducible refine' w_aug ?rla ?_); (case rla => exact rfl))
  | with_reducible refine w_ipI ?_
  | with_reducible refine w_break ?_
  | with_reducible refine w_cont ?_
  | ((with_reducible refine' w_bkD ?rle ?_); (case rle => exact rfl))
  | ((with_reducible refine' w_ctD ?rle ?_); (case rle => exact rfl))
  | with_reducible refine w_tup ?_
  | with_reducible refine w_lst ?_
  | ((with_reducible refine' w_newO ?rln ?_); (case rln => exact Nat.le_of_ble_eq_true rfl); intro _ _ _ _ _)
  | ((with_reducible refine' w_new ?rln ?_); (case rln => exact Nat.le_of_ble_eq_true rfl))
  | ((with_reducible refine' w_mk ?_); intro _ _ _ _ _)
  | ((with_reducible refine' w_gTup ?rls ?rll ?_); (case rls => walk_at "rl hp"); (case rll => exact rfl))
  | with_reducible refine w_gCons ?_
  | with_reducible refine w_gNil ?_
  | with_reducible refine w_gSub ?_
  | ((with_reducible refine' w_setL ?rls ?rlj ?_); (case rls => walk_at "rl hp"); (case rlj => exact rfl))
  | ((with_reducible refine' w_ixL ?rls ?rli ?_); (case rls => walk_at "rl hp"); (case rli => exact rfl))
  | ((with_reducible refine' w_ixT ?rls ?rli ?_); (case rls => walk_at "rl hp"); (case rli => exact rfl))
  | with_reducible refine w_call ?_
  | with_reducible refine w_trI ?_
  | with_reducible refine w_yes ?_
  | with_reducible refine w_trB ?_
  | with_reducible refine w_trN ?_
  | with_reducible refine w_cb ?_
  | with_reducible refine w_fld ?_
  | ((with_reducible refine' w_fld1 ?rlo ?rlc ?rln ?rll ?_); (case rlo => walk_at "rl hp"); (case rlc => assumption); (case rln => assumption); (case rll => exact rfl))
  | with_reducible refine w_isiO ?_
  | with_reducible refine w_isiT ?_
  | ((with_reducible refine' w_isi (r := true) ?rlt ?rlk ?_); (case rlt => walk_at "rl ty"); (case rlk => exact rfl))
  | ((with_reducible refine' w_isi (r := false) ?rlt ?rlk ?_); (case rlt => walk_at "rl ty"); (case rlk => exact rfl))
  | ((with_reducible refine' w_isi2 (r := true) ?rlT ?rlt ?rlk ?_); (case rlT => walk_at "rl hp"); (case rlt => walk_at "rl ty"); (case rlk => exact rfl))
  | ((with_reducible refine' w_isi2 (r := false) ?rlT ?rlt ?rlk ?_); (case rlT => walk_at "rl hp"); (case rlt => walk_at "rl ty"); (case rlk => exact rfl))
  | with_reducible refine w_sFld ?_
  | with_reducible refine w_itemsK ?_
  | ((with_reducible refine' w_catT ?rlha ?rlhb ?rln1 ?rln2 ?rlhl ?_); (case rlha => walk_at "rl hp"); (case rlhb => walk_at "rl hp"); (case rln1 => exact (fun z => nomatch z)); (case rln2 => exact (fun z => nomatch z)); (case rlhl => exact Nat.le_trans (Nat.le_of_ble_eq_true rfl) (show 100000 ≤ sizeLine by decide)))
  | ((with_reducible refine' w_newE ?_); intro _ _ _ _ _)
  | with_reducible refine w_makeK ?_
  | ((with_reducible refine' w_sFld1 ?rlc ?rln ?rll ?rle ?_); (case rlc => assumption); (case rln => assumption); (case rll => exact Nat.lt_of_lt_of_le (Nat.lt_succ_self _) (Nat.le_of_ble_eq_true rfl)); (case rle => exact rfl))
  | ((with_reducible refine' w_sFld0 ?rlx ?rlc ?rln ?rll ?rle ?_); (case rlx => walk_at "rl hq"); (case rlc => assumption); (case rln => assumption); (case rll => exact Nat.lt_of_lt_of_le (Nat.lt_succ_self _) (Nat.le_of_ble_eq_true rfl)); (case rle => exact rfl))
  | with_reducible refine w_rflA ?_
  | with_reducible refine w_for ?_
  | with_reducible refine w_iList ?_
  | with_reducible refine w_iTup ?_
  | ((with_reducible refine' w_overL ?rls ?_); (case rls => walk_at "rl hp"))
  | ((with_reducible refine' w_overT ?rls ?_); (case rls => walk_at "rl hp"))
  | with_reducible refine w_rng1 ?_
  | ((with_reducible refine' w_rng1a ?rl1 ?rl2 ?_); (case rl1 => omega); (case rl2 => omega))
  | with_reducible refine w_rng2 ?_
  | ((with_reducible refine' w_rng2a ?rl1 ?_); (case rl1 => omega))
  | with_reducible refine w_zip2 ?_
  | with_reducible refine w_lc ?_
  | with_reducible refine w_enS ?_
  | with_reducible refine w_callSD ?_
  | with_reducible refine w_xf ?_
  | ((with_reducible refine' w_dnew ?_); intro _ _ _ _ _)
  | ((with_reducible refine' w_disp1 ?_); intro _ _ _ _ _)
  | with_reducible refine w_bm ?_
  | ((with_reducible refine' w_tyL ?rls ?_); (case rls => walk_at "rl hp"))
  | ((with_reducible refine' w_append ?rls ?rll ?_); (case rls => walk_at "rl hq"); (case rll => exact Nat.lt_of_lt_of_le (Nat.lt_succ_self _) (Nat.le_of_ble_eq_true rfl)))
  | ((with_reducible refine' w_cat ?rls ?rlt ?rll ?_); (case rls => walk_at "rl hq"); (case rlt => walk_at "rl hq"); (case rll => exact Nat.le_of_ble_eq_true rfl); intro _ _ _ _ _)
  | with_reducible refine w_int1 ?_
  | ((with_reducible refine w_intb ?_); (try dsimp only))
  | with_reducible refine w_one ?_
  | with_reducible refine w_two ?_
  | ((with_reducible refine' w_lenL ?rls ?_); (case rls => walk_at "rl hp"))
  | ((with_reducible refine' w_lenT ?rls ?_); (case rls => walk_at "rl hp"))
  | with_reducible refine w_meth ?_
  | ((with_reducible refine' w_meth1 ?rlo ?rll ?_); (case rlo => walk_at "rl hp"); (case rll => exact rfl)))
local macro_rules | `(tactic| walk_at "rl wp") => `(tactic| (repeat walk_at "rl w1"))
local macro_rules | `(tactic| walk_at "rl but") => `(tactic| first
  | assumption
  | exact But.refl _ _
  | exact But.upd
  | exact But.of_same (by assumption)
  | (refine But.trans ?_ (But.of_same (by assumption)); walk_at "rl but")
  | (refine But.trans ?_ (by assumption : But _ _ _); walk_at "rl but")
  | (refine But.trans ?_ But.upd; walk_at "rl but"))
local macro_rules | `(tactic| walk_at "rl same") => `(tactic| first
  | assumption
  | exact Same.refl _
  | (refine Same.trans ?_ (by assumption : Same _ _); walk_at "rl same"))

local macro_rules | `(tactic| walk_at "rl wi") => `(tactic| (repeat (first
  | walk_at "rl w1"
  | ((with_reducible refine' iteF' ?rlif ?_); (case rlif => exact rfl))
  | ((with_reducible refine' iteT' ?rlif ?_); (case rlif => exact rfl)))))
local macro_rules | `(tactic| walk_at "rl ty") => `(tactic| exact .base (.dK (by assumption)))
local macro_rules | `(tactic| walk_at "rl ty") => `(tactic| exact .base (.lst (by assumption)))
local macro_rules | `(tactic| walk_at "rl ty") => `(tactic| exact .base (.tup (by assumption)))
local macro_rules | `(tactic| walk_at "rl w1") => `(tactic| first
  | with_reducible refine w_par3 ?_
  | ((with_reducible refine' w_par3a ?_); dsimp only [List.set])
  | with_reducible refine w_dget ?_
  | ((with_reducible refine' w_dgetS ?rls ?rlv ?_); (case rls => walk_at "rl hq"); (case rlv => exact rfl))
  | ((with_reducible refine' w_dgetI ?rls ?rlv ?_); (case rls => walk_at "rl hq"); (case rlv => exact rfl))
  | with_reducible refine w_dget2 ?_
  | ((with_reducible refine' w_isD ?rls ?_); (case rls => walk_at "rl hq"))
  | ((with_reducible refine' w_dget2S ?rls ?_); (case rls => walk_at "rl hq"))
  | ((with_reducible refine' w_dget2I ?rls ?_); (case rls => walk_at "rl hq"))
  | ((with_reducible refine' w_setDS ?rls ?rll ?rlm ?_); (case rls => walk_at "rl hq"); (case rll => exact Nat.lt_of_lt_of_le (Nat.lt_succ_self _) (Nat.le_of_ble_eq_true rfl)); (case rlm => exact rfl))
  | ((with_reducible refine' w_tyD ?rls ?_); (case rls => walk_at "rl hq"))
  | with_reducible refine w_jNil ?_
  | with_reducible refine w_jCons ?_
  | with_reducible refine w_prop ?_
  | with_reducible refine w_makeKS ?_
  | with_reducible refine w_pNil ?_
  | with_reducible refine w_pCons ?_
  | ((with_reducible refine' w_dispN ?_); intro _ _ _ _ _))

def spBits (K : PySem.W.Frag) : Sp := fun vs H Q _ => ∃ (a : Addr) (v : Fa) (z m : Int), vs = [.ref a] ∧ FldAt K H a v ∧ v.z = .int z ∧ v.a = .int m ∧ 0 ≤ z ∧ z ≤ 32 ∧ 0 ≤ m ∧ m ≤ 255 ∧ Q (.int (z * m)) H

def isOp : PyData → Bool
  | .tuple [.str s, a, b] => decide (s = "open") && (inI a 0 255 && inI b 0 4294967295)
  | _ => false
theorem isOp_one (d : PyData) : isOp (.tuple [d]) = false := by cases d <;> rfl
theorem isOp_two (d e : PyData) : isOp (.tuple [d, e]) = false := by cases d <;> rfl
theorem isOp_four (a b c d : PyData) (r : List PyData) : isOp (.tuple (a :: b :: c :: d :: r)) = false := by cases a <;> rfl
theorem isOp_s (s : Str) (a b : PyData) : isOp (.tuple [.str s, a, b]) = (decide (s = "open") && (inI a 0 255 && inI b 0 4294967295)) := rfl
def spIsOpening : Sp := fun vs H Q _ => ∃ (B : Addr → Prop) (x : V) (d : PyData), vs = [x] ∧ Dq H B x d ∧ Q (.bl (isOp d)) H
theorem sc_Field_total_bits : FnScope ["self"] ["self"] (defScope ((inClass (top 59) 7))) := ⟨rfl, rfl, rfl, by decide +kernel, rfl, by decide +kernel, by decide +kernel⟩
theorem ok_Field_total_bits {P : Program} {w : World} {K : PySem.W.Frag} {mg : Str → Option Value} {base : Heap} (T : TT K mg)    : Lq P w K mg base CX0 1 "Field" "total_bits" ["self"] [] (spBits K) := by
  obtain ⟨fd, F⟩ := T.d_Field_total_bits
  refine ⟨⟨fd, [], F.ok sc_Field_total_bits (fun vs H Q E h => ?_) (fun cdv A outer s H vs Q E hr h => ?_), FunD.bindsN F (fun _ _ _ _ _ _ us hl => match us, hl with | [_], _ => rfl), .nil⟩⟩
  · obtain ⟨a, v, z, m, rfl, _⟩ := h
    rfl
  · obtain ⟨a, v, z, m, rfl, ⟨dx, ha⟩, hz, hm, z0, z1, m0, m1, q⟩ := h
    obtain ⟨x0, x1, x2, x3, x4, x5, x6, x7, x8, x9, x10, x11⟩ := v
    obtain rfl : x3 = .int z := hz
    obtain rfl : x4 = .int m := hm
    have c_F := T.c_Field
    have n_role := T.n_Field_role
    have n_number := T.n_Field_number
    have n_flags := T.n_Field_flags
    have n_size := T.n_Field_size
    have n_amount := T.n_Field_amount
    have n_low := T.n_Field_low
    have n_high := T.n_Field_high
    have n_plow := T.n_Field_plow
    have n_phigh := T.n_Field_phigh
    have n_exponent := T.n_Field_exponent
    have n_unit := T.n_Field_unit
    have n_usages := T.n_Field_usages
    have k : CMul z m := .inr ⟨by omega, by omega⟩
    refine ⟨_, PSs.nox ((pss_one (ps_ret (pe_op op_mul (pe_fld (pv 0) rfl) (pe_fld (pv 0) rfl))))), ?_⟩; rw [start_1_1]; try dsimp only [cxOf]
    walk_at "rl wp"
    exact q

theorem sc_is_opening : FnScope ["entry"] ["entry"] (defScope (top 61)) := ⟨rfl, rfl, rfl, by decide +kernel, rfl, by decide +kernel, by decide +kernel⟩
theorem ok_is_opening {P : Program} {w : World} {K : PySem.W.Frag} {mg : Str → Option Value} {base : Heap} (T : TT K mg) (D_is_integer : Ld P w K mg base CX0 1 "is_integer" ["thing", "low", "high"] [] (spIsInt)) (D_is_usage : Ld P w K mg base CX0 2 "is_usage" ["thing"] [] (spIsUsage))   : Ld P w K mg base CX0 3 "is_opening" ["entry"] [] (spIsOpening) := by
  obtain ⟨⟨fd_is_integer, ds_is_integer, F_is_integer, b_is_integer, v_is_integer⟩, g_is_integer, k_is_integer⟩ := D_is_integer
  obtain ⟨⟨fd_is_usage, ds_is_usage, F_is_usage, b_is_usage, v_is_usage⟩, g_is_usage, k_is_usage⟩ := D_is_usage
  obtain ⟨fd, F⟩ := T.d_is_opening
  refine ⟨⟨fd, [], F.ok sc_is_opening (fun vs H Q E h => ?_) (fun cdv A outer s H vs Q E hr h => ?_), FunD.bindsN F (fun _ _ _ _ _ _ us hl => match us, hl with | [_], _ => rfl), .nil⟩, T.g_is_opening, F.kp⟩
  · obtain ⟨B, x, d, rfl, _⟩ := h
    rfl
  · obtain ⟨B, x, d, rfl, hd, q⟩ := h
    refine ⟨_, PSs.nox ((pss_cons (ps_if (PW.pt (pw_or (pt_not (pt_val (pe_callB call_isi (by rfl) T.m_isinstance (by decide +kernel) (pa_cons (pv 0) (pa_cons (pe_bltn (v := .ty "tuple") (by rfl) T.m_tuple (by decide +kernel) rfl) pa_nil))))) (pw_or (pt_cmpR op_ne (pe_callB call_len_seq (by rfl) T.m_len PySem.boot_len (pa_cons (pv 0) pa_nil)) pe_int (nomark _)) (pw_or (pt_not (pt_val (pe_callB call_isi (by rfl) T.m_isinstance (by decide +kernel) (pa_cons (pe_ix ix_tup (pv 0) pe_int (fun _ _ => rfl)) (pa_cons (pe_bltn (v := .ty "str") (by rfl) T.m_str (by decide +kernel) rfl) pa_nil))))) (pw_or1 (pt_cmpR op_ne (pe_ix ix_tup (pv 0) pe_int (fun _ _ => rfl)) (pe_glob rfl (T.i_OPEN_layouts).choose_spec (show RelV (.str "open") _ from ⟨_, rfl⟩)) (nomark _))))))) (pss_one (ps_ret pe_bl)) pss_nil) (pss_one (ps_ret (pe_and (pe_call F_is_integer (hr.mono (by decide)) (by rfl) g_is_integer k_is_integer b_is_integer v_is_integer pass0 (pa_cons (pe_ix ix_tup (pv 0) pe_int (fun _ _ => rfl)) (pa_cons pe_int (pa_cons pe_int pa_nil)))) (pe_one (pe_call F_is_usage hr (by rfl) g_is_usage k_is_usage b_is_usage v_is_usage pass0 (pa_cons (pe_ix ix_tup (pv 0) pe_int (fun _ _ => rfl)) pa_nil)))))))), ?_⟩; rw [start_1_1]; try dsimp only [cxOf]
    cases hd with
    | tup e nb ha =>
      cases ha with
      | nil => walk_at "rl wi"; exact q
      | cons h0 ha =>
        cases ha with
        | nil => rw [isOp_one] at q; walk_at "rl wi"; exact q
        | cons h1 ha =>
          cases ha with
          | nil => rw [isOp_two] at q; walk_at "rl wi"; exact q
          | cons h2 ha =>
            cases ha with
            | nil =>
              cases h0 with
              | str s =>
                walk_at "rl wi"
                by_cases c : s = "open"
                · subst c
                  refine iteF' rfl ?_
                  walk_at "rl wp"
                  refine ⟨_, _, _, _, _, rfl, h1, ?_⟩
                  rename_i d1 _ d2
                  cases hI : inI d1 0 255 with
                  | true =>
                    walk_at "rl wi"
                    refine ⟨_, _, _, rfl, h2, ?_⟩
                    rw [show isOp (.tuple [.str "open", d1, d2]) = inI d2 0 4294967295 from by rw [isOp_s, hI]; rfl] at q
                    exact q
                  | false =>
                    walk_at "rl wi"
                    rw [show isOp (.tuple [.str "open", d1, d2]) = false from by rw [isOp_s, hI]; rfl] at q
                    exact q
                · refine iteT' (by simpa using c) ?_
                  walk_at "rl wp"
                  rw [isOp_s, decide_eq_false c, Bool.false_and] at q
                  exact q
              | _ => walk_at "rl wi"; exact q
            | cons h3 ha => rw [isOp_four] at q; walk_at "rl wi"; exact q
    | _ => walk_at "rl wi"; exact q
end T61
end
section
set_option Elab.async false
set_option linter.all false
set_option maxRecDepth 100000
set_option maxHeartbeats 1000000
namespace T61
open PySem PySem.Spec PyProof.Rows L2 L2.RL
local macro_rules | `(tactic| walk_at "rl ty") => `(tactic| first
  | assumption
  | exact .base (.int _)
  | exact .base (.str _)
  | exact .base .non
  | exact .base (.bl _)
  | exact ty_sqT (by walk_at "rl hp")
  | exact ty_sqL (by walk_at "rl hp")
  | exact .base (.tup (by walk_at "rl hp"))
  | exact .base (.lst (by walk_at "rl hp"))
  | exact .base (.dK (by walk_at "rl hp")))
local macro_rules | `(tactic| walk_at "rl if") => `(tactic| first
  | with_reducible refine iteT' rfl ?_
  | with_reducible refine iteF' rfl ?_
  | (refine iteT' rfl ?_)
  | (refine iteF' rfl ?_))
local macro_rules | `(tactic| walk_at "rl side") => `(tactic| first | assumption | omega | (constructor <;> omega) | decide)
local macro_rules | `(tactic| walk_at "rl ne") => `(tactic| first
  | assumption
  | exact Ne.symm (by assumption)
  | walk_at "rl ne2"
  | exact ne_of (by assumption) (by walk_at "rl hq") (by intro z; cases z)
  | exact (ne_of (by assumption) (by walk_at "rl hq") (by intro z; cases z)).symm)
local macro_rules | `(tactic| walk_at "rl hq") => `(tactic| first
  | assumption
  | exact upd_same
  | (refine' upd_at ?rlne ?rlhq; (case rlne => walk_at "rl ne"); (case rlhq => walk_at "rl hq"))
  | (refine' Same.at ?rlsa ?rlhq; (case rlsa => assumption); (case rlhq => walk_at "rl hq"))
  | (refine' But.at ?rlbu ?rlne ?rlhq; (case rlbu => assumption); (case rlne => walk_at "rl ne"); (case rlhq => walk_at "rl hq")))
local macro_rules | `(tactic| walk_at "rl hp") => `(tactic| first
  | assumption
  | (refine' SqL.of ?rlhq; (case rlhq => walk_at "rl hq"))
  | (refine' SqT.of ?rlhq; (case rlhq => walk_at "rl hq"))
  | (refine' Same.seq ?rlsa ?rlhp; (case rlsa => assumption); (case rlhp => walk_at "rl hp"))
  | (refine' Same.sqT ?rlsa ?rlhp; (case rlsa => assumption); (case rlhp => walk_at "rl hp"))
  | walk_at "rl hp2"
  | walk_at "rl hq")
local macro_rules | `(tactic| walk_at "rl w1") => `(tactic| first
  | with_reducible refine w_seq ?_
  | ((with_reducible refine' w_var ?rlv ?_); (case rlv => exact rfl))
  | with_reducible refine w_c ?_
  | with_reducible refine w_op ?_
  | with_reducible refine w_I0 ?_
  | with_reducible refine w_asg ?_
  | ((with_reducible refine' w_gName ?_); dsimp only [List.set])
  | ((with_reducible refine' w_nxD ?rle ?_); (case rle => exact rfl))
  | ((with_reducible refine' w_rtD ?rle ?_); (case rle => exact rfl))
  | with_reducible refine w_next ?_
  | with_reducible refine w_ret ?_
  | with_reducible refine w_cons ?_
  | with_reducible refine w_nil ?_
  | with_reducible refine w_ifS ?_
  | with_reducible refine w_test ?_
  | with_reducible refine w_B ?_
  | with_reducible refine w_bl ?_
  | with_reducible refine w_bl1 ?_
  | with_reducible refine w_blR ?_
  | with_reducible refine w_eqI ?_
  | with_reducible refine w_neI ?_
  | with_reducible refine w_eqS ?_
  | with_reducible refine w_neS ?_
  | with_reducible refine w_eqB ?_
  | with_reducible refine w_neB ?_
  | with_reducible refine w_and ?_
  | with_reducible refine w_or ?_
  | with_reducible refine w_not ?_
  | with_reducible refine w_andV ?_
  | with_reducible refine w_orV ?_
  | with_reducible refine w_notV ?_
  | with_reducible refine w_if ?_
  | with_reducible refine w_chain ?_
  | with_reducible refine w_un ?_
  | with_reducible refine w_U ?_
  | ((with_reducible refine' w_I ?rlc ?_); (case rlc => walk_at "rl side"))
  | with_reducible refine w_drop ?_
  | with_reducible refine w_retN ?_
  | with_reducible refine w_par ?_
  | ((with_reducible refine' w_par2 ?_); dsimp only [List.set])
  | ((with_reducible refine' w_aug ?rla ?_); (case rla => exact rfl))
  | with_reducible refine w_ipI ?_
  | with_reducible refine w_break ?_
  | with_reducible refine w_cont ?_
  | ((with_reducible refine' w_bkD ?rle ?_); (case rle => exact rfl))
  | ((with_reducible refine' w_ctD ?rle ?_); (case rle => exact rfl))
  | with_reducible refine w_tup ?_
  | with_reducible refine w_lst ?_
  | ((with_reducible refine' w_newO ?rln ?_); (case rln => exact Nat.le_of_ble_eq_true rfl); intro _ _ _ _ _)
  | ((with_reducible refine' w_new ?rln ?_); (case rln => exact Nat.le_of_ble_eq_true rfl))
  | ((with_reducible refine' w_mk ?_); intro _ _ _ _ _)
  | ((with_reducible refine' w_gTup ?rls ?rll ?_); (case rls => walk_at "rl hp"); (case rll => exact rfl))
  | with_reducible refine w_gCons ?_
  | with_reducible refine w_gNil ?_
  | with_reducible refine w_gSub ?_
  | ((with_reducible refine' w_setL ?rls ?rlj ?_); (case rls => walk_at "rl hp"); (case rlj => exact rfl))
  | ((with_reducible refine' w_ixL ?rls ?rli ?_); (case rls => walk_at "rl hp"); (case rli => exact rfl))
  | ((with_reducible refine' w_ixT ?rls ?rli ?_); (case rls => walk_at "rl hp"); (case rli => exact rfl))
  | with_reducible refine w_call ?_
  | with_reducible refine w_trI ?_
  | with_reducible refine w_yes ?_
  | with_reducible refine w_trB ?_
  | with_reducible refine w_trN ?_
  | with_reducible refine w_cb ?_
  | with_reducible refine w_fld ?_
  | ((with_reducible refine' w_fld1 ?rlo ?rlc ?rln ?rll ?_); (case rlo => walk_at "rl hp"); (case rlc => assumption); (case rln => assumption); (case rll => exact rfl))
  | with_reducible refine w_isiO ?_
  | with_reducible refine w_isiT ?_
  | ((with_reducible refine' w_isi (r := true) ?rlt ?rlk ?_); (case rlt => walk_at "rl ty"); (case rlk => exact rfl))
  | ((with_reducible refine' w_isi (r := false) ?rlt ?rlk ?_); (case rlt => walk_at "rl ty"); (case rlk => exact rfl))
  | ((with_reducible refine' w_isi2 (r := true) ?rlT ?rlt ?rlk ?_); (case rlT => walk_at "rl hp"); (case rlt => walk_at "rl ty"); (case rlk => exact rfl))
  | ((with_reducible refine' w_isi2 (r := false) ?rlT ?rlt ?rlk ?_); (case rlT => walk_at "rl hp"); (case rlt => walk_at "rl ty"); (case rlk => exact rfl))
  | with_reducible refine w_sFld ?_
  | with_reducible refine w_itemsK ?_
  | ((with_reducible refine' w_catT ?rlha ?rlhb ?rln1 ?rln2 ?rlhl ?_); (case rlha => walk_at "rl hp"); (case rlhb => walk_at "rl hp"); (case rln1 => exact (fun z => nomatch z)); (case rln2 => exact (fun z => nomatch z)); (case rlhl => exact Nat.le_trans (Nat.le_of_ble_eq_true rfl) (show 100000 ≤ sizeLine by decide)))
  | ((with_reducible refine' w_newE ?_); intro _ _ _ _ _)
  | with_reducible refine w_makeK ?_
  | ((with_reducible refine' w_sFld1 ?rlc ?rln ?rll ?rle ?_); (case rlc => assumption); (case rln => assumption); (case rll => exact Nat.lt_of_lt_of_le (Nat.lt_succ_self _) (Nat.le_of_ble_eq_true rfl)); (case rle => exact rfl))
  | ((with_reducible refine' w_sFld0 ?rlx ?rlc ?rln ?rll ?rle ?_); (case rlx => walk_at "rl hq"); (case rlc => assumption); (case rln => assumption); (case rll => exact Nat.lt_of_lt_of_le (Nat.lt_succ_self _) (Nat.le_of_ble_eq_true rfl)); (case rle => exact rfl))
  | with_reducible refine w_rflA ?_
  | with_reducible refine w_for ?_
  | with_reducible refine w_iList ?_
  | with_reducible refine w_iTup ?_
  | ((with_reducible refine' w_overL ?rls ?_); (case rls => walk_at "rl hp"))
  | ((with_reducible refine' w_overT ?rls ?_); (case rls => walk_at "rl hp"))
  | with_reducible refine w_rng1 ?_
  | ((with_reducible refine' w_rng1a ?rl1 ?rl2 ?_); (case rl1 => omega); (case rl2 => omega))
  | with_reducible refine w_rng2 ?_
  | ((with_reducible refine' w_rng2a ?rl1 ?_); (case rl1 => omega))
  | with_reducible refine w_zip2 ?_
  | with_reducible refine w_lc ?_
  | with_reducible refine w_enS ?_
  | with_reducible refine w_callSD ?_
  | with_reducible refine w_xf ?_
  | ((with_reducible refine' w_dnew ?_); intro _ _ _ _ _)
  | ((with_reducible refine' w_disp1 ?_); intro _ _ _ _ _)
  | with_reducible refine w_bm ?_
  | ((with_reducible refine' w_tyL ?rls ?_); (case rls => walk_at "rl hp"))
  | ((with_reducible refine' w_append ?rls ?rll ?_); (case rls => walk_at "rl hq"); (case rll => exact Nat.lt_of_lt_of_le (Nat.lt_succ_self _) (Nat.le_of_ble_eq_true rfl)))
  | ((with_reducible refine' w_cat ?rls ?rlt ?rll ?_); (case rls => walk_at "rl hq"); (case rlt => walk_at "rl hq"); (case rll => exact Nat.le_of_ble_eq_true rfl); intro _ _ _ _ _)
  | with_reducible refine w_int1 ?_
  | ((with_reducible refine w_intb ?_); (try dsimp only))
  | with_reducible refine w_one ?_
  | with_reducible refine w_two ?_
  | ((with_reducible refine' w_lenL ?rls ?_); (case rls => walk_at "rl hp"))
  | ((with_reducible refine' w_lenT ?rls ?_); (case rls => walk_at "rl hp"))
  | with_reducible refine w_meth ?_
  | ((with_reducible refine' w_meth1 ?rlo ?rll ?_); (case rlo => walk_at "rl hp"); (case rll => exact rfl)))
local macro_rules | `(tactic| walk_at "rl wp") => `(tactic| (repeat walk_at "rl w1"))
local macro_rules | `(tactic| walk_at "rl but") => `(tactic| first
  | assumption
  | exact But.refl _ _
  | exact But.upd
  | exact But.of_same (by assumption)
  | (refine But.trans ?_ (But.of_same (by assumption)); walk_at "rl but")
  | (refine But.trans ?_ (by assumption : But _ _ _); walk_at "rl but")
  | (refine But.trans ?_ But.upd; walk_at "rl but"))
local macro_rules | `(tactic| walk_at "rl same") => `(tactic| first
  | assumption
  | exact Same.refl _
  | (refine Same.trans ?_ (by assumption : Same _ _); walk_at "rl same"))

local macro_rules | `(tactic| walk_at "rl wi") => `(tactic| (repeat (first
  | walk_at "rl w1"
  | ((with_reducible refine' iteF' ?rlif ?_); (case rlif => exact rfl))
  | ((with_reducible refine' iteT' ?rlif ?_); (case rlif => exact rfl)))))
local macro_rules | `(tactic| walk_at "rl ty") => `(tactic| exact .base (.dK (by assumption)))
local macro_rules | `(tactic| walk_at "rl ty") => `(tactic| exact .base (.lst (by assumption)))
local macro_rules | `(tactic| walk_at "rl ty") => `(tactic| exact .base (.tup (by assumption)))
local macro_rules | `(tactic| walk_at "rl w1") => `(tactic| first
  | with_reducible refine w_par3 ?_
  | ((with_reducible refine' w_par3a ?_); dsimp only [List.set])
  | with_reducible refine w_dget ?_
  | ((with_reducible refine' w_dgetS ?rls ?rlv ?_); (case rls => walk_at "rl hq"); (case rlv => exact rfl))
  | ((with_reducible refine' w_dgetI ?rls ?rlv ?_); (case rls => walk_at "rl hq"); (case rlv => exact rfl))
  | with_reducible refine w_dget2 ?_
  | ((with_reducible refine' w_isD ?rls ?_); (case rls => walk_at "rl hq"))
  | ((with_reducible refine' w_dget2S ?rls ?_); (case rls => walk_at "rl hq"))
  | ((with_reducible refine' w_dget2I ?rls ?_); (case rls => walk_at "rl hq"))
  | ((with_reducible refine' w_setDS ?rls ?rll ?rlm ?_); (case rls => walk_at "rl hq"); (case rll => exact Nat.lt_of_lt_of_le (Nat.lt_succ_self _) (Nat.le_of_ble_eq_true rfl)); (case rlm => exact rfl))
  | ((with_reducible refine' w_tyD ?rls ?_); (case rls => walk_at "rl hq"))
  | with_reducible refine w_jNil ?_
  | with_reducible refine w_jCons ?_
  | with_reducible refine w_prop ?_
  | with_reducible refine w_makeKS ?_
  | with_reducible refine w_pNil ?_
  | with_reducible refine w_pCons ?_
  | ((with_reducible refine' w_dispN ?_); intro _ _ _ _ _))

inductive EntD
  | fl (r : Str) (n b : Int)
  | dt (d : PyData)
def isCl (d : PyData) : Bool := PyData.eqv d (.tuple [.str "close"])
structure BS where
  dep : Int
  bits : List (List Key × V)
  has : Option Bool
def kof (r : Str) (n : Int) : List Key := [.inr r, .inl n]
def old (s : BS) (r : Str) (n : Int) : Int := match valV s.bits (kof r n) with
  | some (.int w) => w
  | _ => 8 * (if decide (0 < n) = true then 1 else 0)
def stepE (s : BS) : EntD → Option BS
  | .fl r n b => if s.dep = 0 ∨ (s.has ≠ none ∧ s.has ≠ some (decide (0 < n))) ∨ 512 < old s r n + b then none else some ⟨s.dep, putK s.bits (kof r n) (.int (old s r n + b)), some (decide (0 < n))⟩
  | .dt d => if isCl d = true then (if s.dep - 1 < 0 then none else some { s with dep := s.dep - 1 }) else if isOp d = false ∨ 8 < s.dep + 1 then none else some { s with dep := s.dep + 1 }
def badE (i : Nat) (s : BS) : List EntD → Option Nat
  | [] => if s.dep = 0 then none else some i
  | e :: es => match stepE s e with
    | none => some i
    | some s' => badE (i + 1) s' es
def BS.ok (s : BS) : Prop := ∀ kv ∈ s.bits, ∃ w, kv.2 = V.int w
def hV : Option Bool → V
  | none => .non
  | some b => .bl b
def EntAt (K : PySem.W.Frag) (H : Hp) (B : Addr → Prop) (x : V) : EntD → Prop
  | .fl r n b => ∃ (f : Addr) (v : Fa) (z m : Int), x = .ref f ∧ FldAt K H f v ∧ v.r = .str r ∧ v.n = .int n ∧ v.z = .int z ∧ v.a = .int m ∧ b = z * m ∧ 0 ≤ z ∧ z ≤ 32 ∧ 0 ≤ m ∧ m ≤ 255 ∧ 0 ≤ n ∧ n ≤ 255
  | .dt d => Dq H B x d ∧ SeqAt.shaped d = true
theorem EntAt.same {K : PySem.W.Frag} {H H' : Hp} {B : Addr → Prop} {x : V} {e : EntD} (s : Same H H') (h : EntAt K H B x e) : EntAt K H' B x e := by
  cases e with
  | fl r n b =>
    obtain ⟨f, v, z, m, e, ⟨dx, hf⟩, r⟩ := h
    exact ⟨f, v, z, m, e, ⟨dx, s _ _ hf⟩, r⟩
  | dt d => exact ⟨h.1.same s, h.2⟩
theorem valV_orL {κ : Type} [DecidableEq κ] (k : κ) : ∀ kvs : List (κ × V), valV kvs k = none ∨ ∃ kv ∈ kvs, valV kvs k = some kv.2
  | [] => .inl rfl
  | p :: r => by
    by_cases e : p.1 = k
    · exact .inr ⟨p, List.mem_cons_self .., valV_pos e⟩
    · rw [valV_neg e]
      rcases valV_orL k r with h | ⟨kv, hm, h⟩
      · exact .inl h
      · exact .inr ⟨kv, List.mem_cons_of_mem _ hm, h⟩
theorem old_getD {s : BS} (h : s.ok) (r : Str) (n : Int) : (valV s.bits (kof r n)).getD (.int (8 * (if decide (0 < n) = true then 1 else 0))) = .int (old s r n) := by
  unfold old
  rcases valV_orL (kof r n) s.bits with e | ⟨kv, hm, e⟩
  · rw [e]
    rfl
  · obtain ⟨w, ew⟩ := h kv hm
    rw [e, ew]
    rfl
theorem mem_putK {kvs : List (List Key × V)} {k : List Key} {y : V} {kv : List Key × V} (h : kv ∈ putK kvs k y) : kv ∈ kvs ∨ kv.2 = y := by
  unfold putK at h
  split at h
  · obtain ⟨p, hp, e⟩ := List.mem_map.mp h
    split at e
    · subst e
      exact .inr rfl
    · subst e
      exact .inl hp
  · rcases List.mem_append.mp h with h | h
    · exact .inl h
    · rw [List.mem_singleton.mp h]
      exact .inr rfl
theorem BS.ok.put {s : BS} (h : s.ok) {k : List Key} {w : Int} {d : Int} {b : Option Bool} : BS.ok ⟨d, putK s.bits k (.int w), b⟩ := fun kv m => by
  rcases mem_putK m with m | m
  · exact h kv m
  · exact ⟨w, m⟩
mutual
theorem dp_of {K : PySem.W.Frag} {H : Hp} {B : Addr → Prop} : ∀ (d : PyData) (x : V), d.canLay0 = true → Dq H B x d → Dp K H x d
  | .none, _, _, h => by cases h; exact .non
  | .bool _, _, _, h => by cases h; exact .bl _
  | .int _, _, _, h => by cases h; exact .int _
  | .str _, _, _, h => by cases h; exact .str _
  | .list ds, _, c, h => by
    cases h with
    | lst e n ha => exact .lst (SqL.of e) (dp_ofAll ds _ c ha)
  | .tuple ds, _, c, h => by
    cases h with
    | tup e n ha => exact .tup (SqT.of e) (dp_ofAll ds _ c ha)
  | .dict _, _, c, h => by cases c
theorem dp_ofAll {K : PySem.W.Frag} {H : Hp} {B : Addr → Prop} : ∀ (ds : List PyData) (xs : List V), PyData.canLayAll0 ds = true → DqAll H B xs ds → DpAll K H xs ds
  | [], _, _, h => by cases h; exact .nil
  | d :: ds, _, c, h => by
    cases h with
    | cons h1 h2 =>
      have z : (d.canLay0 && PyData.canLayAll0 ds) = true := c
      obtain ⟨z1, z2⟩ := Bool.and_eq_true_iff.mp z
      exact .cons (dp_of d _ z1 h1) (dp_ofAll ds _ z2 h2)
end
theorem dq_notF {K : PySem.W.Frag} {H : Hp} {B : Addr → Prop} {x : V} {d : PyData} (h : Dq H B x d) (n1 : PySem.W.kitOne K (.type "tuple") (.ref (He.ga K "Field")) = some false) (n2 : PySem.W.kitOne K (.type "list") (.ref (He.ga K "Field")) = some false)
    (n3 : PySem.W.kitOne K (.type "str") (.ref (He.ga K "Field")) = some false) (n4 : PySem.W.kitOne K (.type "int") (.ref (He.ga K "Field")) = some false) (n5 : PySem.W.kitOne K (.type "NoneType") (.ref (He.ga K "Field")) = some false)
    (n6 : PySem.W.kitOne K (.type "bool") (.ref (He.ga K "Field")) = some false) (n7 : PySem.W.kitOne K (.type "dict") (.ref (He.ga K "Field")) = some false) : ∃ t, TyX K H x t ∧ PySem.W.kitOne K t (.ref (He.ga K "Field")) = some false := by
  cases h with
  | non => exact ⟨_, .base .non, n5⟩
  | bl b => exact ⟨_, .base (.bl b), n6⟩
  | int i => exact ⟨_, .base (.int i), n4⟩
  | str s => exact ⟨_, .base (.str s), n3⟩
  | lst e _ _ => exact ⟨_, .base (.lst e), n2⟩
  | tup e _ _ => exact ⟨_, .base (.tup e), n1⟩
  | dk0 e _ => exact ⟨_, .base (.dK e), n7⟩
  | dk1 e _ => exact ⟨_, .base (.dK e), n7⟩
def nV : Option Nat → V
  | none => .non
  | some i => .int i
def spBadEntry (K : PySem.W.Frag) : Sp := fun vs H Q _ => ∃ (B : Addr → Prop) (l : Addr) (xs : List V) (es : List EntD), vs = [.ref l] ∧ H l = some (.lst xs) ∧ xs.length = es.length ∧ es.length ≤ 1000 ∧ (∀ (i : Nat) (x : V), xs[i]? = some x → ∃ e, es[i]? = some e ∧ EntAt K H B x e) ∧
  ∀ H', Same H H' → Q (nV (badE 0 ⟨0, [], none⟩ es)) H'
theorem w_dnewT {σ : L2.St} {H : Hp} {Q : VK} (h : ∀ p H', H p = none → Same H H' → H' p = some (.dT []) → Q (.ref p) H') : tDNewT σ H Q := fun p n => h p _ n (same_upd n) upd_same
theorem has_in (o : Option Bool) (b : Bool) : (if true = true then !inV (hV o) [V.non, .bl b] else inV (hV o) [V.non, .bl b]) = decide (o ≠ none ∧ o ≠ some b) := by
  cases o with
  | none => cases b <;> decide +kernel
  | some c => cases b <;> cases c <;> decide +kernel
theorem w_enm {K : PySem.W.Frag} {σ : L2.St} {H : Hp} {ta : TA} {R : It → Hp → Prop} (h : ta σ H fun vs H1 => ∃ a xs, vs = [.ref a] ∧ SqL K H1 a xs ∧ R (Ite K a) H1) : iEnum K ta σ H R := h
end T61
end
section
set_option Elab.async false
set_option linter.all false
set_option maxRecDepth 100000
set_option maxHeartbeats 0
namespace T61
open PySem PySem.Spec PyProof.Rows L2 L2.RL
local macro_rules | `(tactic| walk_at "rl ty") => `(tactic| first
  | assumption
  | exact .base (.int _)
  | exact .base (.str _)
  | exact .base .non
  | exact .base (.bl _)
  | exact ty_sqT (by walk_at "rl hp")
  | exact ty_sqL (by walk_at "rl hp")
  | exact .base (.tup (by walk_at "rl hp"))
  | exact .base (.lst (by walk_at "rl hp"))
  | exact .base (.dK (by walk_at "rl hp")))
local macro_rules | `(tactic| walk_at "rl if") => `(tactic| first
  | with_reducible refine iteT' rfl ?_
  | with_reducible refine iteF' rfl ?_
  | (refine iteT' rfl ?_)
  | (refine iteF' rfl ?_))
local macro_rules | `(tactic| walk_at "rl side") => `(tactic| first | assumption | omega | (constructor <;> omega) | decide)
local macro_rules | `(tactic| walk_at "rl ne") => `(tactic| first
  | assumption
  | exact Ne.symm (by assumption)
  | walk_at "rl ne2"
  | exact ne_of (by assumption) (by walk_at "rl hq") (by intro z; cases z)
  | exact (ne_of (by assumption) (by walk_at "rl hq") (by intro z; cases z)).symm)
local macro_rules | `(tactic| walk_at "rl hq") => `(tactic| first
  | assumption
  | exact upd_same
  | (refine' upd_at ?rlne ?rlhq; (case rlne => walk_at "rl ne"); (case rlhq => walk_at "rl hq"))
  | (refine' Same.at ?rlsa ?rlhq; (case rlsa => assumption); (case rlhq => walk_at "rl hq"))
  | (refine' But.at ?rlbu ?rlne ?rlhq; (case rlbu => assumption); (case rlne => walk_at "rl ne"); (case rlhq => walk_at "rl hq")))
local macro_rules | `(tactic| walk_at "rl hp") => `(tactic| first
  | assumption
  | (refine' SqL.of ?rlhq; (case rlhq => walk_at "rl hq"))
  | (refine' SqT.of ?rlhq; (case rlhq => walk_at "rl hq"))
  | (refine' Same.seq ?rlsa ?rlhp; (case rlsa => assumption); (case rlhp => walk_at "rl hp"))
  | (refine' Same.sqT ?rlsa ?rlhp; (case rlsa => assumption); (case rlhp => walk_at "rl hp"))
  | walk_at "rl hp2"
  | walk_at "rl hq")
local macro_rules | `(tactic| walk_at "rl w1") => `(tactic| first
  | with_reducible refine w_seq ?_
  | ((with_reducible refine' w_var ?rlv ?_); (case rlv => exact rfl))
  | with_reducible refine w_c ?_
  | with_reducible refine w_op ?_
  | with_reducible refine w_I0 ?_
  | with_reducible refine w_asg ?_
  | ((with_reducible refine' w_gName ?_); dsimp only [List.set])
  | ((with_reducible refine' w_nxD ?rle ?_); (case rle => exact rfl))
  | ((with_reducible refine' w_rtD ?rle ?_); (case rle => exact rfl))
  | with_reducible refine w_next ?_
  | with_reducible refine w_ret ?_
  | with_reducible refine w_cons ?_
  | with_reducible refine w_nil ?_
  | with_reducible refine w_ifS ?_
  | with_reducible refine w_test ?_
  | with_reducible refine w_B ?_
  | with_reducible refine w_bl ?_
  | with_reducible refine w_bl1 ?_
  | with_reducible refine w_blR ?_
  | with_reducible refine w_eqI ?_
  | with_reducible refine w_neI ?_
  | with_reducible refine w_eqS ?_
  | with_reducible refine w_neS ?_
  | with_reducible refine w_eqB ?_
  | with_reducible refine w_neB ?_
  | with_reducible refine w_and ?_
  | with_reducible refine w_or ?_
  | with_reducible refine w_not ?_
  | with_reducible refine w_andV ?_
  | with_reducible refine w_orV ?_
  | with_reducible refine w_notV ?_
  | with_reducible refine w_if ?_
  | with_reducible refine w_chain ?_
  | with_reducible refine w_un ?_
  | with_reducible refine w_U ?_
  | ((with_reducible refine' w_I ?rlc ?_); (case rlc => walk_at "rl side"))
  | with_reducible refine w_drop ?_
  | with_reducible refine w_retN ?_
  | with_reducible refine w_par ?_
  | ((with_reducible refine' w_par2 ?_); dsimp only [List.set])
  | ((with_reducible refine' w_aug ?rla ?_); (case rla => exact rfl))
  | with_reducible refine w_ipI ?_
  | with_reducible refine w_break ?_
  | with_reducible refine w_cont ?_
  | ((with_reducible refine' w_bkD ?rle ?_); (case rle => exact rfl))
  | ((with_reducible refine' w_ctD ?rle ?_); (case rle => exact rfl))
  | with_reducible refine w_tup ?_
  | with_reducible refine w_lst ?_
  | ((with_reducible refine' w_newO ?rln ?_); (case rln => exact Nat.le_of_ble_eq_true rfl); intro _ _ _ _ _)
  | ((with_reducible refine' w_new ?rln ?_); (case rln => exact Nat.le_of_ble_eq_true rfl))
  | ((with_reducible refine' w_mk ?_); intro _ _ _ _ _)
  | ((with_reducible refine' w_gTup ?rls ?rll ?_); (case rls => walk_at "rl hp"); (case rll => exact rfl))
  | with_reducible refine w_gCons ?_
  | with_reducible refine w_gNil ?_
  | with_reducible refine w_gSub ?_
  | ((with_reducible refine' w_setL ?rls ?rlj ?_); (case rls => walk_at "rl hp"); (case rlj => exact rfl))
  | ((with_reducible refine' w_ixL ?rls ?rli ?_); (case rls => walk_at "rl hp"); (case rli => exact rfl))
  | ((with_reducible refine' w_ixT ?rls ?rli ?_); (case rls => walk_at "rl hp"); (case rli => exact rfl))
  | with_reducible refine w_call ?_
  | with_reducible refine w_trI ?_
  | with_reducible refine w_yes ?_
  | with_reducible refine w_trB ?_
  | with_reducible refine w_trN ?_
  | with_reducible refine w_cb ?_
  | with_reducible refine w_fld ?_
  | ((with_reducible refine' w_fld1 ?rlo ?rlc ?rln ?rll ?_); (case rlo => walk_at "rl hp"); (case rlc => assumption); (case rln => assumption); (case rll => exact rfl))
  | with_reducible refine w_isiO ?_
  | with_reducible refine w_isiT ?_
  | ((with_reducible refine' w_isi (r := true) ?rlt ?rlk ?_); (case rlt => walk_at "rl ty"); (case rlk => exact rfl))
  | ((with_reducible refine' w_isi (r := false) ?rlt ?rlk ?_); (case rlt => walk_at "rl ty"); (case rlk => exact rfl))
  | ((with_reducible refine' w_isi2 (r := true) ?rlT ?rlt ?rlk ?_); (case rlT => walk_at "rl hp"); (case rlt => walk_at "rl ty"); (case rlk => exact rfl))
  | ((with_reducible refine' w_isi2 (r := false) ?rlT ?rlt ?rlk ?_); (case rlT => walk_at "rl hp"); (case rlt => walk_at "rl ty"); (case rlk => exact rfl))
  | with_reducible refine w_sFld ?_
  | with_reducible refine w_itemsK ?_
  | ((with_reducible refine' w_catT ?rlha ?rlhb ?rln1 ?rln2 ?rlhl ?_); (case rlha => walk_at "rl hp"); (case rlhb => walk_at "rl hp"); (case rln1 => exact (fun z => nomatch z)); (case rln2 => exact (fun z => nomatch z)); (case rlhl => exact Nat.le_trans (Nat.le_of_ble_eq_true rfl) (show 100000 ≤ sizeLine by decide)))
  | ((with_reducible refine' w_newE ?_); intro _ _ _ _ _)
  | with_reducible refine w_makeK ?_
  | ((with_reducible refine' w_sFld1 ?rlc ?rln ?rll ?rle ?_); (case rlc => assumption); (case rln => assumption); (case rll => exact Nat.lt_of_lt_of_le (Nat.lt_succ_self _) (Nat.le_of_ble_eq_true rfl)); (case rle => exact rfl))
  | ((with_reducible refine' w_sFld0 ?rlx ?rlc ?rln ?rll ?rle ?_); (case rlx => walk_at "rl hq"); (case rlc => assumption); (case rln => assumption); (case rll => exact Nat.lt_of_lt_of_le (Nat.lt_succ_self _) (Nat.le_of_ble_eq_true rfl)); (case rle => exact rfl))
  | with_reducible refine w_rflA ?_
  | with_reducible refine w_for ?_
  | with_reducible refine w_iList ?_
  | with_reducible refine w_iTup ?_
  | ((with_reducible refine' w_overL ?rls ?_); (case rls => walk_at "rl hp"))
  | ((with_reducible refine' w_overT ?rls ?_); (case rls => walk_at "rl hp"))
  | with_reducible refine w_rng1 ?_
  | ((with_reducible refine' w_rng1a ?rl1 ?rl2 ?_); (case rl1 => omega); (case rl2 => omega))
  | with_reducible refine w_rng2 ?_
  | ((with_reducible refine' w_rng2a ?rl1 ?_); (case rl1 => omega))
  | with_reducible refine w_zip2 ?_
  | with_reducible refine w_lc ?_
  | with_reducible refine w_enS ?_
  | with_reducible refine w_callSD ?_
  | with_reducible refine w_xf ?_
  | ((with_reducible refine' w_dnew ?_); intro _ _ _ _ _)
  | ((with_reducible refine' w_disp1 ?_); intro _ _ _ _ _)
  | with_reducible refine w_bm ?_
  | ((with_reducible refine' w_tyL ?rls ?_); (case rls => walk_at "rl hp"))
  | ((with_reducible refine' w_append ?rls ?rll ?_); (case rls => walk_at "rl hq"); (case rll => exact Nat.lt_of_lt_of_le (Nat.lt_succ_self _) (Nat.le_of_ble_eq_true rfl)))
  | ((with_reducible refine' w_cat ?rls ?rlt ?rll ?_); (case rls => walk_at "rl hq"); (case rlt => walk_at "rl hq"); (case rll => exact Nat.le_of_ble_eq_true rfl); intro _ _ _ _ _)
  | with_reducible refine w_int1 ?_
  | ((with_reducible refine w_intb ?_); (try dsimp only))
  | with_reducible refine w_one ?_
  | with_reducible refine w_two ?_
  | ((with_reducible refine' w_lenL ?rls ?_); (case rls => walk_at "rl hp"))
  | ((with_reducible refine' w_lenT ?rls ?_); (case rls => walk_at "rl hp"))
  | with_reducible refine w_meth ?_
  | ((with_reducible refine' w_meth1 ?rlo ?rll ?_); (case rlo => walk_at "rl hp"); (case rll => exact rfl)))
local macro_rules | `(tactic| walk_at "rl wp") => `(tactic| (repeat walk_at "rl w1"))
local macro_rules | `(tactic| walk_at "rl but") => `(tactic| first
  | assumption
  | exact But.refl _ _
  | exact But.upd
  | exact But.of_same (by assumption)
  | (refine But.trans ?_ (But.of_same (by assumption)); walk_at "rl but")
  | (refine But.trans ?_ (by assumption : But _ _ _); walk_at "rl but")
  | (refine But.trans ?_ But.upd; walk_at "rl but"))
local macro_rules | `(tactic| walk_at "rl same") => `(tactic| first
  | assumption
  | exact Same.refl _
  | (refine Same.trans ?_ (by assumption : Same _ _); walk_at "rl same"))

local macro_rules | `(tactic| walk_at "rl wi") => `(tactic| (repeat (first
  | walk_at "rl w1"
  | ((with_reducible refine' iteF' ?rlif ?_); (case rlif => exact rfl))
  | ((with_reducible refine' iteT' ?rlif ?_); (case rlif => exact rfl)))))
local macro_rules | `(tactic| walk_at "rl ty") => `(tactic| exact .base (.dK (by assumption)))
local macro_rules | `(tactic| walk_at "rl ty") => `(tactic| exact .base (.lst (by assumption)))
local macro_rules | `(tactic| walk_at "rl ty") => `(tactic| exact .base (.tup (by assumption)))
local macro_rules | `(tactic| walk_at "rl w1") => `(tactic| first
  | with_reducible refine w_par3 ?_
  | ((with_reducible refine' w_par3a ?_); dsimp only [List.set])
  | with_reducible refine w_dget ?_
  | ((with_reducible refine' w_dgetS ?rls ?rlv ?_); (case rls => walk_at "rl hq"); (case rlv => exact rfl))
  | ((with_reducible refine' w_dgetI ?rls ?rlv ?_); (case rls => walk_at "rl hq"); (case rlv => exact rfl))
  | with_reducible refine w_dget2 ?_
  | ((with_reducible refine' w_isD ?rls ?_); (case rls => walk_at "rl hq"))
  | ((with_reducible refine' w_dget2S ?rls ?_); (case rls => walk_at "rl hq"))
  | ((with_reducible refine' w_dget2I ?rls ?_); (case rls => walk_at "rl hq"))
  | ((with_reducible refine' w_setDS ?rls ?rll ?rlm ?_); (case rls => walk_at "rl hq"); (case rll => exact Nat.lt_of_lt_of_le (Nat.lt_succ_self _) (Nat.le_of_ble_eq_true rfl)); (case rlm => exact rfl))
  | ((with_reducible refine' w_tyD ?rls ?_); (case rls => walk_at "rl hq"))
  | with_reducible refine w_jNil ?_
  | with_reducible refine w_jCons ?_
  | with_reducible refine w_prop ?_
  | with_reducible refine w_makeKS ?_
  | with_reducible refine w_pNil ?_
  | with_reducible refine w_pCons ?_
  | ((with_reducible refine' w_dispN ?_); intro _ _ _ _ _))

local macro_rules | `(tactic| walk_at "rl w1") => `(tactic| ((with_reducible refine' w_dnewT ?_); intro _ _ _ _ _))
local macro_rules | `(tactic| walk_at "rl w1") => `(tactic| with_reducible refine w_enm ?_)
theorem sc_bad_entry : FnScope ["entries", "depth", "bits", "has_ids", "index", "entry", "key"] ["entries"] (defScope (top 60)) := ⟨rfl, rfl, rfl, by decide +kernel, rfl, by decide +kernel, by decide +kernel⟩
theorem ok_bad_entry {P : Program} {w : World} {K : PySem.W.Frag} {mg : Str → Option Value} {base : Heap} (T : TT K mg) (D_is_opening : Ld P w K mg base CX0 3 "is_opening" ["entry"] [] (spIsOpening)) (D_Field_total_bits : Lq P w K mg base CX0 1 "Field" "total_bits" ["self"] [] (spBits K))   : Ld P w K mg base CX0 4 "bad_entry" ["entries"] [] (spBadEntry K) := by
  obtain ⟨⟨fd_is_opening, ds_is_opening, F_is_opening, b_is_opening, v_is_opening⟩, g_is_opening, k_is_opening⟩ := D_is_opening
  obtain ⟨⟨fd_Field_total_bits, ds_Field_total_bits, F_Field_total_bits, b_Field_total_bits, v_Field_total_bits⟩⟩ := D_Field_total_bits
  obtain ⟨fd, F⟩ := T.d_bad_entry
  refine ⟨⟨fd, [], F.ok sc_bad_entry (fun vs H Q E h => ?_) (fun cdv A outer s H vs Q E hr h => ?_), FunD.bindsN F (fun _ _ _ _ _ _ us hl => match us, hl with | [_], _ => rfl), .nil⟩, T.g_bad_entry, F.kp⟩
  · obtain ⟨B, l, xs, es, rfl, _⟩ := h
    rfl
  · obtain ⟨B, l, xs, es, rfl, hl, hxl, hz, hes, q⟩ := h
    have c_F := T.c_Field
    have n_role := T.n_Field_role
    have n_number := T.n_Field_number
    have n_flags := T.n_Field_flags
    have n_size := T.n_Field_size
    have n_amount := T.n_Field_amount
    have n_low := T.n_Field_low
    have n_high := T.n_Field_high
    have n_plow := T.n_Field_plow
    have n_phigh := T.n_Field_phigh
    have n_exponent := T.n_Field_exponent
    have n_unit := T.n_Field_unit
    have n_usages := T.n_Field_usages
    have iF1 := T.ic_Field
    have iF2 := T.ig_Field
    have iF3 := T.it_Field
    have iF4 := T.im_Field
    have iF5 := T.if_Field
    have ino0 := T.ino_tuple
    have ino1 := T.ino_list
    have ino2 := T.ino_str
    have ino3 := T.ino_int
    have ino4 := T.ino_NoneType
    have ino5 := T.ino_bool
    have ino6 := T.ino_dict
    refine ⟨_, PSs.nox ((pss_cons (ps_par3 (i := 1) (j := 2) (l := 3) (by rfl) sc_bad_entry.nd rfl rfl rfl (by decide) (by decide) (by decide) rfl rfl rfl (pa_cons pe_int (pa_cons pe_dnewT (pa_cons pe_non pa_nil))) (by rfl)) (pss_cons (ps_for PassesOwn.never rfl (pi_enum (by rfl) T.m_enumerate (pa_cons (pv 0) pa_nil)) (pg_tup rfl (pgs_cons (pg_name (i := 4) sc_bad_entry.nd rfl (by first | exact Or.inl rfl | exact Or.inr rfl)) (pgs_cons (pg_name (i := 5) sc_bad_entry.nd rfl (by first | exact Or.inl rfl | exact Or.inr rfl)) pgs_nil))) (pss_one (ps_if (pt_val (pe_callB call_isi (by rfl) T.m_isinstance (by decide +kernel) (pa_cons (pv 5) (pa_cons (pe_glob rfl (T.g_Field) (show RelV (.ref (He.ga K "Field")) _ from rfl)) pa_nil)))) (pss_cons (ps_set (i := 6) sc_bad_entry.nd rfl (by first | exact Or.inl rfl | exact Or.inr rfl) (pe_tup (pa_cons (pe_fld (pv 5) rfl) (pa_cons (pe_fld (pv 5) rfl) pa_nil)))) (pss_cons (ps_asg (pe_op op_add (pe_dget2 (room_u1 hr) (pv 2) (pv 6) (pe_op op_mul pe_int (pe_callTy call_int1 (by rfl) T.m_int (by decide +kernel) (pa_cons (pe_cmpR op_gt (pe_fld (pv 5) rfl) pe_int (nomark _)) pa_nil))) ⟨by rfl, by rfl, by rfl, by rfl⟩) (pe_prop (pv 5) T.c_Field T.pp_Field_total_bits F_Field_total_bits (hr.mono (by decide)) b_Field_total_bits v_Field_total_bits pass0 (by rfl))) (pg_sub (pv 2) (pv 6) (set_dict (room_u1 hr)))) (pss_cons (ps_if (PW.pt (pw_or (pt_cmpR op_eq (pv 1) pe_int (nomark _)) (pw_or (pt_cmpR op_notIn_seq (pv 3) (pe_tup (pa_cons pe_non (pa_cons (pe_cmpR op_gt (pe_fld (pv 5) rfl) pe_int (nomark _)) pa_nil))) (by rfl)) (pw_or1 (pt_cmpR op_gt (pe_dget (room_u1 hr) (pv 2) (pv 6) (fun _ _ => rfl)) (pe_glob rfl (T.i_MOST_BITS_layouts).choose_spec (show RelV (.int (512)) _ from ⟨_, rfl⟩)) (nomark _)))))) (pss_one (ps_ret (pv 4))) pss_nil) (pss_one (ps_set (i := 3) sc_bad_entry.nd rfl (by first | exact Or.inl rfl | exact Or.inr rfl) (pe_cmpR op_gt (pe_fld (pv 5) rfl) pe_int (nomark _))))))) (pss_one (ps_if (pt_cmpR (op_eqD hr.units) (pv 5) (pe_tup (pa_cons (pe_glob rfl (T.i_CLOSE).choose_spec (show RelV (.str "close") _ from ⟨_, rfl⟩)) pa_nil)) (nomark _)) (pss_cons (ps_aug (i := 1) sc_bad_entry.nd rfl (by first | exact Or.inl rfl | exact Or.inr rfl) pe_int ip_sub) (pss_one (ps_if (pt_cmpR op_lt (pv 1) pe_int (nomark _)) (pss_one (ps_ret (pv 4))) pss_nil))) (pss_cons (ps_aug (i := 1) sc_bad_entry.nd rfl (by first | exact Or.inl rfl | exact Or.inr rfl) pe_int ip_add) (pss_one (ps_if (PW.pt (pw_or (pt_not (pt_val (pe_call F_is_opening hr (by rfl) g_is_opening k_is_opening b_is_opening v_is_opening pass0 (pa_cons (pv 5) pa_nil)))) (pw_or1 (pt_cmpR op_gt (pv 1) (pe_glob rfl (T.i_MOST_DEPTH_layouts).choose_spec (show RelV (.int (8)) _ from ⟨_, rfl⟩)) (nomark _))))) (pss_one (ps_ret (pv 4))) pss_nil)))))))) (pss_one (ps_ret (pe_ifExp (pt_cmpR op_eq (pv 1) pe_int (nomark _)) pe_non (pe_callB call_len_seq (by rfl) T.m_len PySem.boot_len (pa_cons (pv 0) pa_nil)))))))), ?_⟩; rw [start_7_1]; try dsimp only [cxOf]
    walk_at "rl wp"
    rename_i D H1 nD sD hD
    refine ⟨l, xs, rfl, SqL.of (sD _ _ hl), ?_⟩
    walk_at "rl wp"
    refine w_forI es.length (fun i σ' H' => Same H H' ∧ ∃ (s : BS) (y4 y5 y6 : Option V), H' D = some (.dT s.bits) ∧ s.ok ∧ s.bits.length ≤ i ∧ badE 0 ⟨0, [], none⟩ es = badE i s (es.drop i) ∧ σ' = [some (.ref l), some (.int s.dep), some (.ref D), some (hV s.has), y4, y5, y6]) ⟨sD, ⟨0, [], none⟩, _, _, _, hD, (fun _ z => nomatch z), Nat.zero_le _, rfl, rfl⟩ ?_ ?_
    rotate_left
    · rintro σ' H' ⟨sm, s, y4, y5, y6, hDs, ok, hbl, eb, rfl⟩
      refine ⟨⟨xs, SqL.of (sm _ _ hl), by omega⟩, ?_⟩
      rw [List.drop_length] at eb
      have eb' : badE 0 ⟨0, [], none⟩ es = if s.dep = 0 then none else some es.length := eb
      have hl' := sm _ _ hl
      walk_at "rl wp"
      refine ite_dec (fun c => ?_) (fun c => ?_)
      · rw [eb', if_pos c] at q
        walk_at "rl wp"
        exact q _ sm
      · rw [eb', if_neg c] at q
        walk_at "rl wp"
        rw [hxl]
        exact q _ sm
    rintro i σ' H2 hi ⟨sm, s, y4, y5, y6, hDs, ok, hbl, eb, rfl⟩
    obtain ⟨x, hx⟩ : ∃ x, xs[i]? = some x := ⟨xs[i]'(by omega), List.getElem?_eq_getElem (by omega)⟩
    obtain ⟨e, he, hea⟩ := hes i x hx
    refine ⟨⟨xs, x, SqL.of (sm _ _ hl), hx⟩, fun v H3 ⟨T', x', e1, nT, e2, e3⟩ => ?_⟩
    have exx := e3 xs (SqL.of (sm _ _ hl))
    rw [hx] at exx
    cases exx
    subst e1
    have hT3 : H3 T' = some (.tup [.int (i : Nat), x]) := by rw [e2]; exact upd_same
    have s23 : Same H2 H3 := by rw [e2]; exact same_upd nT
    have s3 : Same H H3 := sm.trans s23
    have hD3 := s23 _ _ hDs
    have hea3 := hea.same s3
    have edr : es.drop i = e :: es.drop (i + 1) := by
      obtain ⟨h1, h2⟩ := List.getElem?_eq_some_iff.mp he
      rw [List.drop_eq_getElem_cons h1, h2]
    rw [edr] at eb
    have eb2 : badE i s (e :: es.drop (i + 1)) = match stepE s e with
        | none => some i
        | some s' => badE (i + 1) s' (es.drop (i + 1)) := rfl
    rw [eb2] at eb
    clear eb2 edr e2 e3 s23 hea
    walk_at "rl wp"
    have kz : (2000 : Nat) ≤ sizeLine := by decide
    cases e with
    | fl r n b =>
      obtain ⟨f, v, z, m, rfl, ⟨dx, ef⟩, e_r, e_n, e_z, e_a, rfl, z0, z1, m0, m1, n0, n1⟩ := hea3
      obtain ⟨x0, x1, x2, x3, x4, x5, x6, x7, x8, x9, x10, x11⟩ := v
      obtain rfl : x0 = .str r := e_r
      obtain rfl : x1 = .int n := e_n
      obtain rfl : x3 = .int z := e_z
      obtain rfl : x4 = .int m := e_a
      refine ⟨.ref f, .ref (He.ga K "Field"), .ref (He.ga K "Field"), .ref (He.ga K "Field"), true, rfl, .own _, .base (.ins ef c_F iF1 iF2 iF3 iF4), iF5, ?_⟩
      have cm : ∀ b : Bool, CMul 8 (if b = true then 1 else 0) := fun b => by
        right
        cases b <;> simp
      walk_at "rl wi"
      rename_i Tk H4 nk sk hk
      have hD4 := sk _ _ hD3
      have ef4 := sk _ _ ef
      refine ⟨D, rfl, .inr ⟨s.bits, .inl hD4⟩, ?_⟩
      walk_at "rl wp"
      refine ⟨_, DGet.t (k := kof r n) hD4 hk, ?_⟩
      rw [old_getD ok r n]
      walk_at "rl wp"
      refine ⟨f, dx, _, rfl, ef4, f, _, z, m, rfl, ⟨dx, ef4⟩, rfl, rfl, z0, z1, m0, m1, ?_⟩
      walk_at "rl wp"
      refine ⟨D, _, rfl, DPut.t (k := kof r n) hD4 hk (by omega), ?_⟩
      obtain ⟨w, hw⟩ : ∃ w, w = old s r n + z * m := ⟨_, rfl⟩
      rw [← hw]
      obtain ⟨H5, e5⟩ : ∃ H5, H5 = upd H4 D (HO.dT (putK s.bits (kof r n) (.int w))) := ⟨_, rfl⟩
      rw [← e5]
      have hD5 : H5 D = some (.dT (putK s.bits (kof r n) (.int w))) := by rw [e5]; exact upd_same
      have s05 : Same H H5 := Same.but_new nD (s3.trans sk) (by rw [e5]; exact But.upd)
      have hk5 : H5 Tk = some (.tup [.str r, .int n]) := by rw [e5, upd_ne (ne_of hk hD4 (fun z => nomatch z))]; exact hk
      have ef5 : H5 f = some (.ins (He.ga K "Field") dx (Fa.at ⟨.str r, .int n, x2, .int z, .int m, x5, x6, x7, x8, x9, x10, x11⟩)) := by rw [e5, upd_ne (ne_of ef4 hD4 (fun z => nomatch z))]; exact ef4
      have es0 : stepE s (.fl r n (z * m)) = if s.dep = 0 ∨ (s.has ≠ none ∧ s.has ≠ some (decide (0 < n))) ∨ 512 < w then none else some ⟨s.dep, putK s.bits (kof r n) (.int w), some (decide (0 < n))⟩ := by rw [hw]; rfl
      clear e5 hD4 ef4 ef hk hD3 sk
      walk_at "rl wp"
      refine ite_dec (fun c => ?_) (fun c => ?_)
      · rw [es0, if_pos (.inl c)] at eb
        rw [eb] at q
        walk_at "rl wi"
        exact q _ s05
      walk_at "rl wp"
      rename_i Tn H6 nn6 s6 h6
      refine w_inT (SqT.of h6) (by cases s.has <;> rfl) (by cases decide (0 < n) <;> rfl) ?_
      rw [has_in]
      have hD6 := s6 _ _ hD5
      have hk6 := s6 _ _ hk5
      have ef6 := s6 _ _ ef5
      have s06 := s05.trans s6
      clear hD5 hk5 ef5 s6 h6
      walk_at "rl wp"
      refine ite_dec (fun c2 => ?_) (fun c2 => ?_)
      · rw [es0, if_pos (.inr (.inl c2))] at eb
        rw [eb] at q
        walk_at "rl wi"
        exact q _ s06
      walk_at "rl wp"
      refine ⟨D, .int w, rfl, by have h := DGet.t (k := kof r n) hD6 hk6; rw [valV_put, if_pos rfl] at h; exact h, ?_⟩
      walk_at "rl wp"
      refine ite_dec (fun c3 => ?_) (fun c3 => ?_)
      · rw [es0, if_pos (.inr (.inr c3))] at eb
        rw [eb] at q
        walk_at "rl wi"
        exact q _ s06
      rw [es0, if_neg (by rintro (h | h | h); exact c h; exact c2 h; exact c3 h)] at eb
      walk_at "rl wi"
      have lp := length_putK s.bits (kof r n) (.int w)
      exact ⟨s06, ⟨s.dep, putK s.bits (kof r n) (.int w), some (decide (0 < n))⟩, _, _, _, hD6, BS.ok.put ok, Nat.le_trans lp (Nat.succ_le_succ hbl), eb, rfl⟩
    | dt d =>
      obtain ⟨hdq, hsh⟩ := hea3
      obtain ⟨t, ty, kt⟩ := dq_notF hdq ino0 ino1 ino2 ino3 ino4 ino5 ino6
      refine ⟨x, .ref (He.ga K "Field"), t, .ref (He.ga K "Field"), false, rfl, .own _, ty, kt, ?_⟩
      walk_at "rl wi"
      rename_i Tc H4 nc sc hc
      refine ⟨d, .tuple [.str "close"], dp_of d x (SeqAt.canLay_of_shaped hsh) (hdq.same sc), .tup (SqT.of hc) (.cons (.str _) .nil), hsh, by decide +kernel, ?_⟩
      rw [show PyData.eqv d (.tuple [.str "close"]) = isCl d from rfl]
      have hD4 := sc _ _ hD3
      have s04 := s3.trans sc
      have hdq4 := hdq.same sc
      have es0 : stepE s (.dt d) = if isCl d = true then (if s.dep - 1 < 0 then none else some { s with dep := s.dep - 1 }) else if isOp d = false ∨ 8 < s.dep + 1 then none else some { s with dep := s.dep + 1 } := rfl
      cases hcl : isCl d with
      | true =>
        rw [hcl, if_pos rfl] at es0
        walk_at "rl wi"
        refine ite_dec (fun c => ?_) (fun c => ?_)
        · rw [es0, if_pos c] at eb
          rw [eb] at q
          walk_at "rl wi"
          exact q _ s04
        rw [es0, if_neg c] at eb
        walk_at "rl wi"
        exact ⟨s04, ⟨s.dep - 1, s.bits, s.has⟩, _, _, _, hD4, ok, Nat.le_succ_of_le hbl, eb, rfl⟩
      | false =>
        rw [hcl, if_neg (by decide)] at es0
        walk_at "rl wi"
        refine ⟨B, x, d, rfl, hdq4, ?_⟩
        walk_at "rl wp"
        cases hop : isOp d with
        | false =>
          rw [es0, if_pos (.inl hop)] at eb
          rw [eb] at q
          walk_at "rl wi"
          exact q _ s04
        | true =>
          walk_at "rl wi"
          refine ite_dec (fun c => ?_) (fun c => ?_)
          · rw [es0, if_pos (.inr c)] at eb
            rw [eb] at q
            walk_at "rl wi"
            exact q _ s04
          rw [es0, if_neg (by rintro (h | h); rw [hop] at h; cases h; exact c h)] at eb
          walk_at "rl wi"
          exact ⟨s04, ⟨s.dep + 1, s.bits, s.has⟩, _, _, _, hD4, ok, Nat.le_succ_of_le hbl, eb, rfl⟩
end T61
end
section
set_option Elab.async false
set_option linter.all false
set_option maxRecDepth 100000
set_option maxHeartbeats 1000000
namespace T61
open PySem PySem.Spec PyProof.Rows L2 L2.RL
local macro_rules | `(tactic| walk_at "rl ty") => `(tactic| first
  | assumption
  | exact .base (.int _)
  | exact .base (.str _)
  | exact .base .non
  | exact .base (.bl _)
  | exact ty_sqT (by walk_at "rl hp")
  | exact ty_sqL (by walk_at "rl hp")
  | exact .base (.tup (by walk_at "rl hp"))
  | exact .base (.lst (by walk_at "rl hp"))
  | exact .base (.dK (by walk_at "rl hp")))
local macro_rules | `(tactic| walk_at "rl if") => `(tactic| first
  | with_reducible refine iteT' rfl ?_
  | with_reducible refine iteF' rfl ?_
  | (refine iteT' rfl ?_)
  | (refine iteF' rfl ?_))
local macro_rules | `(tactic| walk_at "rl side") => `(tactic| first | assumption | omega | (constructor <;> omega) | decide)
local macro_rules | `(tactic| walk_at "rl ne") => `(tactic| first
  | assumption
  | exact Ne.symm (by assumption)
  | walk_at "rl ne2"
  | exact ne_of (by assumption) (by walk_at "rl hq") (by intro z; cases z)
  | exact (ne_of (by assumption) (by walk_at "rl hq") (by intro z; cases z)).symm)
local macro_rules | `(tactic| walk_at "rl hq") => `(tactic| first
  | assumption
  | exact upd_same
  | (refine' upd_at ?rlne ?rlhq; (case rlne => walk_at "rl ne"); (case rlhq => walk_at "rl hq"))
  | (refine' Same.at ?rlsa ?rlhq; (case rlsa => assumption); (case rlhq => walk_at "rl hq"))
  | (refine' But.at ?rlbu ?rlne ?rlhq; (case rlbu => assumption); (case rlne => walk_at "rl ne"); (case rlhq => walk_at "rl hq")))
local macro_rules | `(tactic| walk_at "rl hp") => `(tactic| first
  | assumption
  | (refine' SqL.of ?rlhq; (case rlhq => walk_at "rl hq"))
  | (refine' SqT.of ?rlhq; (case rlhq => walk_at "rl hq"))
  | (refine' Same.seq ?rlsa ?rlhp; (case rlsa => assumption); (case rlhp => walk_at "rl hp"))
  | (refine' Same.sqT ?rlsa ?rlhp; (case rlsa => assumption); (case rlhp => walk_at "rl hp"))
  | walk_at "rl hp2"
  | walk_at "rl hq")
local macro_rules | `(tactic| walk_at "rl w1") => `(tactic| first
  | with_reducible refine w_seq ?_
  | ((with_reducible refine' w_var ?rlv ?_); (case rlv => exact rfl))
  | with_reducible refine w_c ?_
  | with_reducible refine w_op ?_
  | with_reducible refine w_I0 ?_
  | with_reducible refine w_asg ?_
  | ((with_reducible refine' w_gName ?_); dsimp only [List.set])
  | ((with_reducible refine' w_nxD ?rle ?_); (case rle => exact rfl))
  | ((with_reducible refine' w_rtD ?rle ?_); (case rle => exact rfl))
  | with_reducible refine w_next ?_
  | with_reducible refine w_ret ?_
  | with_reducible refine w_cons ?_
  | with_reducible refine w_nil ?_
  | with_reducible refine w_ifS ?_
  | with_reducible refine w_test ?_
  | with_reducible refine w_B ?_
  | with_reducible refine w_bl ?_
  | with_reducible refine w_bl1 ?_
  | with_reducible refine w_blR ?_
  | with_reducible refine w_eqI ?_
  | with_reducible refine w_neI ?_
  | with_reducible refine w_eqS ?_
  | with_reducible refine w_neS ?_
  | with_reducible refine w_eqB ?_
  | with_reducible refine w_neB ?_
  | with_reducible refine w_and ?_
  | with_reducible refine w_or ?_
  | with_reducible refine w_not ?_
  | with_reducible refine w_andV ?_
  | with_reducible refine w_orV ?_
  | with_reducible refine w_notV ?_
  | with_reducible refine w_if ?_
  | with_reducible refine w_chain ?_
  | with_reducible refine w_un ?_
  | with_reducible refine w_U ?_
  | ((with_reducible refine' w_I ?rlc ?_); (case rlc => walk_at "rl side"))
  | with_reducible refine w_drop ?_
  | with_reducible refine w_retN ?_
  | with_reducible refine w_par ?_
  | ((with_reducible refine' w_par2 ?_); dsimp only [List.set])
  | ((with_reducible refine' w_aug ?rla ?_); (case rla => exact rfl))
  | with_reducible refine w_ipI ?_
  | with_reducible refine w_break ?_
  | with_reducible refine w_cont ?_
  | ((with_reducible refine' w_bkD ?rle ?_); (case rle => exact rfl))
  | ((with_reducible refine' w_ctD ?rle ?_); (case rle => exact rfl))
  | with_reducible refine w_tup ?_
  | with_reducible refine w_lst ?_
  | ((with_reducible refine' w_newO ?rln ?_); (case rln => exact Nat.le_of_ble_eq_true rfl); intro _ _ _ _ _)
  | ((with_reducible refine' w_new ?rln ?_); (case rln => exact Nat.le_of_ble_eq_true rfl))
  | ((with_reducible refine' w_mk ?_); intro _ _ _ _ _)
  | ((with_reducible refine' w_gTup ?rls ?rll ?_); (case rls => walk_at "rl hp"); (case rll => exact rfl))
  | with_reducible refine w_gCons ?_
  | with_reducible refine w_gNil ?_
  | with_reducible refine w_gSub ?_
  | ((with_reducible refine' w_setL ?rls ?rlj ?_); (case rls => walk_at "rl hp"); (case rlj => exact rfl))
  | ((with_reducible refine' w_ixL ?rls ?rli ?_); (case rls => walk_at "rl hp"); (case rli => exact rfl))
  | ((with_reducible refine' w_ixT ?rls ?rli ?_); (case rls => walk_at "rl hp"); (case rli => exact rfl))
  | with_reducible refine w_call ?_
  | with_reducible refine w_trI ?_
  | with_reducible refine w_yes ?_
  | with_reducible refine w_trB ?_
  | with_reducible refine w_trN ?_
  | with_reducible refine w_cb ?_
  | with_reducible refine w_fld ?_
  | ((with_reducible refine' w_fld1 ?rlo ?rlc ?rln ?rll ?_); (case rlo => walk_at "rl hp"); (case rlc => assumption); (case rln => assumption); (case rll => exact rfl))
  | with_reducible refine w_isiO ?_
  | with_reducible refine w_isiT ?_
  | ((with_reducible refine' w_isi (r := true) ?rlt ?rlk ?_); (case rlt => walk_at "rl ty"); (case rlk => exact rfl))
  | ((with_reducible refine' w_isi (r := false) ?rlt ?rlk ?_); (case rlt => walk_at "rl ty"); (case rlk => exact rfl))
  | ((with_reducible refine' w_isi2 (r := true) ?rlT ?rlt ?rlk ?_); (case rlT => walk_at "rl hp"); (case rlt => walk_at "rl ty"); (case rlk => exact rfl))
  | ((with_reducible refine' w_isi2 (r := false) ?rlT ?rlt ?rlk ?_); (case rlT => walk_at "rl hp"); (case rlt => walk_at "rl ty"); (case rlk => exact rfl))
  | with_reducible refine w_sFld ?_
  | with_reducible refine w_itemsK ?_
  | ((with_reducible refine' w_catT ?rlha ?rlhb ?rln1 ?rln2 ?rlhl ?_); (case rlha => walk_at "rl hp"); (case rlhb => walk_at "rl hp"); (case rln1 => exact (fun z => nomatch z)); (case rln2 => exact (fun z => nomatch z)); (case rlhl => exact Nat.le_trans (Nat.le_of_ble_eq_true rfl) (show 100000 ≤ sizeLine by decide)))
  | ((with_reducible refine' w_newE ?_); intro _ _ _ _ _)
  | with_reducible refine w_makeK ?_
  | ((with_reducible refine' w_sFld1 ?rlc ?rln ?rll ?rle ?_); (case rlc => assumption); (case rln => assumption); (case rll => exact Nat.lt_of_lt_of_le (Nat.lt_succ_self _) (Nat.le_of_ble_eq_true rfl)); (case rle => exact rfl))
  | ((with_reducible refine' w_sFld0 ?rlx ?rlc ?rln ?rll ?rle ?_); (case rlx => walk_at "rl hq"); (case rlc => assumption); (case rln => assumption); (case rll => exact Nat.lt_of_lt_of_le (Nat.lt_succ_self _) (Nat.le_of_ble_eq_true rfl)); (case rle => exact rfl))
  | with_reducible refine w_rflA ?_
  | with_reducible refine w_for ?_
  | with_reducible refine w_iList ?_
  | with_reducible refine w_iTup ?_
  | ((with_reducible refine' w_overL ?rls ?_); (case rls => walk_at "rl hp"))
  | ((with_reducible refine' w_overT ?rls ?_); (case rls => walk_at "rl hp"))
  | with_reducible refine w_rng1 ?_
  | ((with_reducible refine' w_rng1a ?rl1 ?rl2 ?_); (case rl1 => omega); (case rl2 => omega))
  | with_reducible refine w_rng2 ?_
  | ((with_reducible refine' w_rng2a ?rl1 ?_); (case rl1 => omega))
  | with_reducible refine w_zip2 ?_
  | with_reducible refine w_lc ?_
  | with_reducible refine w_enS ?_
  | with_reducible refine w_callSD ?_
  | with_reducible refine w_xf ?_
  | ((with_reducible refine' w_dnew ?_); intro _ _ _ _ _)
  | ((with_reducible refine' w_disp1 ?_); intro _ _ _ _ _)
  | with_reducible refine w_bm ?_
  | ((with_reducible refine' w_tyL ?rls ?_); (case rls => walk_at "rl hp"))
  | ((with_reducible refine' w_append ?rls ?rll ?_); (case rls => walk_at "rl hq"); (case rll => exact Nat.lt_of_lt_of_le (Nat.lt_succ_self _) (Nat.le_of_ble_eq_true rfl)))
  | ((with_reducible refine' w_cat ?rls ?rlt ?rll ?_); (case rls => walk_at "rl hq"); (case rlt => walk_at "rl hq"); (case rll => exact Nat.le_of_ble_eq_true rfl); intro _ _ _ _ _)
  | with_reducible refine w_int1 ?_
  | ((with_reducible refine w_intb ?_); (try dsimp only))
  | with_reducible refine w_one ?_
  | with_reducible refine w_two ?_
  | ((with_reducible refine' w_lenL ?rls ?_); (case rls => walk_at "rl hp"))
  | ((with_reducible refine' w_lenT ?rls ?_); (case rls => walk_at "rl hp"))
  | with_reducible refine w_meth ?_
  | ((with_reducible refine' w_meth1 ?rlo ?rll ?_); (case rlo => walk_at "rl hp"); (case rll => exact rfl)))
local macro_rules | `(tactic| walk_at "rl wp") => `(tactic| (repeat walk_at "rl w1"))
local macro_rules | `(tactic| walk_at "rl but") => `(tactic| first
  | assumption
  | exact But.refl _ _
  | exact But.upd
  | exact But.of_same (by assumption)
  | (refine But.trans ?_ (But.of_same (by assumption)); walk_at "rl but")
  | (refine But.trans ?_ (by assumption : But _ _ _); walk_at "rl but")
  | (refine But.trans ?_ But.upd; walk_at "rl but"))
local macro_rules | `(tactic| walk_at "rl same") => `(tactic| first
  | assumption
  | exact Same.refl _
  | (refine Same.trans ?_ (by assumption : Same _ _); walk_at "rl same"))

local macro_rules | `(tactic| walk_at "rl wi") => `(tactic| (repeat (first
  | walk_at "rl w1"
  | ((with_reducible refine' iteF' ?rlif ?_); (case rlif => exact rfl))
  | ((with_reducible refine' iteT' ?rlif ?_); (case rlif => exact rfl)))))
local macro_rules | `(tactic| walk_at "rl ty") => `(tactic| exact .base (.dK (by assumption)))
local macro_rules | `(tactic| walk_at "rl ty") => `(tactic| exact .base (.lst (by assumption)))
local macro_rules | `(tactic| walk_at "rl ty") => `(tactic| exact .base (.tup (by assumption)))
local macro_rules | `(tactic| walk_at "rl w1") => `(tactic| first
  | with_reducible refine w_par3 ?_
  | ((with_reducible refine' w_par3a ?_); dsimp only [List.set])
  | with_reducible refine w_dget ?_
  | ((with_reducible refine' w_dgetS ?rls ?rlv ?_); (case rls => walk_at "rl hq"); (case rlv => exact rfl))
  | ((with_reducible refine' w_dgetI ?rls ?rlv ?_); (case rls => walk_at "rl hq"); (case rlv => exact rfl))
  | with_reducible refine w_dget2 ?_
  | ((with_reducible refine' w_isD ?rls ?_); (case rls => walk_at "rl hq"))
  | ((with_reducible refine' w_dget2S ?rls ?_); (case rls => walk_at "rl hq"))
  | ((with_reducible refine' w_dget2I ?rls ?_); (case rls => walk_at "rl hq"))
  | ((with_reducible refine' w_setDS ?rls ?rll ?rlm ?_); (case rls => walk_at "rl hq"); (case rll => exact Nat.lt_of_lt_of_le (Nat.lt_succ_self _) (Nat.le_of_ble_eq_true rfl)); (case rlm => exact rfl))
  | ((with_reducible refine' w_tyD ?rls ?_); (case rls => walk_at "rl hq"))
  | with_reducible refine w_jNil ?_
  | with_reducible refine w_jCons ?_
  | with_reducible refine w_prop ?_
  | with_reducible refine w_makeKS ?_
  | with_reducible refine w_pNil ?_
  | with_reducible refine w_pCons ?_
  | ((with_reducible refine' w_dispN ?_); intro _ _ _ _ _))

local macro_rules | `(tactic| walk_at "rl w1") => `(tactic| ((with_reducible refine' w_dnewT ?_); intro _ _ _ _ _))
local macro_rules | `(tactic| walk_at "rl w1") => `(tactic| with_reducible refine w_enm ?_)

def spLayInit (K : PySem.W.Frag) : Sp := fun vs H Q _ => ∃ (B : Addr → Prop) (x dx l : Addr) (xs : List V) (es : List EntD), vs = [.ref x, .ref l] ∧ H x = some (.ins (He.ga K "Layout") dx []) ∧ H l = some (.lst xs) ∧ xs.length = es.length ∧ es.length ≤ 400 ∧
  (∀ (i : Nat) (x : V), xs[i]? = some x → ∃ e, es[i]? = some e ∧ EntAt K H B x e) ∧ badE 0 ⟨0, [], none⟩ es = none ∧ ∀ H' t, But x H H' → H' x = some (.ins (He.ga K "Layout") dx [("all_entries", .ref t)]) → H' t = some (.tup xs) → Q .non H'
theorem sc_Layout___init__ : FnScope ["self", "entries", "bad"] ["self", "entries"] (defScope ((inClass (top 62) 0))) := ⟨rfl, rfl, rfl, by decide +kernel, rfl, by decide +kernel, by decide +kernel⟩
theorem ok_Layout___init__ {P : Program} {w : World} {K : PySem.W.Frag} {mg : Str → Option Value} {base : Heap} (T : TT K mg) (D_bad_entry : Ld P w K mg base CX0 4 "bad_entry" ["entries"] [] (spBadEntry K))   : Lm P w K mg base CX0 5 "Layout" "__init__" ["self", "entries"] [] (spLayInit K) := by
  obtain ⟨⟨fd_bad_entry, ds_bad_entry, F_bad_entry, b_bad_entry, v_bad_entry⟩, g_bad_entry, k_bad_entry⟩ := D_bad_entry
  obtain ⟨fd, F⟩ := T.d_Layout___init__
  refine ⟨⟨fd, [], F.ok sc_Layout___init__ (fun vs H Q E h => ?_) (fun cdv A outer s H vs Q E hr h => ?_), FunD.bindsN F (fun _ _ _ _ _ _ us hl => match us, hl with | [_, _], _ => rfl), .nil⟩⟩
  · obtain ⟨B, x, dx, l, xs, es, rfl, _⟩ := h
    rfl
  · obtain ⟨B, x, dx, l, xs, es, rfl, hx, hl, hxl, hz, hes, hb, q⟩ := h
    have c_L := T.c_Layout
    have n_all := T.n_Layout_all_entries

    refine ⟨_, PSs.nox ((pss_cons (ps_if (PW.pt (pw_or (pt_not (pt_val (pe_callB call_isiT (by rfl) T.m_isinstance (by decide +kernel) (pa_cons (pv 1) (pa_cons (pe_tup (pa_cons (pe_bltn (v := .ty "list") (by rfl) T.m_list (by decide +kernel) rfl) (pa_cons (pe_bltn (v := .ty "tuple") (by rfl) T.m_tuple (by decide +kernel) rfl) pa_nil))) pa_nil))))) (pw_or1 (pt_cmpR op_gt (pe_callB call_len_seq (by rfl) T.m_len PySem.boot_len (pa_cons (pv 1) pa_nil)) (pe_glob rfl (T.i_MOST_ENTRIES_layouts).choose_spec (show RelV (.int (400)) _ from ⟨_, rfl⟩)) (nomark _))))) (pss_one ps_never) pss_nil) (pss_cons (ps_set (i := 2) sc_Layout___init__.nd rfl (by first | exact Or.inl rfl | exact Or.inr rfl) (pe_call F_bad_entry hr (by rfl) g_bad_entry k_bad_entry b_bad_entry v_bad_entry pass0 (pa_cons (pv 1) pa_nil))) (pss_cons (ps_if (pt_cmpR op_notN (pv 2) pe_non (nomark _)) (pss_one ps_never) pss_nil) (pss_one (ps_fld (pv 0) (pe_callTy call_tuple_of (by rfl) T.m_tuple (by decide +kernel) (pa_cons (pv 1) pa_nil)) rfl)))))), ?_⟩; rw [start_3_2]; try dsimp only [cxOf]
    walk_at "rl wi"
    rename_i Tt H1 nt st ht
    have hl1 := st _ _ hl
    refine ite_dec (fun c => absurd c (by omega)) (fun c => ?_)
    walk_at "rl wp"
    refine ⟨B, l, xs, es, rfl, hl1, hxl, by omega, fun i x e => let ⟨e', a, b⟩ := hes i x e; ⟨e', a, b.same st⟩, fun H2 s2 => ?_⟩
    rw [hb]
    walk_at "rl wi"
    refine ⟨l, xs, rfl, .inl ⟨SqL.of (s2 _ _ hl1), fun t nt2 => ?_⟩⟩
    obtain ⟨H3, e3⟩ : ∃ H3, H3 = upd H2 t (HO.tup xs) := ⟨_, rfl⟩
    rw [← e3]
    try dsimp only
    have s23 : Same H2 H3 := by rw [e3]; exact same_upd nt2
    have ht3 : H3 t = some (.tup xs) := by rw [e3]; exact upd_same
    have s03 : Same H H3 := st.trans (s2.trans s23)
    have hx3 := s03 _ _ hx
    clear e3 ht hl1 s2 s23 st
    walk_at "rl wp"
    exact q _ t (But.trans (But.of_same s03) But.upd) upd_same (by rw [upd_ne (ne_of ht3 hx3 (fun z => nomatch z))]; exact ht3)
end T61
end
section
set_option Elab.async false
set_option linter.all false
set_option maxRecDepth 100000
set_option maxHeartbeats 1000000
namespace T61
open PySem PySem.Spec PyProof.Rows L2 L2.RL
local macro_rules | `(tactic| walk_at "rl ty") => `(tactic| first
  | assumption
  | exact .base (.int _)
  | exact .base (.str _)
  | exact .base .non
  | exact .base (.bl _)
  | exact ty_sqT (by walk_at "rl hp")
  | exact ty_sqL (by walk_at "rl hp")
  | exact .base (.tup (by walk_at "rl hp"))
  | exact .base (.lst (by walk_at "rl hp"))
  | exact .base (.dK (by walk_at "rl hp")))
local macro_rules | `(tactic| walk_at "rl if") => `(tactic| first
  | with_reducible refine iteT' rfl ?_
  | with_reducible refine iteF' rfl ?_
  | (refine iteT' rfl ?_)
  | (refine iteF' rfl ?_))
local macro_rules | `(tactic| walk_at "rl side") => `(tactic| first | assumption | omega | (constructor <;> omega) | decide)
local macro_rules | `(tactic| walk_at "rl ne") => `(tactic| first
  | assumption
  | exact Ne.symm (by assumption)
  | walk_at "rl ne2"
  | exact ne_of (by assumption) (by walk_at "rl hq") (by intro z; cases z)
  | exact (ne_of (by assumption) (by walk_at "rl hq") (by intro z; cases z)).symm)
local macro_rules | `(tactic| walk_at "rl hq") => `(tactic| first
  | assumption
  | exact upd_same
  | (refine' upd_at ?rlne ?rlhq; (case rlne => walk_at "rl ne"); (case rlhq => walk_at "rl hq"))
  | (refine' Same.at ?rlsa ?rlhq; (case rlsa => assumption); (case rlhq => walk_at "rl hq"))
  | (refine' But.at ?rlbu ?rlne ?rlhq; (case rlbu => assumption); (case rlne => walk_at "rl ne"); (case rlhq => walk_at "rl hq")))
local macro_rules | `(tactic| walk_at "rl hp") => `(tactic| first
  | assumption
  | (refine' SqL.of ?rlhq; (case rlhq => walk_at "rl hq"))
  | (refine' SqT.of ?rlhq; (case rlhq => walk_at "rl hq"))
  | (refine' Same.seq ?rlsa ?rlhp; (case rlsa => assumption); (case rlhp => walk_at "rl hp"))
  | (refine' Same.sqT ?rlsa ?rlhp; (case rlsa => assumption); (case rlhp => walk_at "rl hp"))
  | walk_at "rl hp2"
  | walk_at "rl hq")
local macro_rules | `(tactic| walk_at "rl w1") => `(tactic| first
  | with_reducible refine w_seq ?_
  | ((with_reducible refine' w_var ?rlv ?_); (case rlv => exact rfl))
  | with_reducible refine w_c ?_
  | with_reducible refine w_op ?_
  | with_reducible refine w_I0 ?_
  | with_reducible refine w_asg ?_
  | ((with_reducible refine' w_gName ?_); dsimp only [List.set])
  | ((with_reducible refine' w_nxD ?rle ?_); (case rle => exact rfl))
  | ((with_reducible refine' w_rtD ?rle ?_); (case rle => exact rfl))
  | with_reducible refine w_next ?_
  | with_reducible refine w_ret ?_
  | with_reducible refine w_cons ?_
  | with_reducible refine w_nil ?_
  | with_reducible refine w_ifS ?_
  | with_reducible refine w_test ?_
  | with_reducible refine w_B ?_
  | with_reducible refine w_bl ?_
  | with_reducible refine w_bl1 ?_
  | with_reducible refine w_blR ?_
  | with_reducible refine w_eqI ?_
  | with_reducible refine w_neI ?_
  | with_reducible refine w_eqS ?_
  | with_reducible refine w_neS ?_
  | with_reducible refine w_eqB ?_
  | with_reducible refine w_neB ?_
  | with_reducible refine w_and ?_
  | with_reducible refine w_or ?_
  | with_reducible refine w_not ?_
  | with_reducible refine w_andV ?_
  | with_reducible refine w_orV ?_
  | with_reducible refine w_notV ?_
  | with_reducible refine w_if ?_
  | with_reducible refine w_chain ?_
  | with_reducible refine w_un ?_
  | with_reducible refine w_U ?_
  | ((with_reducible refine' w_I ?rlc ?_); (case rlc => walk_at "rl side"))
  | with_reducible refine w_drop ?_
  | with_reducible refine w_retN ?_
  | with_reducible refine w_par ?_
  | ((with_reducible refine' w_par2 ?_); dsimp only [List.set])
  | ((with_reducible refine' w_aug ?rla ?_); (case rla => exact rfl))
  | with_reducible refine w_ipI ?_
  | with_reducible refine w_break ?_
  | with_reducible refine w_cont ?_
  | ((with_reducible refine' w_bkD ?rle ?_); (case rle => exact rfl))
  | ((with_reducible refine' w_ctD ?rle ?_); (case rle => exact rfl))
  | with_reducible refine w_tup ?_
  | with_reducible refine w_lst ?_
  | ((with_reducible refine' w_newO ?rln ?_); (case rln => exact Nat.le_of_ble_eq_true rfl); intro _ _ _ _ _)
  | ((with_reducible refine' w_new ?rln ?_); (case rln => exact Nat.le_of_ble_eq_true rfl))
  | ((with_reducible refine' w_mk ?_); intro _ _ _ _ _)
  | ((with_reducible refine' w_gTup ?rls ?rll ?_); (case rls => walk_at "rl hp"); (case rll => exact rfl))
  | with_reducible refine w_gCons ?_
  | with_reducible refine w_gNil ?_
  | with_reducible refine w_gSub ?_
  | ((with_reducible refine' w_setL ?rls ?rlj ?_); (case rls => walk_at "rl hp"); (case rlj => exact rfl))
  | ((with_reducible refine' w_ixL ?rls ?rli ?_); (case rls => walk_at "rl hp"); (case rli => exact rfl))
  | ((with_reducible refine' w_ixT ?rls ?rli ?_); (case rls => walk_at "rl hp"); (case rli => exact rfl))
  | with_reducible refine w_call ?_
  | with_reducible refine w_trI ?_
  | with_reducible refine w_yes ?_
  | with_reducible refine w_trB ?_
  | with_reducible refine w_trN ?_
  | with_reducible refine w_cb ?_
  | with_reducible refine w_fld ?_
  | ((with_reducible refine' w_fld1 ?rlo ?rlc ?rln ?rll ?_); (case rlo => walk_at "rl hp"); (case rlc => assumption); (case rln => assumption); (case rll => exact rfl))
  | with_reducible refine w_isiO ?_
  | with_reducible refine w_isiT ?_
  | ((with_reducible refine' w_isi (r := true) ?rlt ?rlk ?_); (case rlt => walk_at "rl ty"); (case rlk => exact rfl))
  | ((with_reducible refine' w_isi (r := false) ?rlt ?rlk ?_); (case rlt => walk_at "rl ty"); (case rlk => exact rfl))
  | ((with_reducible refine' w_isi2 (r := true) ?rlT ?rlt ?rlk ?_); (case rlT => walk_at "rl hp"); (case rlt => walk_at "rl ty"); (case rlk => exact rfl))
  | ((with_reducible refine' w_isi2 (r := false) ?rlT ?rlt ?rlk ?_); (case rlT => walk_at "rl hp"); (case rlt => walk_at "rl ty"); (case rlk => exact rfl))
  | with_reducible refine w_sFld ?_
  | with_reducible refine w_itemsK ?_
  | ((with_reducible refine' w_catT ?rlha ?rlhb ?rln1 ?rln2 ?rlhl ?_); (case rlha => walk_at "rl hp"); (case rlhb => walk_at "rl hp"); (case rln1 => exact (fun z => nomatch z)); (case rln2 => exact (fun z => nomatch z)); (case rlhl => exact Nat.le_trans (Nat.le_of_ble_eq_true rfl) (show 100000 ≤ sizeLine by decide)))
  | ((with_reducible refine' w_newE ?_); intro _ _ _ _ _)
  | with_reducible refine w_makeK ?_
  | ((with_reducible refine' w_sFld1 ?rlc ?rln ?rll ?rle ?_); (case rlc => assumption); (case rln => assumption); (case rll => exact Nat.lt_of_lt_of_le (Nat.lt_succ_self _) (Nat.le_of_ble_eq_true rfl)); (case rle => exact rfl))
  | ((with_reducible refine' w_sFld0 ?rlx ?rlc ?rln ?rll ?rle ?_); (case rlx => walk_at "rl hq"); (case rlc => assumption); (case rln => assumption); (case rll => exact Nat.lt_of_lt_of_le (Nat.lt_succ_self _) (Nat.le_of_ble_eq_true rfl)); (case rle => exact rfl))
  | with_reducible refine w_rflA ?_
  | with_reducible refine w_for ?_
  | with_reducible refine w_iList ?_
  | with_reducible refine w_iTup ?_
  | ((with_reducible refine' w_overL ?rls ?_); (case rls => walk_at "rl hp"))
  | ((with_reducible refine' w_overT ?rls ?_); (case rls => walk_at "rl hp"))
  | with_reducible refine w_rng1 ?_
  | ((with_reducible refine' w_rng1a ?rl1 ?rl2 ?_); (case rl1 => omega); (case rl2 => omega))
  | with_reducible refine w_rng2 ?_
  | ((with_reducible refine' w_rng2a ?rl1 ?_); (case rl1 => omega))
  | with_reducible refine w_zip2 ?_
  | with_reducible refine w_lc ?_
  | with_reducible refine w_enS ?_
  | with_reducible refine w_callSD ?_
  | with_reducible refine w_xf ?_
  | ((with_reducible refine' w_dnew ?_); intro _ _ _ _ _)
  | ((with_reducible refine' w_disp1 ?_); intro _ _ _ _ _)
  | with_reducible refine w_bm ?_
  | ((with_reducible refine' w_tyL ?rls ?_); (case rls => walk_at "rl hp"))
  | ((with_reducible refine' w_append ?rls ?rll ?_); (case rls => walk_at "rl hq"); (case rll => exact Nat.lt_of_lt_of_le (Nat.lt_succ_self _) (Nat.le_of_ble_eq_true rfl)))
  | ((with_reducible refine' w_cat ?rls ?rlt ?rll ?_); (case rls => walk_at "rl hq"); (case rlt => walk_at "rl hq"); (case rll => exact Nat.le_of_ble_eq_true rfl); intro _ _ _ _ _)
  | with_reducible refine w_int1 ?_
  | ((with_reducible refine w_intb ?_); (try dsimp only))
  | with_reducible refine w_one ?_
  | with_reducible refine w_two ?_
  | ((with_reducible refine' w_lenL ?rls ?_); (case rls => walk_at "rl hp"))
  | ((with_reducible refine' w_lenT ?rls ?_); (case rls => walk_at "rl hp"))
  | with_reducible refine w_meth ?_
  | ((with_reducible refine' w_meth1 ?rlo ?rll ?_); (case rlo => walk_at "rl hp"); (case rll => exact rfl)))
local macro_rules | `(tactic| walk_at "rl wp") => `(tactic| (repeat walk_at "rl w1"))
local macro_rules | `(tactic| walk_at "rl but") => `(tactic| first
  | assumption
  | exact But.refl _ _
  | exact But.upd
  | exact But.of_same (by assumption)
  | (refine But.trans ?_ (But.of_same (by assumption)); walk_at "rl but")
  | (refine But.trans ?_ (by assumption : But _ _ _); walk_at "rl but")
  | (refine But.trans ?_ But.upd; walk_at "rl but"))
local macro_rules | `(tactic| walk_at "rl same") => `(tactic| first
  | assumption
  | exact Same.refl _
  | (refine Same.trans ?_ (by assumption : Same _ _); walk_at "rl same"))

local macro_rules | `(tactic| walk_at "rl wi") => `(tactic| (repeat (first
  | walk_at "rl w1"
  | ((with_reducible refine' iteF' ?rlif ?_); (case rlif => exact rfl))
  | ((with_reducible refine' iteT' ?rlif ?_); (case rlif => exact rfl)))))
local macro_rules | `(tactic| walk_at "rl ty") => `(tactic| exact .base (.dK (by assumption)))
local macro_rules | `(tactic| walk_at "rl ty") => `(tactic| exact .base (.lst (by assumption)))
local macro_rules | `(tactic| walk_at "rl ty") => `(tactic| exact .base (.tup (by assumption)))
local macro_rules | `(tactic| walk_at "rl w1") => `(tactic| first
  | with_reducible refine w_par3 ?_
  | ((with_reducible refine' w_par3a ?_); dsimp only [List.set])
  | with_reducible refine w_dget ?_
  | ((with_reducible refine' w_dgetS ?rls ?rlv ?_); (case rls => walk_at "rl hq"); (case rlv => exact rfl))
  | ((with_reducible refine' w_dgetI ?rls ?rlv ?_); (case rls => walk_at "rl hq"); (case rlv => exact rfl))
  | with_reducible refine w_dget2 ?_
  | ((with_reducible refine' w_isD ?rls ?_); (case rls => walk_at "rl hq"))
  | ((with_reducible refine' w_dget2S ?rls ?_); (case rls => walk_at "rl hq"))
  | ((with_reducible refine' w_dget2I ?rls ?_); (case rls => walk_at "rl hq"))
  | ((with_reducible refine' w_setDS ?rls ?rll ?rlm ?_); (case rls => walk_at "rl hq"); (case rll => exact Nat.lt_of_lt_of_le (Nat.lt_succ_self _) (Nat.le_of_ble_eq_true rfl)); (case rlm => exact rfl))
  | ((with_reducible refine' w_tyD ?rls ?_); (case rls => walk_at "rl hq"))
  | with_reducible refine w_jNil ?_
  | with_reducible refine w_jCons ?_
  | with_reducible refine w_prop ?_
  | with_reducible refine w_makeKS ?_
  | with_reducible refine w_pNil ?_
  | with_reducible refine w_pCons ?_
  | ((with_reducible refine' w_dispN ?_); intro _ _ _ _ _))

local macro_rules | `(tactic| walk_at "rl w1") => `(tactic| ((with_reducible refine' w_dnewT ?_); intro _ _ _ _ _))
local macro_rules | `(tactic| walk_at "rl w1") => `(tactic| with_reducible refine w_enm ?_)

def LayAt (K : PySem.W.Frag) (H : Hp) (B : Addr → Prop) (a : Addr) (xs : List V) (es : List EntD) : Prop := ∃ dx t, H a = some (.ins (He.ga K "Layout") dx [("all_entries", .ref t)]) ∧ H t = some (.tup xs) ∧ xs.length = es.length ∧ es.length ≤ 400 ∧ ∀ (i : Nat) (x : V), xs[i]? = some x → ∃ e, es[i]? = some e ∧ EntAt K H B x e
theorem LayAt.same {K : PySem.W.Frag} {H H' : Hp} {B : Addr → Prop} {a : Addr} {xs : List V} {es : List EntD} (s : Same H H') (h : LayAt K H B a xs es) : LayAt K H' B a xs es := by
  obtain ⟨dx, t, h1, h2, h3, h4, h5⟩ := h
  exact ⟨dx, t, s _ _ h1, s _ _ h2, h3, h4, fun i x e => let ⟨e', a, b⟩ := h5 i x e; ⟨e', a, b.same s⟩⟩
def spEntries (K : PySem.W.Frag) : Sp := fun vs H Q _ => ∃ (B : Addr → Prop) (a : Addr) (xs : List V) (es : List EntD), vs = [.ref a] ∧ LayAt K H B a xs es ∧ ∀ t, H t = some (.tup xs) → Q (.ref t) H
theorem sc_Layout_entries : FnScope ["self"] ["self"] (defScope ((inClass (top 62) 2))) := ⟨rfl, rfl, rfl, by decide +kernel, rfl, by decide +kernel, by decide +kernel⟩
theorem ok_Layout_entries {P : Program} {w : World} {K : PySem.W.Frag} {mg : Str → Option Value} {base : Heap} (T : TT K mg)    : Lq P w K mg base CX0 1 "Layout" "entries" ["self"] [] (spEntries K) := by
  obtain ⟨fd, F⟩ := T.d_Layout_entries
  refine ⟨⟨fd, [], F.ok sc_Layout_entries (fun vs H Q E h => ?_) (fun cdv A outer s H vs Q E hr h => ?_), FunD.bindsN F (fun _ _ _ _ _ _ us hl => match us, hl with | [_], _ => rfl), .nil⟩⟩
  · obtain ⟨B, a, xs, es, rfl, _⟩ := h
    rfl
  · obtain ⟨B, a, xs, es, rfl, ⟨dx, t, h1, h2, h3, h4, h5⟩, q⟩ := h
    have c_L := T.c_Layout
    have n_all := T.n_Layout_all_entries

    refine ⟨_, PSs.nox ((pss_one (ps_ret (pe_fld (pv 0) rfl)))), ?_⟩; rw [start_1_1]; try dsimp only [cxOf]
    walk_at "rl wp"
    exact q t h2
end T61
end
section
set_option Elab.async false
set_option linter.all false
set_option maxRecDepth 100000
set_option maxHeartbeats 1000000
namespace T61
open PySem PySem.Spec PyProof.Rows L2 L2.RL
local macro_rules | `(tactic| walk_at "rl ty") => `(tactic| first
  | assumption
  | exact .base (.int _)
  | exact .base (.str _)
  | exact .base .non
  | exact .base (.bl _)
  | exact ty_sqT (by walk_at "rl hp")
  | exact ty_sqL (by walk_at "rl hp")
  | exact .base (.tup (by walk_at "rl hp"))
  | exact .base (.lst (by walk_at "rl hp"))
  | exact .base (.dK (by walk_at "rl hp")))
local macro_rules | `(tactic| walk_at "rl if") => `(tactic| first
  | with_reducible refine iteT' rfl ?_
  | with_reducible refine iteF' rfl ?_
  | (refine iteT' rfl ?_)
  | (refine iteF' rfl ?_))
local macro_rules | `(tactic| walk_at "rl side") => `(tactic| first | assumption | omega | (constructor <;> omega) | decide)
local macro_rules | `(tactic| walk_at "rl ne") => `(tactic| first
  | assumption
  | exact Ne.symm (by assumption)
  | walk_at "rl ne2"
  | exact ne_of (by assumption) (by walk_at "rl hq") (by intro z; cases z)
  | exact (ne_of (by assumption) (by walk_at "rl hq") (by intro z; cases z)).symm)
local macro_rules | `(tactic| walk_at "rl hq") => `(tactic| first
  | assumption
  | exact upd_same
  | (refine' upd_at ?rlne ?rlhq; (case rlne => walk_at "rl ne"); (case rlhq => walk_at "rl hq"))
  | (refine' Same.at ?rlsa ?rlhq; (case rlsa => assumption); (case rlhq => walk_at "rl hq"))
  | (refine' But.at ?rlbu ?rlne ?rlhq; (case rlbu => assumption); (case rlne => walk_at "rl ne"); (case rlhq => walk_at "rl hq")))
local macro_rules | `(tactic| walk_at "rl hp") => `(tactic| first
  | assumption
  | (refine' SqL.of ?rlhq; (case rlhq => walk_at "rl hq"))
  | (refine' SqT.of ?rlhq; (case rlhq => walk_at "rl hq"))
  | (refine' Same.seq ?rlsa ?rlhp; (case rlsa => assumption); (case rlhp => walk_at "rl hp"))
  | (refine' Same.sqT ?rlsa ?rlhp; (case rlsa => assumption); (case rlhp => walk_at "rl hp"))
  | walk_at "rl hp2"
  | walk_at "rl hq")
local macro_rules | `(tactic| walk_at "rl w1") => `(tactic| first
  | with_reducible refine w_seq ?_
  | ((with_reducible refine' w_var ?rlv ?_); (case rlv => exact rfl))
  | with_reducible refine w_c ?_
  | with_reducible refine w_op ?_
  | with_reducible refine w_I0 ?_
  | with_reducible refine w_asg ?_
  | ((with_reducible refine' w_gName ?_); dsimp only [List.set])
  | ((with_reducible refine' w_nxD ?rle ?_); (case rle => exact rfl))
  | ((with_reducible refine' w_rtD ?rle ?_); (case rle => exact rfl))
  | with_reducible refine w_next ?_
  | with_reducible refine w_ret ?_
  | with_reducible refine w_cons ?_
  | with_reducible refine w_nil ?_
  | with_reducible refine w_ifS ?_
  | with_reducible refine w_test ?_
  | with_reducible refine w_B ?_
  | with_reducible refine w_bl ?_
  | with_reducible refine w_bl1 ?_
  | with_reducible refine w_blR ?_
  | with_reducible refine w_eqI ?_
  | with_reducible refine w_neI ?_
  | with_reducible refine w_eqS ?_
  | with_reducible refine w_neS ?_
  | with_reducible refine w_eqB ?_
  | with_reducible refine w_neB ?_
  | with_reducible refine w_and ?_
  | with_reducible refine w_or ?_
  | with_reducible refine w_not ?_
  | with_reducible refine w_andV ?_
  | with_reducible refine w_orV ?_
  | with_reducible refine w_notV ?_
  | with_reducible refine w_if ?_
  | with_reducible refine w_chain ?_
  | with_reducible refine w_un ?_
  | with_reducible refine w_U ?_
  | ((with_reducible refine' w_I ?rlc ?_); (case rlc => walk_at "rl side"))
  | with_reducible refine w_drop ?_
  | with_reducible refine w_retN ?_
  | with_reducible refine w_par ?_
  | ((with_reducible refine' w_par2 ?_); dsimp only [List.set])
  | ((with_reducible refine' w_aug ?rla ?_); (case rla => exact rfl))
  | with_reducible refine w_ipI ?_
  | with_reducible refine w_break ?_
  | with_reducible refine w_cont ?_
  | ((with_reducible refine' w_bkD ?rle ?_); (case rle => exact rfl))
  | ((with_reducible refine' w_ctD ?rle ?_); (case rle => exact rfl))
  | with_reducible refine w_tup ?_
  | with_reducible refine w_lst ?_
  | ((with_reducible refine' w_newO ?rln ?_); (case rln => exact Nat.le_of_ble_eq_true rfl); intro _ _ _ _ _)
  | ((with_reducible refine' w_new ?rln ?_); (case rln => exact Nat.le_of_ble_eq_true rfl))
  | ((with_reducible refine' w_mk ?_); intro _ _ _ _ _)
  | ((with_reducible refine' w_gTup ?rls ?rll ?_); (case rls => walk_at "rl hp"); (case rll => exact rfl))
  | with_reducible refine w_gCons ?_
  | with_reducible refine w_gNil ?_
  | with_reducible refine w_gSub ?_
  | ((with_reducible refine' w_setL ?rls ?rlj ?_); (case rls => walk_at "rl hp"); (case rlj => exact rfl))
  | ((with_reducible refine' w_ixL ?rls ?rli ?_); (case rls => walk_at "rl hp"); (case rli => exact rfl))
  | ((with_reducible refine' w_ixT ?rls ?rli ?_); (case rls => walk_at "rl hp"); (case rli => exact rfl))
  | with_reducible refine w_call ?_
  | with_reducible refine w_trI ?_
  | with_reducible refine w_yes ?_
  | with_reducible refine w_trB ?_
  | with_reducible refine w_trN ?_
  | with_reducible refine w_cb ?_
  | with_reducible refine w_fld ?_
  | ((with_reducible refine' w_fld1 ?rlo ?rlc ?rln ?rll ?_); (case rlo => walk_at "rl hp"); (case rlc => assumption); (case rln => assumption); (case rll => exact rfl))
  | with_reducible refine w_isiO ?_
  | with_reducible refine w_isiT ?_
  | ((with_reducible refine' w_isi (r := true) ?rlt ?rlk ?_); (case rlt => walk_at "rl ty"); (case rlk => exact rfl))
  | ((with_reducible refine' w_isi (r := false) ?rlt ?rlk ?_); (case rlt => walk_at "rl ty"); (case rlk => exact rfl))
  | ((with_reducible refine' w_isi2 (r := true) ?rlT ?rlt ?rlk ?_); (case rlT => walk_at "rl hp"); (case rlt => walk_at "rl ty"); (case rlk => exact rfl))
  | ((with_reducible refine' w_isi2 (r := false) ?rlT ?rlt ?rlk ?_); (case rlT => walk_at "rl hp"); (case rlt => walk_at "rl ty"); (case rlk => exact rfl))
  | with_reducible refine w_sFld ?_
  | with_reducible refine w_itemsK ?_
  | ((with_reducible refine' w_catT ?rlha ?rlhb ?rln1 ?rln2 ?rlhl ?_); (case rlha => walk_at "rl hp"); (case rlhb => walk_at "rl hp"); (case rln1 => exact (fun z => nomatch z)); (case rln2 => exact (fun z => nomatch z)); (case rlhl => exact Nat.le_trans (Nat.le_of_ble_eq_true rfl) (show 100000 ≤ sizeLine by decide)))
  | ((with_reducible refine' w_newE ?_); intro _ _ _ _ _)
  | with_reducible refine w_makeK ?_
  | ((with_reducible refine' w_sFld1 ?rlc ?rln ?rll ?rle ?_); (case rlc => assumption); (case rln => assumption); (case rll => exact Nat.lt_of_lt_of_le (Nat.lt_succ_self _) (Nat.le_of_ble_eq_true rfl)); (case rle => exact rfl))
  | ((with_reducible refine' w_sFld0 ?rlx ?rlc ?rln ?rll ?rle ?_); (case rlx => walk_at "rl hq"); (case rlc => assumption); (case rln => assumption); (case rll => exact Nat.lt_of_lt_of_le (Nat.lt_succ_self _) (Nat.le_of_ble_eq_true rfl)); (case rle => exact rfl))
  | with_reducible refine w_rflA ?_
  | with_reducible refine w_for ?_
  | with_reducible refine w_iList ?_
  | with_reducible refine w_iTup ?_
  | ((with_reducible refine' w_overL ?rls ?_); (case rls => walk_at "rl hp"))
  | ((with_reducible refine' w_overT ?rls ?_); (case rls => walk_at "rl hp"))
  | with_reducible refine w_rng1 ?_
  | ((with_reducible refine' w_rng1a ?rl1 ?rl2 ?_); (case rl1 => omega); (case rl2 => omega))
  | with_reducible refine w_rng2 ?_
  | ((with_reducible refine' w_rng2a ?rl1 ?_); (case rl1 => omega))
  | with_reducible refine w_zip2 ?_
  | with_reducible refine w_lc ?_
  | with_reducible refine w_enS ?_
  | with_reducible refine w_callSD ?_
  | with_reducible refine w_xf ?_
  | ((with_reducible refine' w_dnew ?_); intro _ _ _ _ _)
  | ((with_reducible refine' w_disp1 ?_); intro _ _ _ _ _)
  | with_reducible refine w_bm ?_
  | ((with_reducible refine' w_tyL ?rls ?_); (case rls => walk_at "rl hp"))
  | ((with_reducible refine' w_append ?rls ?rll ?_); (case rls => walk_at "rl hq"); (case rll => exact Nat.lt_of_lt_of_le (Nat.lt_succ_self _) (Nat.le_of_ble_eq_true rfl)))
  | ((with_reducible refine' w_cat ?rls ?rlt ?rll ?_); (case rls => walk_at "rl hq"); (case rlt => walk_at "rl hq"); (case rll => exact Nat.le_of_ble_eq_true rfl); intro _ _ _ _ _)
  | with_reducible refine w_int1 ?_
  | ((with_reducible refine w_intb ?_); (try dsimp only))
  | with_reducible refine w_one ?_
  | with_reducible refine w_two ?_
  | ((with_reducible refine' w_lenL ?rls ?_); (case rls => walk_at "rl hp"))
  | ((with_reducible refine' w_lenT ?rls ?_); (case rls => walk_at "rl hp"))
  | with_reducible refine w_meth ?_
  | ((with_reducible refine' w_meth1 ?rlo ?rll ?_); (case rlo => walk_at "rl hp"); (case rll => exact rfl)))
local macro_rules | `(tactic| walk_at "rl wp") => `(tactic| (repeat walk_at "rl w1"))
local macro_rules | `(tactic| walk_at "rl but") => `(tactic| first
  | assumption
  | exact But.refl _ _
  | exact But.upd
  | exact But.of_same (by assumption)
  | (refine But.trans ?_ (But.of_same (by assumption)); walk_at "rl but")
  | (refine But.trans ?_ (by assumption : But _ _ _); walk_at "rl but")
  | (refine But.trans ?_ But.upd; walk_at "rl but"))
local macro_rules | `(tactic| walk_at "rl same") => `(tactic| first
  | assumption
  | exact Same.refl _
  | (refine Same.trans ?_ (by assumption : Same _ _); walk_at "rl same"))

local macro_rules | `(tactic| walk_at "rl wi") => `(tactic| (repeat (first
  | walk_at "rl w1"
  | ((with_reducible refine' iteF' ?rlif ?_); (case rlif => exact rfl))
  | ((with_reducible refine' iteT' ?rlif ?_); (case rlif => exact rfl)))))
local macro_rules | `(tactic| walk_at "rl ty") => `(tactic| exact .base (.dK (by assumption)))
local macro_rules | `(tactic| walk_at "rl ty") => `(tactic| exact .base (.lst (by assumption)))
local macro_rules | `(tactic| walk_at "rl ty") => `(tactic| exact .base (.tup (by assumption)))
local macro_rules | `(tactic| walk_at "rl w1") => `(tactic| first
  | with_reducible refine w_par3 ?_
  | ((with_reducible refine' w_par3a ?_); dsimp only [List.set])
  | with_reducible refine w_dget ?_
  | ((with_reducible refine' w_dgetS ?rls ?rlv ?_); (case rls => walk_at "rl hq"); (case rlv => exact rfl))
  | ((with_reducible refine' w_dgetI ?rls ?rlv ?_); (case rls => walk_at "rl hq"); (case rlv => exact rfl))
  | with_reducible refine w_dget2 ?_
  | ((with_reducible refine' w_isD ?rls ?_); (case rls => walk_at "rl hq"))
  | ((with_reducible refine' w_dget2S ?rls ?_); (case rls => walk_at "rl hq"))
  | ((with_reducible refine' w_dget2I ?rls ?_); (case rls => walk_at "rl hq"))
  | ((with_reducible refine' w_setDS ?rls ?rll ?rlm ?_); (case rls => walk_at "rl hq"); (case rll => exact Nat.lt_of_lt_of_le (Nat.lt_succ_self _) (Nat.le_of_ble_eq_true rfl)); (case rlm => exact rfl))
  | ((with_reducible refine' w_tyD ?rls ?_); (case rls => walk_at "rl hq"))
  | with_reducible refine w_jNil ?_
  | with_reducible refine w_jCons ?_
  | with_reducible refine w_prop ?_
  | with_reducible refine w_makeKS ?_
  | with_reducible refine w_pNil ?_
  | with_reducible refine w_pCons ?_
  | ((with_reducible refine' w_dispN ?_); intro _ _ _ _ _))

local macro_rules | `(tactic| walk_at "rl w1") => `(tactic| ((with_reducible refine' w_dnewT ?_); intro _ _ _ _ _))
local macro_rules | `(tactic| walk_at "rl w1") => `(tactic| with_reducible refine w_enm ?_)

theorem call_isiE {X : Cx} {K : PySem.W.Frag} (h : X.K = K) : CallR X (.builtin "isinstance") (rIsi K) := h ▸ call_isi
def isFl : EntD → Bool
  | .fl _ _ _ => true
  | .dt _ => false
def flds : List V → List EntD → List V
  | x :: xs, e :: es => if isFl e = true then x :: flds xs es else flds xs es
  | _, _ => []
theorem flds_step : ∀ {i : Nat} {xs : List V} {es : List EntD} {x : V} {e : EntD}, xs[i]? = some x → es[i]? = some e → flds (xs.take (i + 1)) (es.take (i + 1)) = flds (xs.take i) (es.take i) ++ (if isFl e = true then [x] else [])
  | 0, y :: xs, f :: es, x, e, hx, he => by
    simp only [List.getElem?_cons_zero, Option.some.injEq] at hx he
    subst hx he
    show (if isFl f = true then y :: flds [] [] else flds [] []) = _
    rfl
  | i + 1, y :: xs, f :: es, x, e, hx, he => by
    have h := flds_step (i := i) (xs := xs) (es := es) (x := x) (e := e) (by simpa using hx) (by simpa using he)
    show (if isFl f = true then y :: flds (xs.take (i + 1)) (es.take (i + 1)) else flds (xs.take (i + 1)) (es.take (i + 1))) = (if isFl f = true then y :: flds (xs.take i) (es.take i) else flds (xs.take i) (es.take i)) ++ _
    rw [h]
    by_cases c : isFl f = true
    · rw [if_pos c, if_pos c]
      rfl
    · rw [if_neg c, if_neg c]
  | _, [], _, _, _, hx, _ => by simp at hx
  | _, _ :: _, [], _, _, _, he => by simp at he
theorem flds_len : ∀ {xs : List V} {es : List EntD}, (flds xs es).length ≤ xs.length
  | [], _ => by unfold flds; exact Nat.le_refl _
  | _ :: _, [] => Nat.zero_le _
  | x :: xs, e :: es => by
    have h := flds_len (xs := xs) (es := es)
    show (if isFl e = true then x :: flds xs es else flds xs es).length ≤ xs.length + 1
    split
    · exact Nat.succ_le_succ h
    · exact Nat.le_succ_of_le h
theorem isF_at {K : PySem.W.Frag} {H : Hp} {B : Addr → Prop} {x : V} {e : EntD} (h : EntAt K H B x e) (c : Cls K (He.ga K "Field")) (h1 : PySem.W.findIn K (.ref (He.ga K "Field")) "__class__" = some (some (.builtin "object.__class__")))
    (h2 : PySem.W.specialIn K (.builtin "object.__class__") "__get__" = some (some (.builtin "getset_descriptor.__get__"))) (h3 : PySem.W.takesIn K (.builtin "object.__class__") = some true) (h4 : PySem.W.mroIn K (He.ga K "Field") (.type "object") = some true)
    (h5 : PySem.W.kitOne K (.ref (He.ga K "Field")) (.ref (He.ga K "Field")) = some true) (n1 : PySem.W.kitOne K (.type "tuple") (.ref (He.ga K "Field")) = some false) (n2 : PySem.W.kitOne K (.type "list") (.ref (He.ga K "Field")) = some false)
    (n3 : PySem.W.kitOne K (.type "str") (.ref (He.ga K "Field")) = some false) (n4 : PySem.W.kitOne K (.type "int") (.ref (He.ga K "Field")) = some false) (n5 : PySem.W.kitOne K (.type "NoneType") (.ref (He.ga K "Field")) = some false)
    (n6 : PySem.W.kitOne K (.type "bool") (.ref (He.ga K "Field")) = some false) (n7 : PySem.W.kitOne K (.type "dict") (.ref (He.ga K "Field")) = some false) : ∃ t, TyX K H x t ∧ PySem.W.kitOne K t (.ref (He.ga K "Field")) = some (isFl e) := by
  cases e with
  | fl r n b =>
    obtain ⟨f, v, z, m, rfl, ⟨dx, ef⟩, _⟩ := h
    exact ⟨_, .base (.ins ef c h1 h2 h3 h4), h5⟩
  | dt d => exact dq_notF h.1 n1 n2 n3 n4 n5 n6 n7
def spFields (K : PySem.W.Frag) : Sp := fun vs H Q _ => ∃ (B : Addr → Prop) (a : Addr) (xs : List V) (es : List EntD), vs = [.ref a] ∧ LayAt K H B a xs es ∧ ∀ t H', Same H H' → H' t = some (.tup (flds xs es)) → Q (.ref t) H'
theorem sc_Layout_fields : FnScope ["self", "entry"] ["self"] (defScope ((inClass (top 62) 3))) := ⟨rfl, rfl, rfl, by decide +kernel, rfl, by decide +kernel, by decide +kernel⟩
theorem ok_Layout_fields {P : Program} {w : World} {K : PySem.W.Frag} {mg : Str → Option Value} {base : Heap} (T : TT K mg)    : Lq P w K mg base CX0 1 "Layout" "fields" ["self"] [] (spFields K) := by
  obtain ⟨fd, F⟩ := T.d_Layout_fields
  refine ⟨⟨fd, [], F.ok sc_Layout_fields (fun vs H Q E h => ?_) (fun cdv A outer s H vs Q E hr h => ?_), FunD.bindsN F (fun _ _ _ _ _ _ us hl => match us, hl with | [_], _ => rfl), .nil⟩⟩
  · obtain ⟨B, a, xs, es, rfl, _⟩ := h
    rfl
  · obtain ⟨B, a, xs, es, rfl, ⟨dx, t, h1, h2, h3, h4, h5⟩, q⟩ := h
    have c_L := T.c_Layout
    have n_all := T.n_Layout_all_entries
    have c_F := T.c_Field
    have iF1 := T.ic_Field
    have iF2 := T.ig_Field
    have iF3 := T.it_Field
    have iF4 := T.im_Field
    have iF5 := T.if_Field
    have ino0 := T.ino_tuple
    have ino1 := T.ino_list
    have ino2 := T.ino_str
    have ino3 := T.ino_int
    have ino4 := T.ino_NoneType
    have ino5 := T.ino_bool
    have ino6 := T.ino_dict
    have tf : ∀ {H' : Hp}, Same H H' → ∀ (i : Nat) (x : V), xs[i]? = some x → ∃ e, es[i]? = some e ∧ ∃ t, TyX K H' x t ∧ PySem.W.kitOne K t (.ref (He.ga K "Field")) = some (isFl e) := fun s i x e => by
      obtain ⟨e', ee, ea⟩ := h5 i x e
      exact ⟨e', ee, isF_at (ea.same s) c_F iF1 iF2 iF3 iF4 iF5 ino0 ino1 ino2 ino3 ino4 ino5 ino6⟩
    refine ⟨_, PSs.nox ((pss_one (ps_ret (pe_callTy call_tuple_of (by rfl) T.m_tuple (by decide +kernel) (pa_cons (by exact (pe_lc (own := [("entry", 1)]) rfl sc_Layout_fields.nd (pi_tup (pe_fldE (K := K) rfl (pv 0) rfl)) (blkOk_by (own := [("entry", 1)]) (N := ["self", "entry"]) (sc := defScope ((inClass (top 62) 3))) (by decide +kernel)) (fun _ _ _ _ _ => by exact (pg_name (i := 1) sc_Layout_fields.nd rfl (by first | exact Or.inl rfl | exact Or.inr rfl))) (fun _ _ _ _ _ => by exact (pts_one (pt_val (pe_callB (call_isiE (K := K) rfl) (by rfl) T.m_isinstance (by decide +kernel) (pa_cons (pv 1) (pa_cons (pe_glob rfl (T.g_Field) (show RelV (.ref (He.ga K "Field")) _ from rfl)) pa_nil)))))) (fun _ _ _ _ _ => by exact (pv 1)))) pa_nil))))), ?_⟩; rw [start_2_1]; try dsimp only [cxOf]
    walk_at "rl wp"
    refine w_lcSL (fun L i acc H2 => Same H H2 ∧ acc = flds (xs.take i) (es.take i)) (fun L i acc H2 ⟨sm, _⟩ => seqT (SqT.of (sm _ _ h2))) (fun L n => ⟨same_upd n, by rfl⟩) ?_ ?_
    · rintro L i acc x H7 nL hx eL hacc ⟨sm7, rfl⟩
      obtain ⟨e, he, ty, tyx, kt⟩ := tf sm7 i x hx
      have fs := flds_step hx he
      have hi : i < xs.length := (List.getElem?_eq_some_iff.mp hx).1
      walk_at "rl wp"
      refine ⟨rfl, ?_⟩
      dsimp only [wipe, List.map, List.foldl, List.set]
      walk_at "rl wp"
      refine ⟨x, .ref (He.ga K "Field"), ty, .ref (He.ga K "Field"), isFl e, rfl, .own _, tyx, kt, ?_⟩
      cases hf : isFl e with
      | true =>
        rw [hf, if_pos rfl] at fs
        walk_at "rl wi"
        exact lc_put (n := xs.length) eL hacc hi (by omega) ⟨Same.updN nL sm7, fs.symm⟩
      | false =>
        rw [hf, if_neg (by decide), List.append_nil] at fs
        walk_at "rl wi"
        exact ⟨_, eL, Nat.le_succ_of_le hacc, sm7, fs.symm⟩
    rintro L acc H7 nL eL ⟨sm7, rfl⟩
    walk_at "rl wp"
    rw [List.take_length, h3, List.take_length] at eL
    refine ⟨L, _, rfl, .inl ⟨SqL.of eL, fun l nl => ?_⟩⟩
    exact q l _ (sm7.trans (same_upd nl)) upd_same
end T61
end
section
set_option Elab.async false
set_option linter.all false
set_option maxRecDepth 100000
set_option maxHeartbeats 1000000
namespace T61
open PySem PySem.Spec PyProof.Rows L2 L2.RL
local macro_rules | `(tactic| walk_at "rl ty") => `(tactic| first
  | assumption
  | exact .base (.int _)
  | exact .base (.str _)
  | exact .base .non
  | exact .base (.bl _)
  | exact ty_sqT (by walk_at "rl hp")
  | exact ty_sqL (by walk_at "rl hp")
  | exact .base (.tup (by walk_at "rl hp"))
  | exact .base (.lst (by walk_at "rl hp"))
  | exact .base (.dK (by walk_at "rl hp")))
local macro_rules | `(tactic| walk_at "rl if") => `(tactic| first
  | with_reducible refine iteT' rfl ?_
  | with_reducible refine iteF' rfl ?_
  | (refine iteT' rfl ?_)
  | (refine iteF' rfl ?_))
local macro_rules | `(tactic| walk_at "rl side") => `(tactic| first | assumption | omega | (constructor <;> omega) | decide)
local macro_rules | `(tactic| walk_at "rl ne") => `(tactic| first
  | assumption
  | exact Ne.symm (by assumption)
  | walk_at "rl ne2"
  | exact ne_of (by assumption) (by walk_at "rl hq") (by intro z; cases z)
  | exact (ne_of (by assumption) (by walk_at "rl hq") (by intro z; cases z)).symm)
local macro_rules | `(tactic| walk_at "rl hq") => `(tactic| first
  | assumption
  | exact upd_same
  | (refine' upd_at ?rlne ?rlhq; (case rlne => walk_at "rl ne"); (case rlhq => walk_at "rl hq"))
  | (refine' Same.at ?rlsa ?rlhq; (case rlsa => assumption); (case rlhq => walk_at "rl hq"))
  | (refine' But.at ?rlbu ?rlne ?rlhq; (case rlbu => assumption); (case rlne => walk_at "rl ne"); (case rlhq => walk_at "rl hq")))
local macro_rules | `(tactic| walk_at "rl hp") => `(tactic| first
  | assumption
  | (refine' SqL.of ?rlhq; (case rlhq => walk_at "rl hq"))
  | (refine' SqT.of ?rlhq; (case rlhq => walk_at "rl hq"))
  | (refine' Same.seq ?rlsa ?rlhp; (case rlsa => assumption); (case rlhp => walk_at "rl hp"))
  | (refine' Same.sqT ?rlsa ?rlhp; (case rlsa => assumption); (case rlhp => walk_at "rl hp"))
  | walk_at "rl hp2"
  | walk_at "rl hq")
local macro_rules | `(tactic| walk_at "rl w1") => `(tactic| first
  | with_reducible refine w_seq ?_
  | ((with_reducible refine' w_var ?rlv ?_); (case rlv => exact rfl))
  | with_reducible refine w_c ?_
  | with_reducible refine w_op ?_
  | with_reducible refine w_I0 ?_
  | with_reducible refine w_asg ?_
  | ((with_reducible refine' w_gName ?_); dsimp only [List.set])
  | ((with_reducible refine' w_nxD ?rle ?_); (case rle => exact rfl))
  | ((with_reducible refine' w_rtD ?rle ?_); (case rle => exact rfl))
  | with_reducible refine w_next ?_
  | with_reducible refine w_ret ?_
  | with_reducible refine w_cons ?_
  | with_reducible refine w_nil ?_
  | with_reducible refine w_ifS ?_
  | with_reducible refine w_test ?_
  | with_reducible refine w_B ?_
  | with_reducible refine w_bl ?_
  | with_reducible refine w_bl1 ?_
  | with_reducible refine w_blR ?_
  | with_reducible refine w_eqI ?_
  | with_reducible refine w_neI ?_
  | with_reducible refine w_eqS ?_
  | with_reducible refine w_neS ?_
  | with_reducible refine w_eqB ?_
  | with_reducible refine w_neB ?_
  | with_reducible refine w_and ?_
  | with_reducible refine w_or ?_
  | with_reducible refine w_not ?_
  | with_reducible refine w_andV ?_
  | with_reducible refine w_orV ?_
  | with_reducible refine w_notV ?_
  | with_reducible refine w_if ?_
  | with_reducible refine w_chain ?_
  | with_reducible refine w_un ?_
  | with_reducible refine w_U ?_
  | ((with_reducible refine' w_I ?rlc ?_); (case rlc => walk_at "rl side"))
  | with_reducible refine w_drop ?_
  | with_reducible refine w_retN ?_
  | with_reducible refine w_par ?_
  | ((with_reducible refine' w_par2 ?_); dsimp only [List.set])
  | ((with_reducible refine' w_aug ?rla ?_); (case rla => exact rfl))
  | with_reducible refine w_ipI ?_
  | with_reducible refine w_break ?_
  | with_reducible refine w_cont ?_
  | ((with_reducible refine' w_bkD ?rle ?_); (case rle => exact rfl))
  | ((with_reducible refine' w_ctD ?rle ?_); (case rle => exact rfl))
  | with_reducible refine w_tup ?_
  | with_reducible refine w_lst ?_
  | ((with_reducible refine' w_newO ?rln ?_); (case rln => exact Nat.le_of_ble_eq_true rfl); intro _ _ _ _ _)
  | ((with_reducible refine' w_new ?rln ?_); (case rln => exact Nat.le_of_ble_eq_true rfl))
  | ((with_reducible refine' w_mk ?_); intro _ _ _ _ _)
  | ((with_reducible refine' w_gTup ?rls ?rll ?_); (case rls => walk_at "rl hp"); (case rll => exact rfl))
  | with_reducible refine w_gCons ?_
  | with_reducible refine w_gNil ?_
  | with_reducible refine w_gSub ?_
  | ((with_reducible refine' w_setL ?rls ?rlj ?_); (case rls => walk_at "rl hp"); (case rlj => exact rfl))
  | ((with_reducible refine' w_ixL ?rls ?rli ?_); (case rls => walk_at "rl hp"); (case rli => exact rfl))
  | ((with_reducible refine' w_ixT ?rls ?rli ?_); (case rls => walk_at "rl hp"); (case rli => exact rfl))
  | with_reducible refine w_call ?_
  | with_reducible refine w_trI ?_
  | with_reducible refine w_yes ?_
  | with_reducible refine w_trB ?_
  | with_reducible refine w_trN ?_
  | with_reducible refine w_cb ?_
  | with_reducible refine w_fld ?_
  | ((with_reducible refine' w_fld1 ?rlo ?rlc ?rln ?rll ?_); (case rlo => walk_at "rl hp"); (case rlc => assumption); (case rln => assumption); (case rll => exact rfl))
  | with_reducible refine w_isiO ?_
  | with_reducible refine w_isiT ?_
  | ((with_reducible refine' w_isi (r := true) ?rlt ?rlk ?_); (case rlt => walk_at "rl ty"); (case rlk => exact rfl))
  | ((with_reducible refine' w_isi (r := false) ?rlt ?rlk ?_); (case rlt => walk_at "rl ty"); (case rlk => exact rfl))
  | ((with_reducible refine' w_isi2 (r := true) ?rlT ?rlt ?rlk ?_); (case rlT => walk_at "rl hp"); (case rlt => walk_at "rl ty"); (case rlk => exact rfl))
  | ((with_reducible refine' w_isi2 (r := false) ?rlT ?rlt ?rlk ?_); (case rlT => walk_at "rl hp"); (case rlt => walk_at "rl ty"); (case rlk => exact rfl))
  | with_reducible refine w_sFld ?_
  | with_reducible refine w_itemsK ?_
  | ((with_reducible refine' w_catT ?rlha ?rlhb ?rln1 ?rln2 ?rlhl ?_); (case rlha => walk_at "rl hp"); (case rlhb => walk_at "rl hp"); (case rln1 => exact (fun z => nomatch z)); (case rln2 => exact (fun z => nomatch z)); (case rlhl => exact Nat.le_trans (Nat.le_of_ble_eq_true rfl) (show 100000 ≤ sizeLine by decide)))
  | ((with_reducible refine' w_newE ?_); intro _ _ _ _ _)
  | with_reducible refine w_makeK ?_
  | ((with_reducible refine' w_sFld1 ?rlc ?rln ?rll ?rle ?_); (case rlc => assumption); (case rln => assumption); (case rll => exact Nat.lt_of_lt_of_le (Nat.lt_succ_self _) (Nat.le_of_ble_eq_true rfl)); (case rle => exact rfl))
  | ((with_reducible refine' w_sFld0 ?rlx ?rlc ?rln ?rll ?rle ?_); (case rlx => walk_at "rl hq"); (case rlc => assumption); (case rln => assumption); (case rll => exact Nat.lt_of_lt_of_le (Nat.lt_succ_self _) (Nat.le_of_ble_eq_true rfl)); (case rle => exact rfl))
  | with_reducible refine w_rflA ?_
  | with_reducible refine w_for ?_
  | with_reducible refine w_iList ?_
  | with_reducible refine w_iTup ?_
  | ((with_reducible refine' w_overL ?rls ?_); (case rls => walk_at "rl hp"))
  | ((with_reducible refine' w_overT ?rls ?_); (case rls => walk_at "rl hp"))
  | with_reducible refine w_rng1 ?_
  | ((with_reducible refine' w_rng1a ?rl1 ?rl2 ?_); (case rl1 => omega); (case rl2 => omega))
  | with_reducible refine w_rng2 ?_
  | ((with_reducible refine' w_rng2a ?rl1 ?_); (case rl1 => omega))
  | with_reducible refine w_zip2 ?_
  | with_reducible refine w_lc ?_
  | with_reducible refine w_enS ?_
  | with_reducible refine w_callSD ?_
  | with_reducible refine w_xf ?_
  | ((with_reducible refine' w_dnew ?_); intro _ _ _ _ _)
  | ((with_reducible refine' w_disp1 ?_); intro _ _ _ _ _)
  | with_reducible refine w_bm ?_
  | ((with_reducible refine' w_tyL ?rls ?_); (case rls => walk_at "rl hp"))
  | ((with_reducible refine' w_append ?rls ?rll ?_); (case rls => walk_at "rl hq"); (case rll => exact Nat.lt_of_lt_of_le (Nat.lt_succ_self _) (Nat.le_of_ble_eq_true rfl)))
  | ((with_reducible refine' w_cat ?rls ?rlt ?rll ?_); (case rls => walk_at "rl hq"); (case rlt => walk_at "rl hq"); (case rll => exact Nat.le_of_ble_eq_true rfl); intro _ _ _ _ _)
  | with_reducible refine w_int1 ?_
  | ((with_reducible refine w_intb ?_); (try dsimp only))
  | with_reducible refine w_one ?_
  | with_reducible refine w_two ?_
  | ((with_reducible refine' w_lenL ?rls ?_); (case rls => walk_at "rl hp"))
  | ((with_reducible refine' w_lenT ?rls ?_); (case rls => walk_at "rl hp"))
  | with_reducible refine w_meth ?_
  | ((with_reducible refine' w_meth1 ?rlo ?rll ?_); (case rlo => walk_at "rl hp"); (case rll => exact rfl)))
local macro_rules | `(tactic| walk_at "rl wp") => `(tactic| (repeat walk_at "rl w1"))
local macro_rules | `(tactic| walk_at "rl but") => `(tactic| first
  | assumption
  | exact But.refl _ _
  | exact But.upd
  | exact But.of_same (by assumption)
  | (refine But.trans ?_ (But.of_same (by assumption)); walk_at "rl but")
  | (refine But.trans ?_ (by assumption : But _ _ _); walk_at "rl but")
  | (refine But.trans ?_ But.upd; walk_at "rl but"))
local macro_rules | `(tactic| walk_at "rl same") => `(tactic| first
  | assumption
  | exact Same.refl _
  | (refine Same.trans ?_ (by assumption : Same _ _); walk_at "rl same"))

local macro_rules | `(tactic| walk_at "rl wi") => `(tactic| (repeat (first
  | walk_at "rl w1"
  | ((with_reducible refine' iteF' ?rlif ?_); (case rlif => exact rfl))
  | ((with_reducible refine' iteT' ?rlif ?_); (case rlif => exact rfl)))))
local macro_rules | `(tactic| walk_at "rl ty") => `(tactic| exact .base (.dK (by assumption)))
local macro_rules | `(tactic| walk_at "rl ty") => `(tactic| exact .base (.lst (by assumption)))
local macro_rules | `(tactic| walk_at "rl ty") => `(tactic| exact .base (.tup (by assumption)))
local macro_rules | `(tactic| walk_at "rl w1") => `(tactic| first
  | with_reducible refine w_par3 ?_
  | ((with_reducible refine' w_par3a ?_); dsimp only [List.set])
  | with_reducible refine w_dget ?_
  | ((with_reducible refine' w_dgetS ?rls ?rlv ?_); (case rls => walk_at "rl hq"); (case rlv => exact rfl))
  | ((with_reducible refine' w_dgetI ?rls ?rlv ?_); (case rls => walk_at "rl hq"); (case rlv => exact rfl))
  | with_reducible refine w_dget2 ?_
  | ((with_reducible refine' w_isD ?rls ?_); (case rls => walk_at "rl hq"))
  | ((with_reducible refine' w_dget2S ?rls ?_); (case rls => walk_at "rl hq"))
  | ((with_reducible refine' w_dget2I ?rls ?_); (case rls => walk_at "rl hq"))
  | ((with_reducible refine' w_setDS ?rls ?rll ?rlm ?_); (case rls => walk_at "rl hq"); (case rll => exact Nat.lt_of_lt_of_le (Nat.lt_succ_self _) (Nat.le_of_ble_eq_true rfl)); (case rlm => exact rfl))
  | ((with_reducible refine' w_tyD ?rls ?_); (case rls => walk_at "rl hq"))
  | with_reducible refine w_jNil ?_
  | with_reducible refine w_jCons ?_
  | with_reducible refine w_prop ?_
  | with_reducible refine w_makeKS ?_
  | with_reducible refine w_pNil ?_
  | with_reducible refine w_pCons ?_
  | ((with_reducible refine' w_dispN ?_); intro _ _ _ _ _))

local macro_rules | `(tactic| walk_at "rl w1") => `(tactic| ((with_reducible refine' w_dispP ?_); intro _ _ _ _ _))
local macro_rules | `(tactic| walk_at "rl w1") => `(tactic| with_reducible refine w_ifT ?_)
local macro_rules | `(tactic| walk_at "rl w1") => `(tactic| ((with_reducible refine' w_dgS ?rls ?rlv ?_); (case rls => walk_at "rl hq"); (case rlv => exact rfl)))

def lookBad : PyData → Option PyData
  | .list ds => ds.find? fun d => !inI d 0 4294967295
  | .tuple ds => ds.find? fun d => !inI d 0 4294967295
  | d => some d
def spLook (K : PySem.W.Frag) : Sp := fun vs H Q E => ∃ (B : Addr → Prop) (x : V) (d : PyData), vs = [x] ∧ Dq H B x d ∧ (∀ m, d ≠ .dict m) ∧ (lookBad d = none → ∀ H', Same H H' → Q .non H') ∧
  (∀ d', lookBad d = some d' → ∀ y e H', Same H H' → Dq H' B y d' → H' e = some (.xd [("usage", y)]) → E (.ref (He.ga K "NoUsage")) (some e) H')
theorem find_step {ds : List PyData} {p : PyData → Bool} {i : Nat} {d : PyData} (h : ds[i]? = some d) : (ds.drop i).find? p = if p d = true then some d else (ds.drop (i + 1)).find? p := by
  obtain ⟨hi, e⟩ := List.getElem?_eq_some_iff.mp h
  rw [List.drop_eq_getElem_cons hi, e, List.find?_cons]
  cases p d <;> rfl
theorem sc_NoUsage___init__ : FnScope ["self", "usage"] ["self", "usage"] (defScope ((inClass (top 7) 0))) := ⟨rfl, rfl, rfl, by decide +kernel, rfl, by decide +kernel, by decide +kernel⟩
theorem ok_NoUsage___init__ {P : Program} {w : World} {K : PySem.W.Frag} {mg : Str → Option Value} {base : Heap} (T : TT K mg)    : Lm P w K mg base CX0 1 "NoUsage" "__init__" ["self", "usage"] [] (spErr1 (He.ga K "NoUsage") "usage") := by
  obtain ⟨fd, F⟩ := T.d_NoUsage___init__
  refine ⟨⟨fd, [], F.ok sc_NoUsage___init__ (fun vs H Q E h => ?_) (fun cdv A outer s H vs Q E hr h => ?_), FunD.bindsN F (fun _ _ _ _ _ _ us hl => match us, hl with | [_, _], _ => rfl), .nil⟩⟩
  · obtain ⟨a, x, rfl, _⟩ := h
    rfl
  · obtain ⟨a, x, rfl, ha, q⟩ := h
    refine ⟨_, PSs.nox ((pss_cons (ps_expr (pe_binit errT rfl (by rfl) T.m_TypeError T.fc_TypeError (pa_cons (pv 0) (pa_cons pe_str pa_nil)))) (pss_one (ps_setB errT (pv 0) (pv 1))))), ?_⟩; rw [start_2_2]; try dsimp only [cxOf]
    walk_at "rl wp"
    refine w_bi ?_
    walk_at "rl wp"
    refine w_bi1 T.ob_NoUsage (Nat.le_of_ble_eq_true rfl) ha ?_
    walk_at "rl wp"
    refine w_setB ?_
    walk_at "rl wp"
    exact ⟨a, _, rfl, T.ob_NoUsage, T.xn_NoUsage_usage, .inl ⟨ha, fun dx n1 n2 => q dx _ n1 n2 rfl⟩⟩

theorem sc_look_usages : FnScope ["usages", "usage"] ["usages"] (defScope (top 70)) := ⟨rfl, rfl, rfl, by decide +kernel, rfl, by decide +kernel, by decide +kernel⟩
theorem ok_look_usages {P : Program} {w : World} {K : PySem.W.Frag} {mg : Str → Option Value} {base : Heap} (T : TT K mg) (D_NoUsage___init__ : Lm P w K mg base CX0 1 "NoUsage" "__init__" ["self", "usage"] [] (spErr1 (He.ga K "NoUsage") "usage"))   : Ld P w K mg base (L2.CX P w) 3 "look_usages" ["usages"] [] (spLook K) := by
  obtain ⟨⟨fd_NoUsage___init__, ds_NoUsage___init__, F_NoUsage___init__, b_NoUsage___init__, v_NoUsage___init__⟩⟩ := D_NoUsage___init__
  obtain ⟨fd, F⟩ := T.d_look_usages
  refine ⟨⟨fd, [], F.ok sc_look_usages (fun vs H Q E h => ?_) (fun cdv A outer s H vs Q E hr h => ?_), FunD.bindsN F (fun _ _ _ _ _ _ us hl => match us, hl with | [_], _ => rfl), .nil⟩, T.g_look_usages, F.kp⟩
  · obtain ⟨B, x, d, rfl, _⟩ := h
    rfl
  · obtain ⟨B, x, d, rfl, hd, hnd, q1, q2⟩ := h
    refine ⟨_, (pss_cons (ps_if (pt_not (pt_val (pe_callB call_isiT (by rfl) T.m_isinstance (by decide +kernel) (pa_cons (pv 0) (pa_cons (pe_tup (pa_cons (pe_bltn (v := .ty "list") (by rfl) T.m_list (by decide +kernel) rfl) (pa_cons (pe_bltn (v := .ty "tuple") (by rfl) T.m_tuple (by decide +kernel) rfl) pa_nil))) pa_nil))))) (pss_one (ps_raise rfl (takes_of rfl rfl rfl rfl) (pmk_oexB errT T.ob_NoUsage T.ie_NoUsage T.ti_NoUsage F_NoUsage___init__ hr b_NoUsage___init__ v_NoUsage___init__ pass0 (by rfl) T.g_NoUsage (pa_cons (pv 0) pa_nil)))) pss_nil) (pss_one (ps_for (passes_of rfl) rfl (pi_seq (pv 0)) (pg_name (i := 1) sc_look_usages.nd rfl (by first | exact Or.inl rfl | exact Or.inr rfl)) (pss_one (ps_if (PW.pt (pw_or (pt_not (pt_val (pe_callB call_isi (by rfl) T.m_isinstance (by decide +kernel) (pa_cons (pv 1) (pa_cons (pe_bltn (v := .ty "int") (by rfl) T.m_int (by decide +kernel) rfl) pa_nil))))) (pw_or (pt_val (pe_callB call_isi (by rfl) T.m_isinstance (by decide +kernel) (pa_cons (pv 1) (pa_cons (pe_bltn (v := .ty "bool") (by rfl) T.m_bool (by decide +kernel) rfl) pa_nil)))) (pw_or1 (pt_not (pt_chain op_le op_le pe_int (pv 1) (pe_glob rfl (T.i_MOST_USAGE_changes).choose_spec (show RelV (.int (4294967295)) _ from ⟨_, rfl⟩)))))))) (pss_one (ps_raise rfl (takes_of rfl rfl rfl rfl) (pmk_oexB errT T.ob_NoUsage T.ie_NoUsage T.ti_NoUsage F_NoUsage___init__ hr b_NoUsage___init__ v_NoUsage___init__ pass0 (by rfl) T.g_NoUsage (pa_cons (pv 1) pa_nil)))) pss_nil))))), ?_⟩; rw [start_2_1]; try dsimp only [cxOf]
    have hk := hd
    cases hd with
    | @lst a xs ds e nb ha =>
      have q1 : (ds.find? fun d => !inI d 0 4294967295) = none → ∀ H', Same H H' → Q .non H' := q1
      have q2 : ∀ d', (ds.find? fun d => !inI d 0 4294967295) = some d' → ∀ y e H', Same H H' → Dq H' B y d' → H' e = some (.xd [("usage", y)]) → E (.ref (He.ga K "NoUsage")) (some e) H' := q2
      walk_at "rl wi"
      refine .inl ?_
      walk_at "rl wp"
      refine w_forS (fun i σ' H' => Same H H' ∧ (ds.find? fun d => !inI d 0 4294967295) = ((ds.drop i).find? fun d => !inI d 0 4294967295) ∧ ∃ y, σ' = [some (.ref a), y]) (fun i σ' H' ⟨sm, _⟩ => seqL (SqL.of (sm _ _ e))) ⟨by walk_at "rl same", rfl, _, rfl⟩ ?_ ?_
      · rintro i x σ' H' hx ⟨sm, en, y, rfl⟩
        obtain ⟨d, hd, hxd⟩ := ha.at hx
        have st := find_step (p := fun d => !inI d 0 4294967295) hd
        rw [st] at en
        have hxd' := hxd.same sm
        cases hI : inI d 0 4294967295 with
        | true =>
          simp only [hI, Bool.not_true, Bool.false_eq_true, if_false] at en
          obtain ⟨j, rfl, j0, j1⟩ := inI_ex hI
          cases hxd'
          walk_at "rl wi"
          refine ite_dec (fun c => ?_) (fun c => absurd j0 c)
          walk_at "rl wi"
          refine ite_ndec (fun c => absurd j1 c) (fun c => ?_)
          walk_at "rl wi"
          exact ⟨sm, en, _, rfl⟩
        | false =>
          simp only [hI, Bool.not_false, if_true] at en
          have q3 := q2 _ en x
          have hk := hxd'
          cases hxd' with
          | int j =>
            walk_at "rl wi"
            refine ite_dec (fun c => ?_) (fun c => ?_)
            · walk_at "rl wi"
              refine ite_ndec (fun c2 => ?_) (fun c2 => ?_)
              · walk_at "rl wi"
                refine w_mkO ?_ (fun ⟨v, e, h⟩ k => ⟨v, e, k _ _ h⟩)
                walk_at "rl wp"
                exact ⟨_, rfl, fun dd H'' n s e => q3 dd H'' (sm.trans s) (hk.same s) e⟩
              · rw [inI_int, decide_eq_true c, decide_eq_true c2] at hI
                cases hI
            · walk_at "rl wi"
              refine w_mkO ?_ (fun ⟨v, e, h⟩ k => ⟨v, e, k _ _ h⟩)
              walk_at "rl wp"
              exact ⟨_, rfl, fun dd H'' n s e => q3 dd H'' (sm.trans s) (hk.same s) e⟩
          | _ =>
            walk_at "rl wi"
            refine w_mkO ?_ (fun ⟨v, e, h⟩ k => ⟨v, e, k _ _ h⟩)
            walk_at "rl wp"
            exact ⟨_, rfl, fun dd H'' n s e => q3 dd H'' (sm.trans s) (hk.same s) e⟩
      rintro σ' H' ⟨sm, en, y, rfl⟩
      rw [ha.len, List.drop_length] at en
      walk_at "rl wi"
      exact q1 en _ sm
    | @tup a xs ds e nb ha =>
      have q1 : (ds.find? fun d => !inI d 0 4294967295) = none → ∀ H', Same H H' → Q .non H' := q1
      have q2 : ∀ d', (ds.find? fun d => !inI d 0 4294967295) = some d' → ∀ y e H', Same H H' → Dq H' B y d' → H' e = some (.xd [("usage", y)]) → E (.ref (He.ga K "NoUsage")) (some e) H' := q2
      walk_at "rl wi"
      refine .inr ?_
      walk_at "rl wp"
      refine w_forS (fun i σ' H' => Same H H' ∧ (ds.find? fun d => !inI d 0 4294967295) = ((ds.drop i).find? fun d => !inI d 0 4294967295) ∧ ∃ y, σ' = [some (.ref a), y]) (fun i σ' H' ⟨sm, _⟩ => seqT (SqT.of (sm _ _ e))) ⟨by walk_at "rl same", rfl, _, rfl⟩ ?_ ?_
      · rintro i x σ' H' hx ⟨sm, en, y, rfl⟩
        obtain ⟨d, hd, hxd⟩ := ha.at hx
        have st := find_step (p := fun d => !inI d 0 4294967295) hd
        rw [st] at en
        have hxd' := hxd.same sm
        cases hI : inI d 0 4294967295 with
        | true =>
          simp only [hI, Bool.not_true, Bool.false_eq_true, if_false] at en
          obtain ⟨j, rfl, j0, j1⟩ := inI_ex hI
          cases hxd'
          walk_at "rl wi"
          refine ite_dec (fun c => ?_) (fun c => absurd j0 c)
          walk_at "rl wi"
          refine ite_ndec (fun c => absurd j1 c) (fun c => ?_)
          walk_at "rl wi"
          exact ⟨sm, en, _, rfl⟩
        | false =>
          simp only [hI, Bool.not_false, if_true] at en
          have q3 := q2 _ en x
          have hk := hxd'
          cases hxd' with
          | int j =>
            walk_at "rl wi"
            refine ite_dec (fun c => ?_) (fun c => ?_)
            · walk_at "rl wi"
              refine ite_ndec (fun c2 => ?_) (fun c2 => ?_)
              · walk_at "rl wi"
                refine w_mkO ?_ (fun ⟨v, e, h⟩ k => ⟨v, e, k _ _ h⟩)
                walk_at "rl wp"
                exact ⟨_, rfl, fun dd H'' n s e => q3 dd H'' (sm.trans s) (hk.same s) e⟩
              · rw [inI_int, decide_eq_true c, decide_eq_true c2] at hI
                cases hI
            · walk_at "rl wi"
              refine w_mkO ?_ (fun ⟨v, e, h⟩ k => ⟨v, e, k _ _ h⟩)
              walk_at "rl wp"
              exact ⟨_, rfl, fun dd H'' n s e => q3 dd H'' (sm.trans s) (hk.same s) e⟩
          | _ =>
            walk_at "rl wi"
            refine w_mkO ?_ (fun ⟨v, e, h⟩ k => ⟨v, e, k _ _ h⟩)
            walk_at "rl wp"
            exact ⟨_, rfl, fun dd H'' n s e => q3 dd H'' (sm.trans s) (hk.same s) e⟩
      rintro σ' H' ⟨sm, en, y, rfl⟩
      rw [ha.len, List.drop_length] at en
      walk_at "rl wi"
      exact q1 en _ sm
    | dk0 _ _ => exact absurd rfl (hnd _)
    | dk1 _ _ => exact absurd rfl (hnd _)
    | _ =>
      walk_at "rl wi"
      refine w_mkO ?_ (fun ⟨v, e, h⟩ k => ⟨v, e, k _ _ h⟩)
      walk_at "rl wp"
      exact ⟨_, rfl, fun dd H'' n s e => q2 _ rfl _ dd H'' (Same.trans (by walk_at "rl same") s) (hk.same (Same.trans (by walk_at "rl same") s)) e⟩
end T61
end
section
set_option Elab.async false
set_option linter.all false
set_option maxRecDepth 100000
set_option maxHeartbeats 1000000
namespace T61
open PySem PySem.Spec PyProof.Rows L2 L2.RL
local macro_rules | `(tactic| walk_at "rl ty") => `(tactic| first
  | assumption
  | exact .base (.int _)
  | exact .base (.str _)
  | exact .base .non
  | exact .base (.bl _)
  | exact ty_sqT (by walk_at "rl hp")
  | exact ty_sqL (by walk_at "rl hp")
  | exact .base (.tup (by walk_at "rl hp"))
  | exact .base (.lst (by walk_at "rl hp"))
  | exact .base (.dK (by walk_at "rl hp")))
local macro_rules | `(tactic| walk_at "rl if") => `(tactic| first
  | with_reducible refine iteT' rfl ?_
  | with_reducible refine iteF' rfl ?_
  | (refine iteT' rfl ?_)
  | (refine iteF' rfl ?_))
local macro_rules | `(tactic| walk_at "rl side") => `(tactic| first | assumption | omega | (constructor <;> omega) | decide)
local macro_rules | `(tactic| walk_at "rl ne") => `(tactic| first
  | assumption
  | exact Ne.symm (by assumption)
  | walk_at "rl ne2"
  | exact ne_of (by assumption) (by walk_at "rl hq") (by intro z; cases z)
  | exact (ne_of (by assumption) (by walk_at "rl hq") (by intro z; cases z)).symm)
local macro_rules | `(tactic| walk_at "rl hq") => `(tactic| first
  | assumption
  | exact upd_same
  | (refine' upd_at ?rlne ?rlhq; (case rlne => walk_at "rl ne"); (case rlhq => walk_at "rl hq"))
  | (refine' Same.at ?rlsa ?rlhq; (case rlsa => assumption); (case rlhq => walk_at "rl hq"))
  | (refine' But.at ?rlbu ?rlne ?rlhq; (case rlbu => assumption); (case rlne => walk_at "rl ne"); (case rlhq => walk_at "rl hq")))
local macro_rules | `(tactic| walk_at "rl hp") => `(tactic| first
  | assumption
  | (refine' SqL.of ?rlhq; (case rlhq => walk_at "rl hq"))
  | (refine' SqT.of ?rlhq; (case rlhq => walk_at "rl hq"))
  | (refine' Same.seq ?rlsa ?rlhp; (case rlsa => assumption); (case rlhp => walk_at "rl hp"))
  | (refine' Same.sqT ?rlsa ?rlhp; (case rlsa => assumption); (case rlhp => walk_at "rl hp"))
  | walk_at "rl hp2"
  | walk_at "rl hq")
local macro_rules | `(tactic| walk_at "rl w1") => `(tactic| first
  | with_reducible refine w_seq ?_
  | ((with_reducible refine' w_var ?rlv ?_); (case rlv => exact rfl))
  | with_reducible refine w_c ?_
  | with_reducible refine w_op ?_
  | with_reducible refine w_I0 ?_
  | with_reducible refine w_asg ?_
  | ((with_reducible refine' w_gName ?_); dsimp only [List.set])
  | ((with_reducible refine' w_nxD ?rle ?_); (case rle => exact rfl))
  | ((with_reducible refine' w_rtD ?rle ?_); (case rle => exact rfl))
  | with_reducible refine w_next ?_
  | with_reducible refine w_ret ?_
  | with_reducible refine w_cons ?_
  | with_reducible refine w_nil ?_
  | with_reducible refine w_ifS ?_
  | with_reducible refine w_test ?_
  | with_reducible refine w_B ?_
  | with_reducible refine w_bl ?_
  | with_reducible refine w_bl1 ?_
  | with_reducible refine w_blR ?_
  | with_reducible refine w_eqI ?_
  | with_reducible refine w_neI ?_
  | with_reducible refine w_eqS ?_
  | with_reducible refine w_neS ?_
  | with_reducible refine w_eqB ?_
  | with_reducible refine w_neB ?_
  | with_reducible refine w_and ?_
  | with_reducible refine w_or ?_
  | with_reducible refine w_not ?_
  | with_reducible refine w_andV ?_
  | with_reducible refine w_orV ?_
  | with_reducible refine w_notV ?_
  | with_reducible refine w_if ?_
  | with_reducible refine w_chain ?_
  | with_reducible refine w_un ?_
  | with_reducible refine w_U ?_
  | ((with_reducible refine' w_I ?rlc ?_); (case rlc => walk_at "rl side"))
  | with_reducible refine w_drop ?_
  | with_reducible refine w_retN ?_
  | with_reducible refine w_par ?_
  | ((with_reducible refine' w_par2 ?_); dsimp only [List.set])
  | ((with_reducible refine' w_aug ?rla ?_); (case rla => exact rfl))
  | with_reducible refine w_ipI ?_
  | with_reducible refine w_break ?_
  | with_reducible refine w_cont ?_
  | ((with_reducible refine' w_bkD ?rle ?_); (case rle => exact rfl))
  | ((with_reducible refine' w_ctD ?rle ?_); (case rle => exact rfl))
  | with_reducible refine w_tup ?_
  | with_reducible refine w_lst ?_
  | ((with_reducible refine' w_newO ?rln ?_); (case rln => exact Nat.le_of_ble_eq_true rfl); intro _ _ _ _ _)
  | ((with_reducible refine' w_new ?rln ?_); (case rln => exact Nat.le_of_ble_eq_true rfl))
  | ((with_reducible refine' w_mk ?_); intro _ _ _ _ _)
  | ((with_reducible refine' w_gTup ?rls ?rll ?_); (case rls => walk_at "rl hp"); (case rll => exact rfl))
  | with_reducible refine w_gCons ?_
  | with_reducible refine w_gNil ?_
  | with_reducible refine w_gSub ?_
  | ((with_reducible refine' w_setL ?rls ?rlj ?_); (case rls => walk_at "rl hp"); (case rlj => exact rfl))
  | ((with_reducible refine' w_ixL ?rls ?rli ?_); (case rls => walk_at "rl hp"); (case rli => exact rfl))
  | ((with_reducible refine' w_ixT ?rls ?rli ?_); (case rls => walk_at "rl hp"); (case rli => exact rfl))
  | with_reducible refine w_call ?_
  | with_reducible refine w_trI ?_
  | with_reducible refine w_yes ?_
  | with_reducible refine w_trB ?_
  | with_reducible refine w_trN ?_
  | with_reducible refine w_cb ?_
  | with_reducible refine w_fld ?_
  | ((with_reducible refine' w_fld1 ?rlo ?rlc ?rln ?rll ?_); (case rlo => walk_at "rl hp"); (case rlc => assumption); (case rln => assumption); (case rll => exact rfl))
  | with_reducible refine w_isiO ?_
  | with_reducible refine w_isiT ?_
  | ((with_reducible refine' w_isi (r := true) ?rlt ?rlk ?_); (case rlt => walk_at "rl ty"); (case rlk => exact rfl))
  | ((with_reducible refine' w_isi (r := false) ?rlt ?rlk ?_); (case rlt => walk_at "rl ty"); (case rlk => exact rfl))
  | ((with_reducible refine' w_isi2 (r := true) ?rlT ?rlt ?rlk ?_); (case rlT => walk_at "rl hp"); (case rlt => walk_at "rl ty"); (case rlk => exact rfl))
  | ((with_reducible refine' w_isi2 (r := false) ?rlT ?rlt ?rlk ?_); (case rlT => walk_at "rl hp"); (case rlt => walk_at "rl ty"); (case rlk => exact rfl))
  | with_reducible refine w_sFld ?_
  | with_reducible refine w_itemsK ?_
  | ((with_reducible refine' w_catT ?rlha ?rlhb ?rln1 ?rln2 ?rlhl ?_); (case rlha => walk_at "rl hp"); (case rlhb => walk_at "rl hp"); (case rln1 => exact (fun z => nomatch z)); (case rln2 => exact (fun z => nomatch z)); (case rlhl => exact Nat.le_trans (Nat.le_of_ble_eq_true rfl) (show 100000 ≤ sizeLine by decide)))
  | ((with_reducible refine' w_newE ?_); intro _ _ _ _ _)
  | with_reducible refine w_makeK ?_
  | ((with_reducible refine' w_sFld1 ?rlc ?rln ?rll ?rle ?_); (case rlc => assumption); (case rln => assumption); (case rll => exact Nat.lt_of_lt_of_le (Nat.lt_succ_self _) (Nat.le_of_ble_eq_true rfl)); (case rle => exact rfl))
  | ((with_reducible refine' w_sFld0 ?rlx ?rlc ?rln ?rll ?rle ?_); (case rlx => walk_at "rl hq"); (case rlc => assumption); (case rln => assumption); (case rll => exact Nat.lt_of_lt_of_le (Nat.lt_succ_self _) (Nat.le_of_ble_eq_true rfl)); (case rle => exact rfl))
  | with_reducible refine w_rflA ?_
  | with_reducible refine w_for ?_
  | with_reducible refine w_iList ?_
  | with_reducible refine w_iTup ?_
  | ((with_reducible refine' w_overL ?rls ?_); (case rls => walk_at "rl hp"))
  | ((with_reducible refine' w_overT ?rls ?_); (case rls => walk_at "rl hp"))
  | with_reducible refine w_rng1 ?_
  | ((with_reducible refine' w_rng1a ?rl1 ?rl2 ?_); (case rl1 => omega); (case rl2 => omega))
  | with_reducible refine w_rng2 ?_
  | ((with_reducible refine' w_rng2a ?rl1 ?_); (case rl1 => omega))
  | with_reducible refine w_zip2 ?_
  | with_reducible refine w_lc ?_
  | with_reducible refine w_enS ?_
  | with_reducible refine w_callSD ?_
  | with_reducible refine w_xf ?_
  | ((with_reducible refine' w_dnew ?_); intro _ _ _ _ _)
  | ((with_reducible refine' w_disp1 ?_); intro _ _ _ _ _)
  | with_reducible refine w_bm ?_
  | ((with_reducible refine' w_tyL ?rls ?_); (case rls => walk_at "rl hp"))
  | ((with_reducible refine' w_append ?rls ?rll ?_); (case rls => walk_at "rl hq"); (case rll => exact Nat.lt_of_lt_of_le (Nat.lt_succ_self _) (Nat.le_of_ble_eq_true rfl)))
  | ((with_reducible refine' w_cat ?rls ?rlt ?rll ?_); (case rls => walk_at "rl hq"); (case rlt => walk_at "rl hq"); (case rll => exact Nat.le_of_ble_eq_true rfl); intro _ _ _ _ _)
  | with_reducible refine w_int1 ?_
  | ((with_reducible refine w_intb ?_); (try dsimp only))
  | with_reducible refine w_one ?_
  | with_reducible refine w_two ?_
  | ((with_reducible refine' w_lenL ?rls ?_); (case rls => walk_at "rl hp"))
  | ((with_reducible refine' w_lenT ?rls ?_); (case rls => walk_at "rl hp"))
  | with_reducible refine w_meth ?_
  | ((with_reducible refine' w_meth1 ?rlo ?rll ?_); (case rlo => walk_at "rl hp"); (case rll => exact rfl)))
local macro_rules | `(tactic| walk_at "rl wp") => `(tactic| (repeat walk_at "rl w1"))
local macro_rules | `(tactic| walk_at "rl but") => `(tactic| first
  | assumption
  | exact But.refl _ _
  | exact But.upd
  | exact But.of_same (by assumption)
  | (refine But.trans ?_ (But.of_same (by assumption)); walk_at "rl but")
  | (refine But.trans ?_ (by assumption : But _ _ _); walk_at "rl but")
  | (refine But.trans ?_ But.upd; walk_at "rl but"))
local macro_rules | `(tactic| walk_at "rl same") => `(tactic| first
  | assumption
  | exact Same.refl _
  | (refine Same.trans ?_ (by assumption : Same _ _); walk_at "rl same"))

local macro_rules | `(tactic| walk_at "rl wi") => `(tactic| (repeat (first
  | walk_at "rl w1"
  | ((with_reducible refine' iteF' ?rlif ?_); (case rlif => exact rfl))
  | ((with_reducible refine' iteT' ?rlif ?_); (case rlif => exact rfl)))))
local macro_rules | `(tactic| walk_at "rl ty") => `(tactic| exact .base (.dK (by assumption)))
local macro_rules | `(tactic| walk_at "rl ty") => `(tactic| exact .base (.lst (by assumption)))
local macro_rules | `(tactic| walk_at "rl ty") => `(tactic| exact .base (.tup (by assumption)))
local macro_rules | `(tactic| walk_at "rl w1") => `(tactic| first
  | with_reducible refine w_par3 ?_
  | ((with_reducible refine' w_par3a ?_); dsimp only [List.set])
  | with_reducible refine w_dget ?_
  | ((with_reducible refine' w_dgetS ?rls ?rlv ?_); (case rls => walk_at "rl hq"); (case rlv => exact rfl))
  | ((with_reducible refine' w_dgetI ?rls ?rlv ?_); (case rls => walk_at "rl hq"); (case rlv => exact rfl))
  | with_reducible refine w_dget2 ?_
  | ((with_reducible refine' w_isD ?rls ?_); (case rls => walk_at "rl hq"))
  | ((with_reducible refine' w_dget2S ?rls ?_); (case rls => walk_at "rl hq"))
  | ((with_reducible refine' w_dget2I ?rls ?_); (case rls => walk_at "rl hq"))
  | ((with_reducible refine' w_setDS ?rls ?rll ?rlm ?_); (case rls => walk_at "rl hq"); (case rll => exact Nat.lt_of_lt_of_le (Nat.lt_succ_self _) (Nat.le_of_ble_eq_true rfl)); (case rlm => exact rfl))
  | ((with_reducible refine' w_tyD ?rls ?_); (case rls => walk_at "rl hq"))
  | with_reducible refine w_jNil ?_
  | with_reducible refine w_jCons ?_
  | with_reducible refine w_prop ?_
  | with_reducible refine w_makeKS ?_
  | with_reducible refine w_pNil ?_
  | with_reducible refine w_pCons ?_
  | ((with_reducible refine' w_dispN ?_); intro _ _ _ _ _))

local macro_rules | `(tactic| walk_at "rl w1") => `(tactic| ((with_reducible refine' w_dispP ?_); intro _ _ _ _ _))
local macro_rules | `(tactic| walk_at "rl w1") => `(tactic| with_reducible refine w_ifT ?_)
local macro_rules | `(tactic| walk_at "rl w1") => `(tactic| ((with_reducible refine' w_dgS ?rls ?rlv ?_); (case rls => walk_at "rl hq"); (case rlv => exact rfl)))

def likeP : List Str := ["field", "number", "flags", "amount", "usages"]
def ll1 : List (Nat × Nat) := [(0, 0), (1, 0), (1, 1), (2, 0), (2, 1)]
theorem kl1 {K : PySem.W.Frag} {mg : Str → Option Value} (T : TT K mg) {fd : FuncData} (F : FunD K "field_like" "field_like" (defArgs (top 69)) (defBody (top 69)) (defScope (top 69)) [] (([("number", .non), ("flags", .non), ("amount", .non), ("usages", .non)] : List (Str × He.Dv)).map fun q => (q.1, q.2.v K)) (He.ga K "field_like") fd) :
  ∃ g, KBn K fd likeP 1 ["amount", "usages"] g (fun vs zs => pick3 ll1 vs [.non, .non] zs) := by
  obtain ⟨mv, h⟩ := F.kbinds0 (ps := likeP) 1 ["amount", "usages"] [("number", .non), ("flags", .non)] (fun us mv ws => pick3 ll1 us mv ws) (by simp) (by
    intro q hq
    simp only [List.mem_cons, List.not_mem_nil, or_false] at hq
    rcases hq with rfl | rfl <;> simp [He.Dv.v]) (fun r1 r2 r3 => pick3_vals _ r1 r2 r3) (by
    intro D doc pm an cdv ct us mv ws h1 h2 h3
    match us, mv, ws, h1, h2, h3 with
    | [u1], [m0, m1], [w0, w1], _, _, _ =>
      exact ⟨_, _, _, _, _, _, rfl, rfl, ⟨_, _, _, _, _, _, rfl, rfl, by (show _ = pure _); kernel_rfl!⟩⟩)
  exact ⟨_, h⟩

def ll2 : List (Nat × Nat) := [(0, 0), (1, 0), (2, 0), (2, 1), (2, 2)]
theorem kl2 {K : PySem.W.Frag} {mg : Str → Option Value} (T : TT K mg) {fd : FuncData} (F : FunD K "field_like" "field_like" (defArgs (top 69)) (defBody (top 69)) (defScope (top 69)) [] (([("number", .non), ("flags", .non), ("amount", .non), ("usages", .non)] : List (Str × He.Dv)).map fun q => (q.1, q.2.v K)) (He.ga K "field_like") fd) :
  ∃ g, KBn K fd likeP 1 ["flags", "amount", "usages"] g (fun vs zs => pick3 ll2 vs [.non] zs) := by
  obtain ⟨mv, h⟩ := F.kbinds0 (ps := likeP) 1 ["flags", "amount", "usages"] [("number", .non)] (fun us mv ws => pick3 ll2 us mv ws) (by simp) (by
    intro q hq
    simp only [List.mem_cons, List.not_mem_nil, or_false] at hq
    rcases hq with rfl <;> simp [He.Dv.v]) (fun r1 r2 r3 => pick3_vals _ r1 r2 r3) (by
    intro D doc pm an cdv ct us mv ws h1 h2 h3
    match us, mv, ws, h1, h2, h3 with
    | [u1], [m0], [w0, w1, w2], _, _, _ =>
      exact ⟨_, _, _, _, _, _, rfl, rfl, by (show _ = pure _); kernel_rfl!⟩)
  exact ⟨_, h⟩

def ll3 : List (Nat × Nat) := [(0, 0), (1, 0), (2, 0), (1, 1), (2, 1)]
theorem kl3 {K : PySem.W.Frag} {mg : Str → Option Value} (T : TT K mg) {fd : FuncData} (F : FunD K "field_like" "field_like" (defArgs (top 69)) (defBody (top 69)) (defScope (top 69)) [] (([("number", .non), ("flags", .non), ("amount", .non), ("usages", .non)] : List (Str × He.Dv)).map fun q => (q.1, q.2.v K)) (He.ga K "field_like") fd) :
  ∃ g, KBn K fd likeP 1 ["flags", "usages"] g (fun vs zs => pick3 ll3 vs [.non, .non] zs) := by
  obtain ⟨mv, h⟩ := F.kbinds0 (ps := likeP) 1 ["flags", "usages"] [("number", .non), ("amount", .non)] (fun us mv ws => pick3 ll3 us mv ws) (by simp) (by
    intro q hq
    simp only [List.mem_cons, List.not_mem_nil, or_false] at hq
    rcases hq with rfl | rfl <;> simp [He.Dv.v]) (fun r1 r2 r3 => pick3_vals _ r1 r2 r3) (by
    intro D doc pm an cdv ct us mv ws h1 h2 h3
    match us, mv, ws, h1, h2, h3 with
    | [u1], [m0, m1], [w0, w1], _, _, _ =>
      exact ⟨_, _, _, _, _, _, rfl, rfl, ⟨_, _, _, _, _, _, rfl, rfl, by (show _ = pure _); kernel_rfl!⟩⟩)
  exact ⟨_, h⟩

def ll4 : List (Nat × Nat) := [(0, 0), (1, 0), (1, 1), (1, 2), (2, 0)]
theorem kl4 {K : PySem.W.Frag} {mg : Str → Option Value} (T : TT K mg) {fd : FuncData} (F : FunD K "field_like" "field_like" (defArgs (top 69)) (defBody (top 69)) (defScope (top 69)) [] (([("number", .non), ("flags", .non), ("amount", .non), ("usages", .non)] : List (Str × He.Dv)).map fun q => (q.1, q.2.v K)) (He.ga K "field_like") fd) :
  ∃ g, KBn K fd likeP 1 ["usages"] g (fun vs zs => pick3 ll4 vs [.non, .non, .non] zs) := by
  obtain ⟨mv, h⟩ := F.kbinds0 (ps := likeP) 1 ["usages"] [("number", .non), ("flags", .non), ("amount", .non)] (fun us mv ws => pick3 ll4 us mv ws) (by simp) (by
    intro q hq
    simp only [List.mem_cons, List.not_mem_nil, or_false] at hq
    rcases hq with rfl | rfl | rfl <;> simp [He.Dv.v]) (fun r1 r2 r3 => pick3_vals _ r1 r2 r3) (by
    intro D doc pm an cdv ct us mv ws h1 h2 h3
    match us, mv, ws, h1, h2, h3 with
    | [u1], [m0, m1, m2], [w0], _, _, _ =>
      exact ⟨_, _, _, _, _, _, rfl, rfl, ⟨_, _, _, _, _, _, rfl, rfl, ⟨_, _, _, _, _, _, rfl, rfl, by (show _ = pure _); kernel_rfl!⟩⟩⟩)
  exact ⟨_, h⟩

structure Ll (P : Program) (w : World) (K : PySem.W.Frag) (mg : Str → Option Value) (base : Heap) (CX : CXT) (k : Nat) (sp : Sp) : Prop where
  ex : ∃ fd, FnOk P w K mg base CX k (He.ga K "field_like") fd likeP sp ∧ FunD K "field_like" "field_like" (defArgs (top 69)) (defBody (top 69)) (defScope (top 69)) [] (([("number", .non), ("flags", .non), ("amount", .non), ("usages", .non)] : List (Str × He.Dv)).map fun q => (q.1, q.2.v K)) (He.ga K "field_like") fd
  g : mg "field_like" = some (.ref (He.ga K "field_like"))
  kp : PySem.W.keepIn K (.ref (He.ga K "field_like")) = true
def orV (a b : V) : V := match a with
  | .non => b
  | x => x
theorem V12.made {K : PySem.W.Frag} {H : Hp} {v : Fa} {ds : List PyData} {x dx : Addr} {o1 o2 : HO} (nx : H x = none) (ndx : H dx = none) (h : V12 K H (fun b => H b ≠ none) v ds) : V12 K (L2.upd (L2.upd H dx o1) x o2) (fun b => H b ≠ none) v ds := by
  have s : Same H (L2.upd (L2.upd H dx o1) x o2) := fun b o e => by rw [upd_ne (ne_of_none e nx), upd_ne (ne_of_none e ndx)]; exact e
  obtain ⟨h1, d, e, h2⟩ := h
  refine ⟨fun i y hi ey => ?_, d, e, ?_⟩
  · obtain ⟨d, ed, hd⟩ := h1 i y hi ey
    exact ⟨d, ed, hd.same s⟩
  · rcases h2 with h2 | ⟨p, a, b, c⟩
    · exact .inl (h2.same s)
    · exact .inr ⟨p, a, b, Same.sqT s c⟩
def spLike (K : PySem.W.Frag) : Sp := fun vs H Q _ => ∃ (f : Addr) (v : Fa) (fl am us : V) (ds : List PyData), vs = [.ref f, .non, fl, am, us] ∧ FldAt K H f v ∧ (fl = .non ∨ ∃ i, fl = .int i) ∧ (am = .non ∨ ∃ i, am = .int i) ∧ (∃ p, us = .ref p) ∧
  V12 K H (fun b => H b ≠ none) { v with f := orV fl v.f, a := orV am v.a, s := us } ds ∧ badName ds = none ∧ ∀ f' H', Same H H' → FldAt K H' f' { v with f := orV fl v.f, a := orV am v.a, s := us } → Q (.ref f') H'

theorem w_callN {n m : Nat} {sp : Sp} {gV : List V → List V → List V} {E : XK} {t tk : TA} {σ : L2.St} {H : Hp} {Q : VK} (h : t σ H fun vs H1 => tk σ H1 fun zs H2 => vs.length = n ∧ zs.length = m ∧ sp (gV vs zs) H2 Q E) : L2.tCallN n m sp gV E t tk σ H Q := h
theorem sc_field_like : FnScope ["field", "number", "flags", "amount", "usages"] ["field", "number", "flags", "amount", "usages"] (defScope (top 69)) := ⟨rfl, rfl, rfl, by decide +kernel, rfl, by decide +kernel, by decide +kernel⟩
theorem ok_field_like {P : Program} {w : World} {K : PySem.W.Frag} {mg : Str → Option Value} {base : Heap} (T : TT K mg) (D_mk_Field : Li P w K mg base (L2.CX P w) 4 (spIni K))   : Ll P w K mg base CX0 6 (spLike K) := by
  obtain ⟨fd_Field, F_Field, FD_Field⟩ := D_mk_Field.ex
  obtain ⟨g1_Field, b1_Field⟩ := kb1 T FD_Field
  obtain ⟨g2_Field, b2_Field⟩ := kb2 T FD_Field
  obtain ⟨g3_Field, b3_Field⟩ := kb3 T FD_Field
  obtain ⟨fd, F⟩ := T.d_field_like
  refine ⟨⟨fd, F.ok sc_field_like (fun vs H Q E h => ?_) (fun cdv A outer s H vs Q E hr h => ?_), F⟩, T.g_field_like, F.kp⟩
  · obtain ⟨f, v, fl, am, us, ds, rfl, _⟩ := h
    rfl
  · obtain ⟨f, v, fl, am, us, ds, rfl, ⟨dx0, hf⟩, hfl, ham, ⟨pu, rfl⟩, hv, hb, q⟩ := h
    obtain ⟨x0, x1, x2, x3, x4, x5, x6, x7, x8, x9, x10, x11⟩ := v
    have c_F := T.c_Field
    have n_role := T.n_Field_role
    have n_number := T.n_Field_number
    have n_flags := T.n_Field_flags
    have n_size := T.n_Field_size
    have n_amount := T.n_Field_amount
    have n_low := T.n_Field_low
    have n_high := T.n_Field_high
    have n_plow := T.n_Field_plow
    have n_phigh := T.n_Field_phigh
    have n_exponent := T.n_Field_exponent
    have n_unit := T.n_Field_unit
    have n_usages := T.n_Field_usages
    refine ⟨_, PSs.nox ((pss_one (ps_ret (pe_makeK T.mk_Field F_Field hr (by rfl) T.g_Field b1_Field passF (pa_cons (pe_fld (pv 0) rfl) pa_nil) (pk_cons (pe_ifExp (pt_cmpR op_isN (pv 1) pe_non (nomark _)) (pe_fld (pv 0) rfl) (pv 1)) (pk_cons (pe_ifExp (pt_cmpR op_isN (pv 2) pe_non (nomark _)) (pe_fld (pv 0) rfl) (pv 2)) (pk_cons (pe_fld (pv 0) rfl) (pk_cons (pe_ifExp (pt_cmpR op_isN (pv 3) pe_non (nomark _)) (pe_fld (pv 0) rfl) (pv 3)) (pk_cons (pe_fld (pv 0) rfl) (pk_cons (pe_fld (pv 0) rfl) (pk_cons (pe_fld (pv 0) rfl) (pk_cons (pe_fld (pv 0) rfl) (pk_cons (pe_fld (pv 0) rfl) (pk_cons (pe_fld (pv 0) rfl) (pk_cons (pe_ifExp (pt_cmpR op_isN (pv 4) pe_non (nomark _)) (pe_fld (pv 0) rfl) (pv 4)) pk_nil))))))))))))))), ?_⟩; rw [start_5_5]; try dsimp only [cxOf]
    obtain ⟨vv, hvv⟩ : ∃ vv : Fa, vv = { (⟨x0, x1, x2, x3, x4, x5, x6, x7, x8, x9, x10, x11⟩ : Fa) with f := orV fl x2, a := orV am x4, s := .ref pu } := ⟨_, rfl⟩
    have hv2 : V12 K H (fun b => H b ≠ none) vv ds := hvv ▸ hv
    have q2 : ∀ f' H', Same H H' → FldAt K H' f' vv → Q (.ref f') H' := hvv ▸ q
    rcases hfl with rfl | ⟨i, rfl⟩ <;> rcases ham with rfl | ⟨j, rfl⟩
    all_goals walk_at "rl wi"
    all_goals refine ⟨rfl, rfl, fun x dx nx ndx ne => ?_⟩
    all_goals refine ⟨fun b => H b ≠ none, x, dx, vv, ds, (by rw [hvv]; rfl), upd_same, fun b hb e => hb (by rw [e]; exact nx), V12.made nx ndx hv2, fun _ H' b fa => ⟨rfl, ?_⟩, fun s hs => by rw [hb] at hs; cases hs⟩
    all_goals walk_at "rl wp"
    all_goals exact q2 x H' (make_same nx ndx b) fa
end T61
end
section
set_option Elab.async false
set_option linter.all false
set_option maxRecDepth 100000
set_option maxHeartbeats 1000000
namespace T61
open PySem PySem.Spec PyProof.Rows L2 L2.RL
local macro_rules | `(tactic| walk_at "rl ty") => `(tactic| first
  | assumption
  | exact .base (.int _)
  | exact .base (.str _)
  | exact .base .non
  | exact .base (.bl _)
  | exact ty_sqT (by walk_at "rl hp")
  | exact ty_sqL (by walk_at "rl hp")
  | exact .base (.tup (by walk_at "rl hp"))
  | exact .base (.lst (by walk_at "rl hp"))
  | exact .base (.dK (by walk_at "rl hp")))
local macro_rules | `(tactic| walk_at "rl if") => `(tactic| first
  | with_reducible refine iteT' rfl ?_
  | with_reducible refine iteF' rfl ?_
  | (refine iteT' rfl ?_)
  | (refine iteF' rfl ?_))
local macro_rules | `(tactic| walk_at "rl side") => `(tactic| first | assumption | omega | (constructor <;> omega) | decide)
local macro_rules | `(tactic| walk_at "rl ne") => `(tactic| first
  | assumption
  | exact Ne.symm (by assumption)
  | walk_at "rl ne2"
  | exact ne_of (by assumption) (by walk_at "rl hq") (by intro z; cases z)
  | exact (ne_of (by assumption) (by walk_at "rl hq") (by intro z; cases z)).symm)
local macro_rules | `(tactic| walk_at "rl hq") => `(tactic| first
  | assumption
  | exact upd_same
  | (refine' upd_at ?rlne ?rlhq; (case rlne => walk_at "rl ne"); (case rlhq => walk_at "rl hq"))
  | (refine' Same.at ?rlsa ?rlhq; (case rlsa => assumption); (case rlhq => walk_at "rl hq"))
  | (refine' But.at ?rlbu ?rlne ?rlhq; (case rlbu => assumption); (case rlne => walk_at "rl ne"); (case rlhq => walk_at "rl hq")))
local macro_rules | `(tactic| walk_at "rl hp") => `(tactic| first
  | assumption
  | (refine' SqL.of ?rlhq; (case rlhq => walk_at "rl hq"))
  | (refine' SqT.of ?rlhq; (case rlhq => walk_at "rl hq"))
  | (refine' Same.seq ?rlsa ?rlhp; (case rlsa => assumption); (case rlhp => walk_at "rl hp"))
  | (refine' Same.sqT ?rlsa ?rlhp; (case rlsa => assumption); (case rlhp => walk_at "rl hp"))
  | walk_at "rl hp2"
  | walk_at "rl hq")
local macro_rules | `(tactic| walk_at "rl w1") => `(tactic| first
  | with_reducible refine w_seq ?_
  | ((with_reducible refine' w_var ?rlv ?_); (case rlv => exact rfl))
  | with_reducible refine w_c ?_
  | with_reducible refine w_op ?_
  | with_reducible refine w_I0 ?_
  | with_reducible refine w_asg ?_
  | ((with_reducible refine' w_gName ?_); dsimp only [List.set])
  | ((with_reducible refine' w_nxD ?rle ?_); (case rle => exact rfl))
  | ((with_reducible refine' w_rtD ?rle ?_); (case rle => exact rfl))
  | with_reducible refine w_next ?_
  | with_reducible refine w_ret ?_
  | with_reducible refine w_cons ?_
  | with_reducible refine w_nil ?_
  | with_reducible refine w_ifS ?_
  | with_reducible refine w_test ?_
  | with_reducible refine w_B ?_
  | with_reducible refine w_bl ?_
  | with_reducible refine w_bl1 ?_
  | with_reducible refine w_blR ?_
  | with_reducible refine w_eqI ?_
  | with_reducible refine w_neI ?_
  | with_reducible refine w_eqS ?_
  | with_reducible refine w_neS ?_
  | with_reducible refine w_eqB ?_
  | with_reducible refine w_neB ?_
  | with_reducible refine w_and ?_
  | with_reducible refine w_or ?_
  | with_reducible refine w_not ?_
  | with_reducible refine w_andV ?_
  | with_reducible refine w_orV ?_
  | with_reducible refine w_notV ?_
  | with_reducible refine w_if ?_
  | with_reducible refine w_chain ?_
  | with_reducible refine w_un ?_
  | with_reducible refine w_U ?_
  | ((with_reducible refine' w_I ?rlc ?_); (case rlc => walk_at "rl side"))
  | with_reducible refine w_drop ?_
  | with_reducible refine w_retN ?_
  | with_reducible refine w_par ?_
  | ((with_reducible refine' w_par2 ?_); dsimp only [List.set])
  | ((with_reducible refine' w_aug ?rla ?_); (case rla => exact rfl))
  | with_reducible refine w_ipI ?_
  | with_reducible refine w_break ?_
  | with_reducible refine w_cont ?_
  | ((with_reducible refine' w_bkD ?rle ?_); (case rle => exact rfl))
  | ((with_reducible refine' w_ctD ?rle ?_); (case rle => exact rfl))
  | with_reducible refine w_tup ?_
  | with_reducible refine w_lst ?_
  | ((with_reducible refine' w_newO ?rln ?_); (case rln => exact Nat.le_of_ble_eq_true rfl); intro _ _ _ _ _)
  | ((with_reducible refine' w_new ?rln ?_); (case rln => exact Nat.le_of_ble_eq_true rfl))
  | ((with_reducible refine' w_mk ?_); intro _ _ _ _ _)
  | ((with_reducible refine' w_gTup ?rls ?rll ?_); (case rls => walk_at "rl hp"); (case rll => exact rfl))
  | with_reducible refine w_gCons ?_
  | with_reducible refine w_gNil ?_
  | with_reducible refine w_gSub ?_
  | ((with_reducible refine' w_setL ?rls ?rlj ?_); (case rls => walk_at "rl hp"); (case rlj => exact rfl))
  | ((with_reducible refine' w_ixL ?rls ?rli ?_); (case rls => walk_at "rl hp"); (case rli => exact rfl))
  | ((with_reducible refine' w_ixT ?rls ?rli ?_); (case rls => walk_at "rl hp"); (case rli => exact rfl))
  | with_reducible refine w_call ?_
  | with_reducible refine w_trI ?_
  | with_reducible refine w_yes ?_
  | with_reducible refine w_trB ?_
  | with_reducible refine w_trN ?_
  | with_reducible refine w_cb ?_
  | with_reducible refine w_fld ?_
  | ((with_reducible refine' w_fld1 ?rlo ?rlc ?rln ?rll ?_); (case rlo => walk_at "rl hp"); (case rlc => assumption); (case rln => assumption); (case rll => exact rfl))
  | with_reducible refine w_isiO ?_
  | with_reducible refine w_isiT ?_
  | ((with_reducible refine' w_isi (r := true) ?rlt ?rlk ?_); (case rlt => walk_at "rl ty"); (case rlk => exact rfl))
  | ((with_reducible refine' w_isi (r := false) ?rlt ?rlk ?_); (case rlt => walk_at "rl ty"); (case rlk => exact rfl))
  | ((with_reducible refine' w_isi2 (r := true) ?rlT ?rlt ?rlk ?_); (case rlT => walk_at "rl hp"); (case rlt => walk_at "rl ty"); (case rlk => exact rfl))
  | ((with_reducible refine' w_isi2 (r := false) ?rlT ?rlt ?rlk ?_); (case rlT => walk_at "rl hp"); (case rlt => walk_at "rl ty"); (case rlk => exact rfl))
  | with_reducible refine w_sFld ?_
  | with_reducible refine w_itemsK ?_
  | ((with_reducible refine' w_catT ?rlha ?rlhb ?rln1 ?rln2 ?rlhl ?_); (case rlha => walk_at "rl hp"); (case rlhb => walk_at "rl hp"); (case rln1 => exact (fun z => nomatch z)); (case rln2 => exact (fun z => nomatch z)); (case rlhl => exact Nat.le_trans (Nat.le_of_ble_eq_true rfl) (show 100000 ≤ sizeLine by decide)))
  | ((with_reducible refine' w_newE ?_); intro _ _ _ _ _)
  | with_reducible refine w_makeK ?_
  | ((with_reducible refine' w_sFld1 ?rlc ?rln ?rll ?rle ?_); (case rlc => assumption); (case rln => assumption); (case rll => exact Nat.lt_of_lt_of_le (Nat.lt_succ_self _) (Nat.le_of_ble_eq_true rfl)); (case rle => exact rfl))
  | ((with_reducible refine' w_sFld0 ?rlx ?rlc ?rln ?rll ?rle ?_); (case rlx => walk_at "rl hq"); (case rlc => assumption); (case rln => assumption); (case rll => exact Nat.lt_of_lt_of_le (Nat.lt_succ_self _) (Nat.le_of_ble_eq_true rfl)); (case rle => exact rfl))
  | with_reducible refine w_rflA ?_
  | with_reducible refine w_for ?_
  | with_reducible refine w_iList ?_
  | with_reducible refine w_iTup ?_
  | ((with_reducible refine' w_overL ?rls ?_); (case rls => walk_at "rl hp"))
  | ((with_reducible refine' w_overT ?rls ?_); (case rls => walk_at "rl hp"))
  | with_reducible refine w_rng1 ?_
  | ((with_reducible refine' w_rng1a ?rl1 ?rl2 ?_); (case rl1 => omega); (case rl2 => omega))
  | with_reducible refine w_rng2 ?_
  | ((with_reducible refine' w_rng2a ?rl1 ?_); (case rl1 => omega))
  | with_reducible refine w_zip2 ?_
  | with_reducible refine w_lc ?_
  | with_reducible refine w_enS ?_
  | with_reducible refine w_callSD ?_
  | with_reducible refine w_xf ?_
  | ((with_reducible refine' w_dnew ?_); intro _ _ _ _ _)
  | ((with_reducible refine' w_disp1 ?_); intro _ _ _ _ _)
  | with_reducible refine w_bm ?_
  | ((with_reducible refine' w_tyL ?rls ?_); (case rls => walk_at "rl hp"))
  | ((with_reducible refine' w_append ?rls ?rll ?_); (case rls => walk_at "rl hq"); (case rll => exact Nat.lt_of_lt_of_le (Nat.lt_succ_self _) (Nat.le_of_ble_eq_true rfl)))
  | ((with_reducible refine' w_cat ?rls ?rlt ?rll ?_); (case rls => walk_at "rl hq"); (case rlt => walk_at "rl hq"); (case rll => exact Nat.le_of_ble_eq_true rfl); intro _ _ _ _ _)
  | with_reducible refine w_int1 ?_
  | ((with_reducible refine w_intb ?_); (try dsimp only))
  | with_reducible refine w_one ?_
  | with_reducible refine w_two ?_
  | ((with_reducible refine' w_lenL ?rls ?_); (case rls => walk_at "rl hp"))
  | ((with_reducible refine' w_lenT ?rls ?_); (case rls => walk_at "rl hp"))
  | with_reducible refine w_meth ?_
  | ((with_reducible refine' w_meth1 ?rlo ?rll ?_); (case rlo => walk_at "rl hp"); (case rll => exact rfl)))
local macro_rules | `(tactic| walk_at "rl wp") => `(tactic| (repeat walk_at "rl w1"))
local macro_rules | `(tactic| walk_at "rl but") => `(tactic| first
  | assumption
  | exact But.refl _ _
  | exact But.upd
  | exact But.of_same (by assumption)
  | (refine But.trans ?_ (But.of_same (by assumption)); walk_at "rl but")
  | (refine But.trans ?_ (by assumption : But _ _ _); walk_at "rl but")
  | (refine But.trans ?_ But.upd; walk_at "rl but"))
local macro_rules | `(tactic| walk_at "rl same") => `(tactic| first
  | assumption
  | exact Same.refl _
  | (refine Same.trans ?_ (by assumption : Same _ _); walk_at "rl same"))

local macro_rules | `(tactic| walk_at "rl wi") => `(tactic| (repeat (first
  | walk_at "rl w1"
  | ((with_reducible refine' iteF' ?rlif ?_); (case rlif => exact rfl))
  | ((with_reducible refine' iteT' ?rlif ?_); (case rlif => exact rfl)))))
local macro_rules | `(tactic| walk_at "rl ty") => `(tactic| exact .base (.dK (by assumption)))
local macro_rules | `(tactic| walk_at "rl ty") => `(tactic| exact .base (.lst (by assumption)))
local macro_rules | `(tactic| walk_at "rl ty") => `(tactic| exact .base (.tup (by assumption)))
local macro_rules | `(tactic| walk_at "rl w1") => `(tactic| first
  | with_reducible refine w_par3 ?_
  | ((with_reducible refine' w_par3a ?_); dsimp only [List.set])
  | with_reducible refine w_dget ?_
  | ((with_reducible refine' w_dgetS ?rls ?rlv ?_); (case rls => walk_at "rl hq"); (case rlv => exact rfl))
  | ((with_reducible refine' w_dgetI ?rls ?rlv ?_); (case rls => walk_at "rl hq"); (case rlv => exact rfl))
  | with_reducible refine w_dget2 ?_
  | ((with_reducible refine' w_isD ?rls ?_); (case rls => walk_at "rl hq"))
  | ((with_reducible refine' w_dget2S ?rls ?_); (case rls => walk_at "rl hq"))
  | ((with_reducible refine' w_dget2I ?rls ?_); (case rls => walk_at "rl hq"))
  | ((with_reducible refine' w_setDS ?rls ?rll ?rlm ?_); (case rls => walk_at "rl hq"); (case rll => exact Nat.lt_of_lt_of_le (Nat.lt_succ_self _) (Nat.le_of_ble_eq_true rfl)); (case rlm => exact rfl))
  | ((with_reducible refine' w_tyD ?rls ?_); (case rls => walk_at "rl hq"))
  | with_reducible refine w_jNil ?_
  | with_reducible refine w_jCons ?_
  | with_reducible refine w_prop ?_
  | with_reducible refine w_makeKS ?_
  | with_reducible refine w_pNil ?_
  | with_reducible refine w_pCons ?_
  | ((with_reducible refine' w_dispN ?_); intro _ _ _ _ _))

local macro_rules | `(tactic| walk_at "rl w1") => `(tactic| ((with_reducible refine' w_dispP ?_); intro _ _ _ _ _))
local macro_rules | `(tactic| walk_at "rl w1") => `(tactic| with_reducible refine w_ifT ?_)
local macro_rules | `(tactic| walk_at "rl w1") => `(tactic| ((with_reducible refine' w_dgS ?rls ?rlv ?_); (case rls => walk_at "rl hq"); (case rlv => exact rfl)))

theorem w_din {ty td : TE} {σ : L2.St} {H : Hp} {Q : VK} (h : ty σ H fun y H1 => td σ H1 fun x H2 => ∃ a o, x = .ref a ∧ DGet H2 a y o ∧ Q (.bl o.isSome) H2) : tDIn ty td σ H Q := h
theorem w_dinI {H : Hp} {R : Option V → Prop} {a : Addr} {kvs : List (Key × V)} {i : Int} (e : H a = some (.dK kvs)) (h : R (valV kvs (.inl i))) : ∃ a' o, V.ref a = .ref a' ∧ DGet H a' (.int i) o ∧ R o := ⟨a, _, rfl, DGet.k (k := .inl i) e, h⟩
theorem w_dinT {H : Hp} {R : Option V → Prop} {a b : Addr} {kvs : List (List Key × V)} {k : List Key} (e : H a = some (.dT kvs)) (eb : H b = some (.tup (k.map kV))) (h : R (valV kvs k)) : ∃ a' o, V.ref a = .ref a' ∧ DGet H a' (.ref b) o ∧ R o := ⟨a, _, rfl, DGet.t e eb, h⟩
def keptB (kvs : List (Key × V)) (i : Int) : Bool := (valV kvs (.inl i)).isSome
def runStep (p : Int → Bool) (acc : List (List Int)) (u : Int) : List (List Int) := match acc.getLast? with
  | some r => if p (r.headD 0) = p u then acc.dropLast ++ [r ++ [u]] else acc ++ [[u]]
  | none => [[u]]
def runsOf (p : Int → Bool) (us : List Int) : List (List Int) := us.foldl (runStep p) []
def LstsAt (H : Hp) (as : List Addr) (rs : List (List Int)) : Prop := as.length = rs.length ∧ ∀ (i : Nat) (a : Addr) (r : List Int), as[i]? = some a → rs[i]? = some r → H a = some (.lst (r.map V.int)) ∧ r ≠ [] ∧ r.length ≤ 1000
def spRuns (K : PySem.W.Frag) : Sp := fun vs H Q _ => ∃ (p k : Addr) (us : List Int) (kvs : List (Key × V)), vs = [.ref p, .ref k] ∧ SqT K H p (us.map V.int) ∧ us.length ≤ 1000 ∧ H k = some (.dK kvs) ∧
  ∀ f as H', H f = none → Same H H' → H' f = some (.lst (as.map V.ref)) → LstsAt H' as (runsOf (keptB kvs) us) → Q (.ref f) H'
theorem dpInts {K : PySem.W.Frag} {H : Hp} : ∀ us : List Int, DpAll K H (us.map V.int) (us.map PyData.int)
  | [] => .nil
  | u :: us => .cons (.int u) (dpInts us)
theorem canInts : ∀ us : List Int, PyData.canLayAll0 (us.map PyData.int) = true
  | [] => rfl
  | u :: us => by show (true && PyData.canLayAll0 (us.map PyData.int)) = true; rw [canInts us]; rfl
theorem depInts : ∀ us : List Int, PyData.depthAll (us.map PyData.int) ≤ 1
  | [] => by decide
  | u :: us => by show max (PyData.int u).depth (PyData.depthAll (us.map PyData.int)) ≤ 1; exact Nat.max_le.mpr ⟨Nat.le_of_ble_eq_true rfl, depInts us⟩
def datR (rs : List (List Int)) : List PyData := rs.map fun r => .list (r.map PyData.int)
theorem LstsAt.dp {K : PySem.W.Frag} {H : Hp} : ∀ {as : List Addr} {rs : List (List Int)}, LstsAt H as rs → DpAll K H (as.map V.ref) (datR rs)
  | [], [], _ => .nil
  | a :: as, r :: rs, h => .cons (.lst (SqL.of (h.2 0 a r rfl rfl).1) (dpInts r)) (LstsAt.dp (as := as) (rs := rs) ⟨Nat.succ.inj h.1, fun i a r h1 h2 => h.2 (i + 1) a r (by simpa using h1) (by simpa using h2)⟩)
  | [], _ :: _, h => by cases h.1
  | _ :: _, [], h => by cases h.1
theorem can_datR : ∀ rs, PyData.canLayAll0 (datR rs) = true
  | [] => rfl
  | r :: rs => by show (PyData.canLayAll0 (r.map PyData.int) && PyData.canLayAll0 (datR rs)) = true; rw [canInts, can_datR rs]; rfl
theorem dep_datR : ∀ rs, PyData.depthAll (datR rs) ≤ 2
  | [] => by decide
  | r :: rs => by show max (PyData.depthAll (r.map PyData.int) + 1) (PyData.depthAll (datR rs)) ≤ 2; exact Nat.max_le.mpr ⟨Nat.succ_le_succ (depInts r), dep_datR rs⟩
theorem shaped_datR (rs) : SeqAt.shaped (.list (datR rs)) = true := by
  have e : SeqAt.shaped (.list (datR rs)) = (PyData.canLayAll0 (datR rs) && decide ((PyData.list (datR rs)).depth ≤ 64)) := rfl
  have e2 : (PyData.list (datR rs)).depth = PyData.depthAll (datR rs) + 1 := rfl
  have := dep_datR rs
  rw [e, can_datR, e2, decide_eq_true (by omega)]
  rfl
theorem eqv_nilL {ns : List PyData} : PyData.eqv (.list ns) (.list []) = decide (ns = []) := by
  cases ns with
  | nil => rfl
  | cons a l => rfl
theorem w_neNil {K : PySem.W.Frag} {H : Hp} {Q : VK} {f e : Addr} {as : List Addr} {rs : List (List Int)} (hf : H f = some (.lst (as.map V.ref))) (he : H e = some (.lst [])) (hr : LstsAt H as rs) (h : Q (.bl (!decide (rs = []))) H) : rNeD K (.ref f) (.ref e) H Q :=
  ⟨.list (datR rs), .list [], .lst (SqL.of hf) hr.dp, .lst (SqL.of he) .nil, shaped_datR rs, by rfl, by
    rw [eqv_nilL]
    have e : decide (datR rs = []) = decide (rs = []) := by cases rs <;> rfl
    rw [e]
    exact h⟩
theorem LstsAt.same {H H' : Hp} {as : List Addr} {rs : List (List Int)} (s : Same H H') (h : LstsAt H as rs) : LstsAt H' as rs := ⟨h.1, fun i a r h1 h2 => let ⟨z, y⟩ := h.2 i a r h1 h2; ⟨s _ _ z, y⟩⟩
theorem runStep_nil {p : Int → Bool} {u : Int} : runStep p [] u = [[u]] := rfl
theorem runStep_snoc {p : Int → Bool} {rs : List (List Int)} {r : List Int} {u : Int} : runStep p (rs ++ [r]) u = if p (r.headD 0) = p u then rs ++ [r ++ [u]] else rs ++ [r] ++ [[u]] := by
  unfold runStep
  rw [List.getLast?_concat, List.dropLast_concat]
theorem LstsAt.snoc {H : Hp} {as : List Addr} {rs : List (List Int)} {a : Addr} {r : List Int} (h : LstsAt H as rs) (ha : H a = some (.lst (r.map V.int))) (hr : r ≠ []) (hl : r.length ≤ 1000) : LstsAt H (as ++ [a]) (rs ++ [r]) := by
  refine ⟨by rw [List.length_append, List.length_append, h.1]; rfl, fun i b s h1 h2 => ?_⟩
  by_cases c : i < as.length
  · rw [List.getElem?_append_left c] at h1
    rw [List.getElem?_append_left (by rw [← h.1]; exact c)] at h2
    exact h.2 i b s h1 h2
  · rw [List.getElem?_append_right (by omega)] at h1
    rw [List.getElem?_append_right (by rw [← h.1]; omega)] at h2
    have e : i - as.length = 0 := by
      have := (List.getElem?_eq_some_iff.mp h1).1
      simp at this
      omega
    rw [e] at h1
    rw [← h.1, e] at h2
    cases h1
    cases h2
    exact ⟨ha, hr, hl⟩
theorem gs_app {α : Type} {l m : List α} {i : Nat} {x : α} (h : l[i]? = some x) : (l ++ m)[i]? = some x := by rw [List.getElem?_append_left (List.getElem?_eq_some_iff.mp h).1]; exact h
theorem LstsAt.init {H : Hp} {as : List Addr} {rs : List (List Int)} {a : Addr} {r : List Int} (h : LstsAt H (as ++ [a]) (rs ++ [r])) : LstsAt H as rs ∧ H a = some (.lst (r.map V.int)) ∧ r ≠ [] ∧ r.length ≤ 1000 := by
  have hl : as.length = rs.length := by have := h.1; simpa using this
  refine ⟨⟨hl, fun i b s h1 h2 => h.2 i b s (gs_app h1) (gs_app h2)⟩, h.2 as.length a r (by simp) (by rw [hl]; simp)⟩
theorem snoc_of {α : Type} : ∀ (l : List α), l ≠ [] → ∃ i x, l = i ++ [x] := fun l h => ⟨l.dropLast, l.getLast h, (List.dropLast_concat_getLast h).symm⟩
theorem LstsAt.ne {H H' : Hp} {as : List Addr} {rs : List (List Int)} {a : Addr} (h : LstsAt H as rs) (n : a ∉ as) (b : But a H H') : LstsAt H' as rs := ⟨h.1, fun i c r h1 h2 => let ⟨z, y⟩ := h.2 i c r h1 h2; ⟨b _ _ (fun e => n (e ▸ List.mem_of_getElem? h1)) z, y⟩⟩
theorem same_but {H H1 H2 : Hp} {a : Addr} (s : Same H H1) (n : H a = none) (b : But a H1 H2) : Same H H2 := fun c o e => b c o (ne_of_none e n) (s c o e)
theorem runs_new {H H' H3 : Hp} {f p' : Addr} {as : List Addr} {rs : List (List Int)} {u : Int} (sm : Same H H') (s3 : Same H' H3) (hf : H' f = some (.lst (as.map V.ref))) (nf : H f = none) (nfa : f ∉ as) (nd : as.Nodup) (fr : ∀ a ∈ as, H a = none) (np : H' p' = none) (hp : H3 p' = some (.lst [V.int u])) (hla : LstsAt H' as rs) :
    Same H (L2.upd H3 f (.lst (as.map V.ref ++ [.ref p']))) ∧ L2.upd H3 f (.lst (as.map V.ref ++ [.ref p'])) f = some (.lst ((as ++ [p']).map V.ref)) ∧ (as ++ [p']).Nodup ∧ f ∉ as ++ [p'] ∧ (∀ a ∈ as ++ [p'], H a = none) ∧ LstsAt (L2.upd H3 f (.lst (as.map V.ref ++ [.ref p']))) (as ++ [p']) (rs ++ [[u]]) := by
  have nfp : f ≠ p' := ne_of_none hf np
  have npa : p' ∉ as := fun m => by
    obtain ⟨i, hi⟩ := List.getElem?_of_mem m
    have hl := (List.getElem?_eq_some_iff.mp hi).1
    obtain ⟨z, _⟩ := hla.2 i p' (rs[i]'(by rw [← hla.1]; exact hl)) hi (by simp)
    rw [np] at z
    cases z
  have b : But f H3 (L2.upd H3 f (.lst (as.map V.ref ++ [.ref p']))) := But.upd
  refine ⟨same_but (sm.trans s3) nf b, by rw [upd_same, List.map_append]; rfl, ?_, ?_, ?_, ?_⟩
  · rw [List.nodup_append]
    refine ⟨nd, by simp, fun x hx y hy => ?_⟩
    rw [List.mem_singleton.mp hy]
    exact fun e => npa (e ▸ hx)
  · exact fun m => (List.mem_append.mp m).elim nfa fun m => nfp (List.mem_singleton.mp m)
  · refine fun a m => (List.mem_append.mp m).elim (fr a) fun m => ?_
    rw [List.mem_singleton.mp m]
    cases e : H p' with
    | none => rfl
    | some o => rw [sm _ _ e] at np; cases np
  · exact ((hla.same s3).ne nfa b).snoc (b _ _ (Ne.symm nfp) hp) (by simp) (by simp)
theorem atI_zero {α : Type} {l : List α} {x : α} : atI (x :: l) 0 = some x := by
  have e : ixN (x :: l).length 0 = some 0 := by
    unfold ixN
    rw [if_pos (by decide), if_pos (by simp)]
    rfl
  unfold atI
  rw [e]
  rfl
theorem atI_snoc {α : Type} {l : List α} {x : α} : atI (l ++ [x]) (-1) = some x := by
  have e : ixN (l ++ [x]).length (-1) = some l.length := by
    rw [List.length_append]
    unfold ixN
    rw [if_neg (by decide), if_pos (by simp; omega)]
    simp
    omega
  unfold atI
  rw [e]
  simp

local macro_rules | `(tactic| walk_at "rl w1") => `(tactic| first
  | with_reducible refine w_din ?_
  | ((with_reducible refine' w_dinI ?rls ?_); (case rls => walk_at "rl hq"))
  | ((with_reducible refine' w_dinT ?rls ?rlt ?_); (case rls => walk_at "rl hq"); (case rlt => walk_at "rl hq"))
  | with_reducible refine w_callN ?_)
theorem sc_runs_of : FnScope ["usages", "kept", "found", "usage"] ["usages", "kept"] (defScope (top 71)) := ⟨rfl, rfl, rfl, by decide +kernel, rfl, by decide +kernel, by decide +kernel⟩
theorem ok_runs_of {P : Program} {w : World} {K : PySem.W.Frag} {mg : Str → Option Value} {base : Heap} (T : TT K mg)    : Ld P w K mg base CX0 1 "runs_of" ["usages", "kept"] [] (spRuns K) := by
  obtain ⟨fd, F⟩ := T.d_runs_of
  refine ⟨⟨fd, [], F.ok sc_runs_of (fun vs H Q E h => ?_) (fun cdv A outer s H vs Q E hr h => ?_), FunD.bindsN F (fun _ _ _ _ _ _ us hl => match us, hl with | [_, _], _ => rfl), .nil⟩, T.g_runs_of, F.kp⟩
  · obtain ⟨p, k, us, kvs, rfl, _⟩ := h
    rfl
  · obtain ⟨p, k, us, kvs, rfl, hp, hu, hk, q⟩ := h
    refine ⟨_, PSs.nox ((pss_cons (ps_set (i := 2) sc_runs_of.nd rfl (by first | exact Or.inl rfl | exact Or.inr rfl) (pe_lst pa_nil)) (pss_cons (ps_for PassesOwn.never rfl (pi_tup (pv 0)) (pg_name (i := 3) sc_runs_of.nd rfl (by first | exact Or.inl rfl | exact Or.inr rfl)) (pss_one (ps_if (PW.pt (pw_and (pt_cmpR (op_neD hr.units) (pv 2) (pe_lst pa_nil) (nomark _)) (pw_and1 (pt_cmpR op_eq (pe_cmp (pc_din (room_u1 hr) (pe_ix ix_list (pe_ix ix_list (pv 2) (pe_un un_neg pe_int) (fun _ _ => rfl)) pe_int (fun _ _ => rfl)) (pv 1)) (by rfl)) (pe_cmp (pc_din (room_u1 hr) (pv 3) (pv 1)) (by rfl)) (nomark _))))) (pss_one (ps_expr (pe_bm PySem.F.plainAttrs_list PySem.F.slot_list_append PySem.F.type_list_append mt_append (pe_ix ix_list (pv 2) (pe_un un_neg pe_int) (fun _ _ => rfl)) (pa_cons (pv 3) pa_nil)))) (pss_one (ps_expr (pe_bm PySem.F.plainAttrs_list PySem.F.slot_list_append PySem.F.type_list_append mt_append (pv 2) (pa_cons (pe_lst (pa_cons (pv 3) pa_nil)) pa_nil))))))) (pss_one (ps_ret (pv 2)))))), ?_⟩; rw [start_4_2]; try dsimp only [cxOf]
    walk_at "rl wp"
    rename_i f H1 nf sf hf
    refine w_forS (fun i σ' H' => Same H H' ∧ ∃ (as : List Addr) (y : Option V), σ' = [some (.ref p), some (.ref k), some (.ref f), y] ∧ H' f = some (.lst (as.map V.ref)) ∧ as.Nodup ∧ f ∉ as ∧ (∀ a ∈ as, H a = none) ∧ (∀ r ∈ runsOf (keptB kvs) (us.take i), r.length ≤ i) ∧ (runsOf (keptB kvs) (us.take i)).length ≤ i ∧ LstsAt H' as (runsOf (keptB kvs) (us.take i))) (fun i σ' H' ⟨sm, _⟩ => seqT (Same.sqT sm hp)) ⟨sf, [], none, rfl, hf, .nil, by simp, by simp, by simp [runsOf], by simp [runsOf], rfl, by simp⟩ ?_ ?_
    · rintro i x σ' H' hx ⟨sm, as, y, rfl, hf', nd, nfa, fr, hrl, hrn, hla⟩
      rw [List.getElem?_map] at hx
      obtain ⟨u, hu1, rfl⟩ := Option.map_eq_some_iff.mp hx
      have hi : i < us.length := (List.getElem?_eq_some_iff.mp hu1).1
      have st : runsOf (keptB kvs) (us.take (i + 1)) = runStep (keptB kvs) (runsOf (keptB kvs) (us.take i)) u := by
        unfold runsOf
        rw [List.take_succ, hu1, List.foldl_append]
        rfl
      rw [st]
      generalize runsOf (keptB kvs) (us.take i) = rs at hla hrl hrn ⊢
      have hk' := sm _ _ hk
      walk_at "rl wi"
      rename_i e0 H2 ne0 se0 he0
      refine w_neNil (se0 _ _ hf') he0 (hla.same se0) ?_
      walk_at "rl wi"
      by_cases c : rs = []
      · subst c
        rw [runStep_nil]
        obtain rfl : as = [] := List.length_eq_zero_iff.mp hla.1
        walk_at "rl wi"
        rename_i p' H3 np3 s3 hp3
        obtain ⟨h1, h2, h3, h4, h5, h6⟩ := runs_new sm (se0.trans s3) hf' nf nfa nd fr (by cases e : H' p' with | none => rfl | some o => rw [se0 _ _ e] at np3; cases np3) hp3 hla
        exact ⟨h1, _, _, rfl, h2, h3, h4, h5, by simp, by simp, h6⟩
      · obtain ⟨rs, r, rfl⟩ := snoc_of rs c
        have ca : as ≠ [] := fun e => by subst e; have := hla.1; simp at this
        obtain ⟨as, a, rfl⟩ := snoc_of as ca
        obtain ⟨hla', hra, hrne, hrl'⟩ := hla.init
        cases r with
        | nil => exact absurd rfl hrne
        | cons r0 r =>
        have hfz : H2 f = some (.lst (as.map V.ref ++ [.ref a])) := by rw [se0 _ _ hf', List.map_append]; rfl
        have hra2 := se0 _ _ hra
        have hk2 := se0 _ _ hk'
        refine iteT' (by simp) ?_
        walk_at "rl wp"
        refine w_ixL (SqL.of hfz) atI_snoc ?_
        walk_at "rl wp"
        refine w_ixL (SqL.of hra2) atI_zero ?_
        walk_at "rl wp"
        rw [runStep_snoc]
        by_cases c2 : keptB kvs r0 = keptB kvs u
        · refine iteT' (decide_eq_true c2) ?_
          rw [if_pos (show keptB kvs ((r0 :: r).headD 0) = keptB kvs u from c2)]
          walk_at "rl wp"
          refine w_ixL (SqL.of hfz) atI_snoc ?_
          walk_at "rl wp"
          refine w_append hra2 (by rw [List.length_map]; omega) ?_
          walk_at "rl wp"
          have b : But a H2 (L2.upd H2 a (.lst ((r0 :: r).map V.int ++ [.int u]))) := But.upd
          have nfa' : f ≠ a := fun e => nfa (e ▸ List.mem_append_right _ (List.mem_singleton.mpr rfl))
          have naa : a ∉ as := fun m => (List.nodup_append.mp nd).2.2 a m a (List.mem_singleton.mpr rfl) rfl
          have hl1 : (r0 :: r).length ≤ i := hrl _ (List.mem_append_right _ (List.mem_singleton.mpr rfl))
          refine ⟨same_but (sm.trans se0) (fr a (List.mem_append_right _ (List.mem_singleton.mpr rfl))) b, as ++ [a], _, rfl, by rw [upd_ne nfa', hfz, List.map_append]; rfl, nd, nfa, fr, fun s m => ?_, by simpa using Nat.le_succ_of_le hrn, ((hla'.same se0).ne naa b).snoc (by rw [upd_same, List.map_append]; rfl) (by simp) (by rw [List.length_append]; simp only [List.length_singleton]; omega)⟩
          rcases List.mem_append.mp m with m | m
          · exact Nat.le_succ_of_le (hrl s (List.mem_append_left _ m))
          · rw [List.mem_singleton.mp m, List.length_append]
            exact Nat.succ_le_succ hl1
        · refine iteF' (decide_eq_false c2) ?_
          rw [if_neg (show ¬ keptB kvs ((r0 :: r).headD 0) = keptB kvs u from c2)]
          walk_at "rl wp"
          rename_i p' H3 np3 s3 hp3
          have ln : ((as ++ [a]).map V.ref).length < 100000 := by
            rw [List.length_map, hla.1]
            omega
          rw [List.map_append] at ln
          refine w_append (s3 _ _ hfz) ln ?_
          walk_at "rl wp"
          obtain ⟨h1, h2, h3, h4, h5, h6⟩ := runs_new sm (se0.trans s3) hf' nf nfa nd fr (by cases e : H' p' with | none => rfl | some o => rw [se0 _ _ e] at np3; cases np3) hp3 hla
          rw [List.map_append] at h1 h2 h6
          refine ⟨h1, _, _, rfl, h2, h3, h4, h5, fun s m => ?_, by rw [List.length_append]; exact Nat.succ_le_succ hrn, h6⟩
          rcases List.mem_append.mp m with m | m
          · exact Nat.le_succ_of_le (hrl s m)
          · rw [List.mem_singleton.mp m]
            simp
    · rintro σ' H' ⟨sm, as, y, rfl, hf', nd, nfa, fr, hrl, hrn, hla⟩
      rw [List.length_map, List.take_length] at hla
      walk_at "rl wp"
      exact q f as H' nf sm hf' hla
end T61
end
section
set_option Elab.async false
set_option linter.all false
set_option maxRecDepth 100000
set_option maxHeartbeats 1000000
namespace T61
open PySem PySem.Spec PyProof.Rows L2 L2.RL
local macro_rules | `(tactic| walk_at "rl ty") => `(tactic| first
  | assumption
  | exact .base (.int _)
  | exact .base (.str _)
  | exact .base .non
  | exact .base (.bl _)
  | exact ty_sqT (by walk_at "rl hp")
  | exact ty_sqL (by walk_at "rl hp")
  | exact .base (.tup (by walk_at "rl hp"))
  | exact .base (.lst (by walk_at "rl hp"))
  | exact .base (.dK (by walk_at "rl hp")))
local macro_rules | `(tactic| walk_at "rl if") => `(tactic| first
  | with_reducible refine iteT' rfl ?_
  | with_reducible refine iteF' rfl ?_
  | (refine iteT' rfl ?_)
  | (refine iteF' rfl ?_))
local macro_rules | `(tactic| walk_at "rl side") => `(tactic| first | assumption | omega | (constructor <;> omega) | decide)
local macro_rules | `(tactic| walk_at "rl ne") => `(tactic| first
  | assumption
  | exact Ne.symm (by assumption)
  | walk_at "rl ne2"
  | exact ne_of (by assumption) (by walk_at "rl hq") (by intro z; cases z)
  | exact (ne_of (by assumption) (by walk_at "rl hq") (by intro z; cases z)).symm)
local macro_rules | `(tactic| walk_at "rl hq") => `(tactic| first
  | assumption
  | exact upd_same
  | (refine' upd_at ?rlne ?rlhq; (case rlne => walk_at "rl ne"); (case rlhq => walk_at "rl hq"))
  | (refine' Same.at ?rlsa ?rlhq; (case rlsa => assumption); (case rlhq => walk_at "rl hq"))
  | (refine' But.at ?rlbu ?rlne ?rlhq; (case rlbu => assumption); (case rlne => walk_at "rl ne"); (case rlhq => walk_at "rl hq")))
local macro_rules | `(tactic| walk_at "rl hp") => `(tactic| first
  | assumption
  | (refine' SqL.of ?rlhq; (case rlhq => walk_at "rl hq"))
  | (refine' SqT.of ?rlhq; (case rlhq => walk_at "rl hq"))
  | (refine' Same.seq ?rlsa ?rlhp; (case rlsa => assumption); (case rlhp => walk_at "rl hp"))
  | (refine' Same.sqT ?rlsa ?rlhp; (case rlsa => assumption); (case rlhp => walk_at "rl hp"))
  | walk_at "rl hp2"
  | walk_at "rl hq")
local macro_rules | `(tactic| walk_at "rl w1") => `(tactic| first
  | with_reducible refine w_seq ?_
  | ((with_reducible refine' w_var ?rlv ?_); (case rlv => exact rfl))
  | with_reducible refine w_c ?_
  | with_reducible refine w_op ?_
  | with_reducible refine w_I0 ?_
  | with_reducible refine w_asg ?_
  | ((with_reducible refine' w_gName ?_); dsimp only [List.set])
  | ((with_reducible refine' w_nxD ?rle ?_); (case rle => exact rfl))
  | ((with_reducible refine' w_rtD ?rle ?_); (case rle => exact rfl))
  | with_reducible refine w_next ?_
  | with_reducible refine w_ret ?_
  | with_reducible refine w_cons ?_
  | with_reducible refine w_nil ?_
  | with_reducible refine w_ifS ?_
  | with_reducible refine w_test ?_
  | with_reducible refine w_B ?_
  | with_reducible refine w_bl ?_
  | with_reducible refine w_bl1 ?_
  | with_reducible refine w_blR ?_
  | with_reducible refine w_eqI ?_
  | with_reducible refine w_neI ?_
  | with_reducible refine w_eqS ?_
  | with_reducible refine w_neS ?_
  | with_reducible refine w_eqB ?_
  | with_reducible refine w_neB ?_
  | with_reducible refine w_and ?_
  | with_reducible refine w_or ?_
  | with_reducible refine w_not ?_
  | with_reducible refine w_andV ?_
  | with_reducible refine w_orV ?_
  | with_reducible refine w_notV ?_
  | with_reducible refine w_if ?_
  | with_reducible refine w_chain ?_
  | with_reducible refine w_un ?_
  | with_reducible refine w_U ?_
  | ((with_reducible refine' w_I ?rlc ?_); (case rlc => walk_at "rl side"))
  | with_reducible refine w_drop ?_
  | with_reducible refine w_retN ?_
  | with_reducible refine w_par ?_
  | ((with_reducible refine' w_par2 ?_); dsimp only [List.set])
  | ((with_reducible refine' w_aug ?rla ?_); (case rla => exact rfl))
  | with_reducible refine w_ipI ?_
  | with_reducible refine w_break ?_
  | with_reducible refine w_cont ?_
  | ((with_reducible refine' w_bkD ?rle ?_); (case rle => exact rfl))
  | ((with_reducible refine' w_ctD ?rle ?_); (case rle => exact rfl))
  | with_reducible refine w_tup ?_
  | with_reducible refine w_lst ?_
  | ((with_reducible refine' w_newO ?rln ?_); (case rln => exact Nat.le_of_ble_eq_true rfl); intro _ _ _ _ _)
  | ((with_reducible refine' w_new ?rln ?_); (case rln => exact Nat.le_of_ble_eq_true rfl))
  | ((with_reducible refine' w_mk ?_); intro _ _ _ _ _)
  | ((with_reducible refine' w_gTup ?rls ?rll ?_); (case rls => walk_at "rl hp"); (case rll => exact rfl))
  | with_reducible refine w_gCons ?_
  | with_reducible refine w_gNil ?_
  | with_reducible refine w_gSub ?_
  | ((with_reducible refine' w_setL ?rls ?rlj ?_); (case rls => walk_at "rl hp"); (case rlj => exact rfl))
  | ((with_reducible refine' w_ixL ?rls ?rli ?_); (case rls => walk_at "rl hp"); (case rli => exact rfl))
  | ((with_reducible refine' w_ixT ?rls ?rli ?_); (case rls => walk_at "rl hp"); (case rli => exact rfl))
  | with_reducible refine w_call ?_
  | with_reducible refine w_trI ?_
  | with_reducible refine w_yes ?_
  | with_reducible refine w_trB ?_
  | with_reducible refine w_trN ?_
  | with_reducible refine w_cb ?_
  | with_reducible refine w_fld ?_
  | ((with_reducible refine' w_fld1 ?rlo ?rlc ?rln ?rll ?_); (case rlo => walk_at "rl hp"); (case rlc => assumption); (case rln => assumption); (case rll => exact rfl))
  | with_reducible refine w_isiO ?_
  | with_reducible refine w_isiT ?_
  | ((with_reducible refine' w_isi (r := true) ?rlt ?rlk ?_); (case rlt => walk_at "rl ty"); (case rlk => exact rfl))
  | ((with_reducible refine' w_isi (r := false) ?rlt ?rlk ?_); (case rlt => walk_at "rl ty"); (case rlk => exact rfl))
  | ((with_reducible refine' w_isi2 (r := true) ?rlT ?rlt ?rlk ?_); (case rlT => walk_at "rl hp"); (case rlt => walk_at "rl ty"); (case rlk => exact rfl))
  | ((with_reducible refine' w_isi2 (r := false) ?rlT ?rlt ?rlk ?_); (case rlT => walk_at "rl hp"); (case rlt => walk_at "rl ty"); (case rlk => exact rfl))
  | with_reducible refine w_sFld ?_
  | with_reducible refine w_itemsK ?_
  | ((with_reducible refine' w_catT ?rlha ?rlhb ?rln1 ?rln2 ?rlhl ?_); (case rlha => walk_at "rl hp"); (case rlhb => walk_at "rl hp"); (case rln1 => exact (fun z => nomatch z)); (case rln2 => exact (fun z => nomatch z)); (case rlhl => exact Nat.le_trans (Nat.le_of_ble_eq_true rfl) (show 100000 ≤ sizeLine by decide)))
  | ((with_reducible refine' w_newE ?_); intro _ _ _ _ _)
  | with_reducible refine w_makeK ?_
  | ((with_reducible refine' w_sFld1 ?rlc ?rln ?rll ?rle ?_); (case rlc => assumption); (case rln => assumption); (case rll => exact Nat.lt_of_lt_of_le (Nat.lt_succ_self _) (Nat.le_of_ble_eq_true rfl)); (case rle => exact rfl))
  | ((with_reducible refine' w_sFld0 ?rlx ?rlc ?rln ?rll ?rle ?_); (case rlx => walk_at "rl hq"); (case rlc => assumption); (case rln => assumption); (case rll => exact Nat.lt_of_lt_of_le (Nat.lt_succ_self _) (Nat.le_of_ble_eq_true rfl)); (case rle => exact rfl))
  | with_reducible refine w_rflA ?_
  | with_reducible refine w_for ?_
  | with_reducible refine w_iList ?_
  | with_reducible refine w_iTup ?_
  | ((with_reducible refine' w_overL ?rls ?_); (case rls => walk_at "rl hp"))
  | ((with_reducible refine' w_overT ?rls ?_); (case rls => walk_at "rl hp"))
  | with_reducible refine w_rng1 ?_
  | ((with_reducible refine' w_rng1a ?rl1 ?rl2 ?_); (case rl1 => omega); (case rl2 => omega))
  | with_reducible refine w_rng2 ?_
  | ((with_reducible refine' w_rng2a ?rl1 ?_); (case rl1 => omega))
  | with_reducible refine w_zip2 ?_
  | with_reducible refine w_lc ?_
  | with_reducible refine w_enS ?_
  | with_reducible refine w_callSD ?_
  | with_reducible refine w_xf ?_
  | ((with_reducible refine' w_dnew ?_); intro _ _ _ _ _)
  | ((with_reducible refine' w_disp1 ?_); intro _ _ _ _ _)
  | with_reducible refine w_bm ?_
  | ((with_reducible refine' w_tyL ?rls ?_); (case rls => walk_at "rl hp"))
  | ((with_reducible refine' w_append ?rls ?rll ?_); (case rls => walk_at "rl hq"); (case rll => exact Nat.lt_of_lt_of_le (Nat.lt_succ_self _) (Nat.le_of_ble_eq_true rfl)))
  | ((with_reducible refine' w_cat ?rls ?rlt ?rll ?_); (case rls => walk_at "rl hq"); (case rlt => walk_at "rl hq"); (case rll => exact Nat.le_of_ble_eq_true rfl); intro _ _ _ _ _)
  | with_reducible refine w_int1 ?_
  | ((with_reducible refine w_intb ?_); (try dsimp only))
  | with_reducible refine w_one ?_
  | with_reducible refine w_two ?_
  | ((with_reducible refine' w_lenL ?rls ?_); (case rls => walk_at "rl hp"))
  | ((with_reducible refine' w_lenT ?rls ?_); (case rls => walk_at "rl hp"))
  | with_reducible refine w_meth ?_
  | ((with_reducible refine' w_meth1 ?rlo ?rll ?_); (case rlo => walk_at "rl hp"); (case rll => exact rfl)))
local macro_rules | `(tactic| walk_at "rl wp") => `(tactic| (repeat walk_at "rl w1"))
local macro_rules | `(tactic| walk_at "rl but") => `(tactic| first
  | assumption
  | exact But.refl _ _
  | exact But.upd
  | exact But.of_same (by assumption)
  | (refine But.trans ?_ (But.of_same (by assumption)); walk_at "rl but")
  | (refine But.trans ?_ (by assumption : But _ _ _); walk_at "rl but")
  | (refine But.trans ?_ But.upd; walk_at "rl but"))
local macro_rules | `(tactic| walk_at "rl same") => `(tactic| first
  | assumption
  | exact Same.refl _
  | (refine Same.trans ?_ (by assumption : Same _ _); walk_at "rl same"))

local macro_rules | `(tactic| walk_at "rl wi") => `(tactic| (repeat (first
  | walk_at "rl w1"
  | ((with_reducible refine' iteF' ?rlif ?_); (case rlif => exact rfl))
  | ((with_reducible refine' iteT' ?rlif ?_); (case rlif => exact rfl)))))
local macro_rules | `(tactic| walk_at "rl ty") => `(tactic| exact .base (.dK (by assumption)))
local macro_rules | `(tactic| walk_at "rl ty") => `(tactic| exact .base (.lst (by assumption)))
local macro_rules | `(tactic| walk_at "rl ty") => `(tactic| exact .base (.tup (by assumption)))
local macro_rules | `(tactic| walk_at "rl w1") => `(tactic| first
  | with_reducible refine w_par3 ?_
  | ((with_reducible refine' w_par3a ?_); dsimp only [List.set])
  | with_reducible refine w_dget ?_
  | ((with_reducible refine' w_dgetS ?rls ?rlv ?_); (case rls => walk_at "rl hq"); (case rlv => exact rfl))
  | ((with_reducible refine' w_dgetI ?rls ?rlv ?_); (case rls => walk_at "rl hq"); (case rlv => exact rfl))
  | with_reducible refine w_dget2 ?_
  | ((with_reducible refine' w_isD ?rls ?_); (case rls => walk_at "rl hq"))
  | ((with_reducible refine' w_dget2S ?rls ?_); (case rls => walk_at "rl hq"))
  | ((with_reducible refine' w_dget2I ?rls ?_); (case rls => walk_at "rl hq"))
  | ((with_reducible refine' w_setDS ?rls ?rll ?rlm ?_); (case rls => walk_at "rl hq"); (case rll => exact Nat.lt_of_lt_of_le (Nat.lt_succ_self _) (Nat.le_of_ble_eq_true rfl)); (case rlm => exact rfl))
  | ((with_reducible refine' w_tyD ?rls ?_); (case rls => walk_at "rl hq"))
  | with_reducible refine w_jNil ?_
  | with_reducible refine w_jCons ?_
  | with_reducible refine w_prop ?_
  | with_reducible refine w_makeKS ?_
  | with_reducible refine w_pNil ?_
  | with_reducible refine w_pCons ?_
  | ((with_reducible refine' w_dispN ?_); intro _ _ _ _ _))

local macro_rules | `(tactic| walk_at "rl w1") => `(tactic| ((with_reducible refine' w_dispP ?_); intro _ _ _ _ _))
local macro_rules | `(tactic| walk_at "rl w1") => `(tactic| with_reducible refine w_ifT ?_)
local macro_rules | `(tactic| walk_at "rl w1") => `(tactic| ((with_reducible refine' w_dgS ?rls ?rlv ?_); (case rls => walk_at "rl hq"); (case rlv => exact rfl)))

structure LF where
  r : Str
  f : Int
  m : Int
  hi : Int
  us : List Int
def LF.fa (x : LF) (p : Addr) : Fa := ⟨.str x.r, .int 0, .int x.f, .int 1, .int x.m, .int 0, .int x.hi, .int 0, .int 0, .int 0, .int 0, .ref p⟩
def LF.da (x : LF) : List PyData := [.str x.r, .int 0, .int x.f, .int 1, .int x.m, .int 0, .int x.hi, .int 0, .int 0, .int 0, .int 0, .tuple (x.us.map PyData.int)]
structure LF.ok (x : LF) : Prop where
  r : x.r = "input" ∨ x.r = "output"
  f : (x.f = 1 ∧ x.us = [] ∧ (x.hi = 1 ∨ x.hi = 255)) ∨ (x.f = 2 ∧ (x.us.length : Int) = x.m ∧ x.hi = 1)
  m : 0 ≤ x.m ∧ x.m ≤ 255
  u : ∀ u ∈ x.us, 0 ≤ u ∧ u ≤ 4294967295
theorem all_us {us : List Int} (h : ∀ u ∈ us, 0 ≤ u ∧ u ≤ 4294967295) : (us.map PyData.int).all (fun d => inI d 0 4294967295) = true := by
  rw [List.all_eq_true]
  intro d m
  obtain ⟨u, hu, rfl⟩ := List.mem_map.mp m
  rw [inI_int, decide_eq_true (h u hu).1, decide_eq_true (h u hu).2]
  rfl
theorem LF.ok.name {x : LF} (h : x.ok) : badName x.da = none := by
  obtain ⟨r, f, m, hi, us⟩ := x
  obtain ⟨h1, h2, ⟨h3, h4⟩, h5⟩ := h
  simp only at h1 h2 h3 h4 h5
  have hr : roleOk (.str r) = true := by rcases h1 with rfl | rfl <;> decide +kernel
  have hu := all_us h5
  have hn : numBad bnds [.int 0, .int f, .int 1, .int m, .int 0, .int hi, .int 0, .int 0, .int 0, .int 0, .tuple (us.map PyData.int)] = none := by
    have e4 : inI (.int m) 0 255 = true := by rw [inI_int, decide_eq_true h3, decide_eq_true h4]; rfl
    have ef : f = 1 ∨ f = 2 := h2.elim (fun h => .inl h.1) fun h => .inr h.1
    have eh : hi = 1 ∨ hi = 255 := h2.elim (fun h => h.2.2) fun h => .inl h.2.2
    rcases ef with rfl | rfl <;> rcases eh with rfl | rfl <;> (simp only [bnds, numBad]; rw [if_pos (by rfl), if_pos (by rfl), if_pos (by rfl), if_pos e4]; rfl)
  have hd : (LF.da ⟨r, f, m, hi, us⟩).drop 1 = [.int 0, .int f, .int 1, .int m, .int 0, .int hi, .int 0, .int 0, .int 0, .int 0, .tuple (us.map PyData.int)] := rfl
  have hl : us.length ≤ 256 := by rcases h2 with ⟨_, h, _⟩ | ⟨_, h, _⟩; · rw [h]; exact Nat.zero_le _
                                  · omega
  have e : badName (LF.da ⟨r, f, m, hi, us⟩) = if roleOk (.str r) = true then (match numBad bnds ((LF.da ⟨r, f, m, hi, us⟩).drop 1) with | some s => some s | none => usBad f 1 m 0 hi (.tuple (us.map PyData.int))) else some ("role" : Str) := rfl
  rw [e, if_pos hr, hd, hn]
  show (if (decide ((us.map PyData.int).length ≤ 256) && (us.map PyData.int).all fun d => inI d 0 4294967295) = true then lastBad f 1 m 0 hi (us.map PyData.int).length else some ("usages" : Str)) = none
  rw [if_pos (by rw [hu, List.length_map, decide_eq_true hl]; rfl), List.length_map]
  rcases h2 with ⟨rfl, rfl, _⟩ | ⟨rfl, h, rfl⟩
  · rfl
  · have e2 : areUs us.length 2 m (1 - 0 + 1) = decide ((us.length : Int) = m) := rfl
    have e3 : badRange 0 1 1 = none := by decide +kernel
    unfold lastBad
    rw [if_neg (by decide), e3, e2, h, decide_eq_true rfl]
    rfl
def UsT (K : PySem.W.Frag) (H : Hp) (p : Addr) (us : List Int) : Prop := H p = some (.tup (us.map V.int)) ∨ (us = [] ∧ SqT K H p [])
theorem UsT.seq {K : PySem.W.Frag} {H : Hp} {p : Addr} {us : List Int} (h : UsT K H p us) : SqT K H p (us.map V.int) := by
  rcases h with h | ⟨rfl, h⟩
  · exact SqT.of h
  · exact h
theorem dqInts {H : Hp} {B : Addr → Prop} : ∀ us : List Int, DqAll H B (us.map V.int) (us.map PyData.int)
  | [] => .nil
  | u :: us => .cons (.int u) (dqInts us)
theorem LF.v12 {K : PySem.W.Frag} {H : Hp} {p : Addr} (x : LF) (h : UsT K H p x.us) : V12 K H (fun b => H b ≠ none) (x.fa p) x.da := by
  refine ⟨fun i y hi e => ?_, .tuple (x.us.map PyData.int), rfl, ?_⟩
  · match i, hi with
    | 0, _ => cases e; exact ⟨_, rfl, .str _⟩
    | 1, _ => cases e; exact ⟨_, rfl, .int _⟩
    | 2, _ => cases e; exact ⟨_, rfl, .int _⟩
    | 3, _ => cases e; exact ⟨_, rfl, .int _⟩
    | 4, _ => cases e; exact ⟨_, rfl, .int _⟩
    | 5, _ => cases e; exact ⟨_, rfl, .int _⟩
    | 6, _ => cases e; exact ⟨_, rfl, .int _⟩
    | 7, _ => cases e; exact ⟨_, rfl, .int _⟩
    | 8, _ => cases e; exact ⟨_, rfl, .int _⟩
    | 9, _ => cases e; exact ⟨_, rfl, .int _⟩
    | 10, _ => cases e; exact ⟨_, rfl, .int _⟩
  · rcases h with h | ⟨e, h⟩
    · exact .inl (.tup h (by rw [h]; exact fun z => nomatch z) (dqInts _))
    · exact .inr ⟨p, rfl, by rw [e]; rfl, h⟩
def FAt (K : PySem.W.Frag) (H : Hp) (x : V) (l : LF) : Prop := l.ok ∧ ∃ f p, x = .ref f ∧ FldAt K H f (l.fa p) ∧ UsT K H p l.us
theorem UsT.same {K : PySem.W.Frag} {H H' : Hp} {p : Addr} {us : List Int} (s : Same H H') (h : UsT K H p us) : UsT K H' p us := h.elim (fun h => .inl (s _ _ h)) fun h => .inr ⟨h.1, Same.sqT s h.2⟩
theorem FAt.same {K : PySem.W.Frag} {H H' : Hp} {x : V} {l : LF} (s : Same H H') (h : FAt K H x l) : FAt K H' x l := let ⟨o, f, p, e, ⟨dx, a⟩, b⟩ := h; ⟨o, f, p, e, ⟨dx, s _ _ a⟩, b.same s⟩
theorem sqT_but {K : PySem.W.Frag} {H H' : Hp} {p l : Addr} {ys : List V} (b : But l H H') (hl : H l = some (.lst ys)) (h : SqT K H p []) : SqT K H' p [] := by
  rcases h with (h | ⟨o, h⟩) | h
  · exact .inl (.inl (b p _ (fun e => by rw [e, hl] at h; cases h) h))
  · exact .inl (.inr ⟨o, b p _ (fun e => by rw [e, hl] at h; cases h) h⟩)
  · exact .inr h
theorem UsT.but {K : PySem.W.Frag} {H H' : Hp} {p l : Addr} {us : List Int} {ys : List V} (b : But l H H') (hl : H l = some (.lst ys)) (h : UsT K H p us) : UsT K H' p us := by
  rcases h with h | ⟨e, h⟩
  · exact .inl (b _ _ (fun e => by subst e; rw [h] at hl; cases hl) h)
  · exact .inr ⟨e, sqT_but b hl h⟩
theorem FAt.but {K : PySem.W.Frag} {H H' : Hp} {x : V} {l : Addr} {ys : List V} {v : LF} (b : But l H H') (hl : H l = some (.lst ys)) (h : FAt K H x v) : FAt K H' x v := by
  obtain ⟨o, f, p, e, ⟨dx, a⟩, u⟩ := h
  exact ⟨o, f, p, e, ⟨dx, b _ _ (fun e => by subst e; rw [a] at hl; cases hl) a⟩, u.but b hl⟩
def FsAt (K : PySem.W.Frag) (H : Hp) (xs : List V) (ls : List LF) : Prop := Paired (FAt K H) xs ls
theorem FsAt.same {K : PySem.W.Frag} {H H' : Hp} {xs : List V} {ls : List LF} (s : Same H H') (h : FsAt K H xs ls) : FsAt K H' xs ls := Paired.mapP h fun _ _ h => FAt.same s h
theorem FsAt.but {K : PySem.W.Frag} {H H' : Hp} {xs : List V} {ls : List LF} {l : Addr} {ys : List V} (b : But l H H') (hl : H l = some (.lst ys)) (h : FsAt K H xs ls) : FsAt K H' xs ls := Paired.mapP h fun _ _ h => FAt.but b hl h
def cutRun (p : Int → Bool) (x : LF) (run : List Int) : LF := if p (run.headD 0) = true then { x with m := run.length, us := run } else { x with f := 1, m := run.length, us := [] }
def cutVar (p : Int → Bool) (x : LF) : List LF := if x.m = 0 then [x] else (runsOf p x.us).map (cutRun p x)
theorem flat_len {α : Type} : ∀ {L : List (List α)} {r : List α}, r ∈ L → r.length ≤ L.flatten.length ∧ ∀ u ∈ r, u ∈ L.flatten := fun {L r} m => by
  refine ⟨?_, fun u hu => List.mem_flatten.mpr ⟨r, m, hu⟩⟩
  induction L with
  | nil => cases m
  | cons a L ih =>
    rw [List.flatten_cons, List.length_append]
    rcases List.mem_cons.mp m with rfl | m
    · omega
    · have := ih m
      omega
theorem len_flat {α : Type} : ∀ {L : List (List α)}, (∀ r ∈ L, r ≠ []) → L.length ≤ L.flatten.length
  | [], _ => Nat.le_refl _
  | a :: L, h => by
    have h1 := len_flat (L := L) fun r m => h r (List.mem_cons_of_mem _ m)
    have h2 : a.length ≠ 0 := fun e => h a List.mem_cons_self (List.length_eq_zero_iff.mp e)
    rw [List.flatten_cons, List.length_append, List.length_cons]
    omega
theorem LstsAt.few {H : Hp} {as : List Addr} {rs : List (List Int)} (h : LstsAt H as rs) : rs.length ≤ rs.flatten.length := len_flat fun r m => by
  obtain ⟨i, hi⟩ := List.getElem?_of_mem m
  have hl := (List.getElem?_eq_some_iff.mp hi).1
  exact (h.2 i (as[i]'(by rw [h.1]; exact hl)) r (by simp) hi).2.1
theorem runStep_flat {p : Int → Bool} {acc : List (List Int)} {u : Int} : (runStep p acc u).flatten = acc.flatten ++ [u] := by
  by_cases c : acc = []
  · subst c
    rfl
  · obtain ⟨rs, r, rfl⟩ := snoc_of acc c
    rw [runStep_snoc]
    by_cases c2 : p (r.headD 0) = p u
    · rw [if_pos c2]
      simp
    · rw [if_neg c2]
      simp
theorem runs_flat0 {p : Int → Bool} : ∀ (us : List Int) (acc : List (List Int)), (us.foldl (runStep p) acc).flatten = acc.flatten ++ us
  | [], acc => by simp
  | u :: us, acc => by
    rw [List.foldl_cons, runs_flat0 us, runStep_flat]
    simp
theorem runs_flat {p : Int → Bool} {us : List Int} : (runsOf p us).flatten = us := runs_flat0 us []
theorem runs_in {p : Int → Bool} {us r : List Int} (h : r ∈ runsOf p us) : r.length ≤ us.length ∧ ∀ u ∈ r, u ∈ us := by
  have e := flat_len h
  rw [runs_flat] at e
  exact e
theorem cutRun_ok {p : Int → Bool} {x : LF} (h : x.ok) (hf : x.f = 2) {r : List Int} (m : r ∈ runsOf p x.us) : (cutRun p x r).ok := by
  obtain ⟨h1, h2⟩ := runs_in m
  have hl : (x.us.length : Int) = x.m ∧ x.hi = 1 := by
    rcases h.f with ⟨e, _⟩ | ⟨_, e, e2⟩
    · rw [hf] at e; cases e
    · exact ⟨e, e2⟩
  have hm := h.m
  unfold cutRun
  split
  · exact ⟨h.r, .inr ⟨hf, rfl, hl.2⟩, ⟨by simp, by simp only; omega⟩, fun u hu => h.u u (h2 u hu)⟩
  · exact ⟨h.r, .inl ⟨rfl, rfl, .inl hl.2⟩, ⟨by simp, by simp only; omega⟩, fun u hu => by cases hu⟩
theorem fs_next {K : PySem.W.Frag} {H2 H' H4 : Hp} {fo f' : Addr} {xs : List V} {ls : List LF} {l : LF} (b : But fo H2 H') (s : Same H' H4) (hfo : H' fo = some (.lst xs)) (hx : FsAt K H' xs ls) (hn : FAt K H4 (.ref f') l) :
    But fo H2 (L2.upd H4 fo (.lst (xs ++ [.ref f']))) ∧ L2.upd H4 fo (.lst (xs ++ [.ref f'])) fo = some (.lst (xs ++ [.ref f'])) ∧ FsAt K (L2.upd H4 fo (.lst (xs ++ [.ref f']))) (xs ++ [.ref f']) (ls ++ [l]) := by
  have hfo4 := s _ _ hfo
  exact ⟨(b.trans (But.of_same s)).trans But.upd, upd_same, Paired.snoc ((hx.same s).but But.upd hfo4) (hn.but But.upd hfo4)⟩
def spCutVar (K : PySem.W.Frag) : Sp := fun vs H Q _ => ∃ (y : V) (x : LF) (k : Addr) (kvs : List (Key × V)), vs = [y, .ref k] ∧ FAt K H y x ∧ x.f = 2 ∧ H k = some (.dK kvs) ∧
  ∀ l xs H', Same H H' → H' l = some (.lst xs) → FsAt K H' xs (cutVar (keptB kvs) x) → Q (.ref l) H'
end T61
end
section
set_option Elab.async false
set_option linter.all false
set_option maxRecDepth 100000
set_option maxHeartbeats 1000000
namespace T61
open PySem PySem.Spec PyProof.Rows L2 L2.RL
local macro_rules | `(tactic| walk_at "rl ty") => `(tactic| first
  | assumption
  | exact .base (.int _)
  | exact .base (.str _)
  | exact .base .non
  | exact .base (.bl _)
  | exact ty_sqT (by walk_at "rl hp")
  | exact ty_sqL (by walk_at "rl hp")
  | exact .base (.tup (by walk_at "rl hp"))
  | exact .base (.lst (by walk_at "rl hp"))
  | exact .base (.dK (by walk_at "rl hp")))
local macro_rules | `(tactic| walk_at "rl if") => `(tactic| first
  | with_reducible refine iteT' rfl ?_
  | with_reducible refine iteF' rfl ?_
  | (refine iteT' rfl ?_)
  | (refine iteF' rfl ?_))
local macro_rules | `(tactic| walk_at "rl side") => `(tactic| first | assumption | omega | (constructor <;> omega) | decide)
local macro_rules | `(tactic| walk_at "rl ne") => `(tactic| first
  | assumption
  | exact Ne.symm (by assumption)
  | walk_at "rl ne2"
  | exact ne_of (by assumption) (by walk_at "rl hq") (by intro z; cases z)
  | exact (ne_of (by assumption) (by walk_at "rl hq") (by intro z; cases z)).symm)
local macro_rules | `(tactic| walk_at "rl hq") => `(tactic| first
  | assumption
  | exact upd_same
  | (refine' upd_at ?rlne ?rlhq; (case rlne => walk_at "rl ne"); (case rlhq => walk_at "rl hq"))
  | (refine' Same.at ?rlsa ?rlhq; (case rlsa => assumption); (case rlhq => walk_at "rl hq"))
  | (refine' But.at ?rlbu ?rlne ?rlhq; (case rlbu => assumption); (case rlne => walk_at "rl ne"); (case rlhq => walk_at "rl hq")))
local macro_rules | `(tactic| walk_at "rl hp") => `(tactic| first
  | assumption
  | (refine' SqL.of ?rlhq; (case rlhq => walk_at "rl hq"))
  | (refine' SqT.of ?rlhq; (case rlhq => walk_at "rl hq"))
  | (refine' Same.seq ?rlsa ?rlhp; (case rlsa => assumption); (case rlhp => walk_at "rl hp"))
  | (refine' Same.sqT ?rlsa ?rlhp; (case rlsa => assumption); (case rlhp => walk_at "rl hp"))
  | walk_at "rl hp2"
  | walk_at "rl hq")
local macro_rules | `(tactic| walk_at "rl w1") => `(tactic| first
  | with_reducible refine w_seq ?_
  | ((with_reducible refine' w_var ?rlv ?_); (case rlv => exact rfl))
  | with_reducible refine w_c ?_
  | with_reducible refine w_op ?_
  | with_reducible refine w_I0 ?_
  | with_reducible refine w_asg ?_
  | ((with_reducible refine' w_gName ?_); dsimp only [List.set])
  | ((with_reducible refine' w_nxD ?rle ?_); (case rle => exact rfl))
  | ((with_reducible refine' w_rtD ?rle ?_); (case rle => exact rfl))
  | with_reducible refine w_next ?_
  | with_reducible refine w_ret ?_
  | with_reducible refine w_cons ?_
  | with_reducible refine w_nil ?_
  | with_reducible refine w_ifS ?_
  | with_reducible refine w_test ?_
  | with_reducible refine w_B ?_
  | with_reducible refine w_bl ?_
  | with_reducible refine w_bl1 ?_
  | with_reducible refine w_blR ?_
  | with_reducible refine w_eqI ?_
  | with_reducible refine w_neI ?_
  | with_reducible refine w_eqS ?_
  | with_reducible refine w_neS ?_
  | with_reducible refine w_eqB ?_
  | with_reducible refine w_neB ?_
  | with_reducible refine w_and ?_
  | with_reducible refine w_or ?_
  | with_reducible refine w_not ?_
  | with_reducible refine w_andV ?_
  | with_reducible refine w_orV ?_
  | with_reducible refine w_notV ?_
  | with_reducible refine w_if ?_
  | with_reducible refine w_chain ?_
  | with_reducible refine w_un ?_
  | with_reducible refine w_U ?_
  | ((with_reducible refine' w_I ?rlc ?_); (case rlc => walk_at "rl side"))
  | with_reducible refine w_drop ?_
  | with_reducible refine w_retN ?_
  | with_reducible refine w_par ?_
  | ((with_reducible refine' w_par2 ?_); dsimp only [List.set])
  | ((with_reducible refine' w_aug ?rla ?_); (case rla => exact rfl))
  | with_reducible refine w_ipI ?_
  | with_reducible refine w_break ?_
  | with_reducible refine w_cont ?_
  | ((with_reducible refine' w_bkD ?rle ?_); (case rle => exact rfl))
  | ((with_reducible refine' w_ctD ?rle ?_); (case rle => exact rfl))
  | with_reducible refine w_tup ?_
  | with_reducible refine w_lst ?_
  | ((with_reducible refine' w_newO ?rln ?_); (case rln => exact Nat.le_of_ble_eq_true rfl); intro _ _ _ _ _)
  | ((with_reducible refine' w_new ?rln ?_); (case rln => exact Nat.le_of_ble_eq_true rfl))
  | ((with_reducible refine' w_mk ?_); intro _ _ _ _ _)
  | ((with_reducible refine' w_gTup ?rls ?rll ?_); (case rls => walk_at "rl hp"); (case rll => exact rfl))
  | with_reducible refine w_gCons ?_
  | with_reducible refine w_gNil ?_
  | with_reducible refine w_gSub ?_
  | ((with_reducible refine' w_setL ?rls ?rlj ?_); (case rls => walk_at "rl hp"); (case rlj => exact rfl))
  | ((with_reducible refine' w_ixL ?rls ?rli ?_); (case rls => walk_at "rl hp"); (case rli => exact rfl))
  | ((with_reducible refine' w_ixT ?rls ?rli ?_); (case rls => walk_at "rl hp"); (case rli => exact rfl))
  | with_reducible refine w_call ?_
  | with_reducible refine w_trI ?_
  | with_reducible refine w_yes ?_
  | with_reducible refine w_trB ?_
  | with_reducible refine w_trN ?_
  | with_reducible refine w_cb ?_
  | with_reducible refine w_fld ?_
  | ((with_reducible refine' w_fld1 ?rlo ?rlc ?rln ?rll ?_); (case rlo => walk_at "rl hp"); (case rlc => assumption); (case rln => assumption); (case rll => exact rfl))
  | with_reducible refine w_isiO ?_
  | with_reducible refine w_isiT ?_
  | ((with_reducible refine' w_isi (r := true) ?rlt ?rlk ?_); (case rlt => walk_at "rl ty"); (case rlk => exact rfl))
  | ((with_reducible refine' w_isi (r := false) ?rlt ?rlk ?_); (case rlt => walk_at "rl ty"); (case rlk => exact rfl))
  | ((with_reducible refine' w_isi2 (r := true) ?rlT ?rlt ?rlk ?_); (case rlT => walk_at "rl hp"); (case rlt => walk_at "rl ty"); (case rlk => exact rfl))
  | ((with_reducible refine' w_isi2 (r := false) ?rlT ?rlt ?rlk ?_); (case rlT => walk_at "rl hp"); (case rlt => walk_at "rl ty"); (case rlk => exact rfl))
  | with_reducible refine w_sFld ?_
  | with_reducible refine w_itemsK ?_
  | ((with_reducible refine' w_catT ?rlha ?rlhb ?rln1 ?rln2 ?rlhl ?_); (case rlha => walk_at "rl hp"); (case rlhb => walk_at "rl hp"); (case rln1 => exact (fun z => nomatch z)); (case rln2 => exact (fun z => nomatch z)); (case rlhl => exact Nat.le_trans (Nat.le_of_ble_eq_true rfl) (show 100000 ≤ sizeLine by decide)))
  | ((with_reducible refine' w_newE ?_); intro _ _ _ _ _)
  | with_reducible refine w_makeK ?_
  | ((with_reducible refine' w_sFld1 ?rlc ?rln ?rll ?rle ?_); (case rlc => assumption); (case rln => assumption); (case rll => exact Nat.lt_of_lt_of_le (Nat.lt_succ_self _) (Nat.le_of_ble_eq_true rfl)); (case rle => exact rfl))
  | ((with_reducible refine' w_sFld0 ?rlx ?rlc ?rln ?rll ?rle ?_); (case rlx => walk_at "rl hq"); (case rlc => assumption); (case rln => assumption); (case rll => exact Nat.lt_of_lt_of_le (Nat.lt_succ_self _) (Nat.le_of_ble_eq_true rfl)); (case rle => exact rfl))
  | with_reducible refine w_rflA ?_
  | with_reducible refine w_for ?_
  | with_reducible refine w_iList ?_
  | with_reducible refine w_iTup ?_
  | ((with_reducible refine' w_overL ?rls ?_); (case rls => walk_at "rl hp"))
  | ((with_reducible refine' w_overT ?rls ?_); (case rls => walk_at "rl hp"))
  | with_reducible refine w_rng1 ?_
  | ((with_reducible refine' w_rng1a ?rl1 ?rl2 ?_); (case rl1 => omega); (case rl2 => omega))
  | with_reducible refine w_rng2 ?_
  | ((with_reducible refine' w_rng2a ?rl1 ?_); (case rl1 => omega))
  | with_reducible refine w_zip2 ?_
  | with_reducible refine w_lc ?_
  | with_reducible refine w_enS ?_
  | with_reducible refine w_callSD ?_
  | with_reducible refine w_xf ?_
  | ((with_reducible refine' w_dnew ?_); intro _ _ _ _ _)
  | ((with_reducible refine' w_disp1 ?_); intro _ _ _ _ _)
  | with_reducible refine w_bm ?_
  | ((with_reducible refine' w_tyL ?rls ?_); (case rls => walk_at "rl hp"))
  | ((with_reducible refine' w_append ?rls ?rll ?_); (case rls => walk_at "rl hq"); (case rll => exact Nat.lt_of_lt_of_le (Nat.lt_succ_self _) (Nat.le_of_ble_eq_true rfl)))
  | ((with_reducible refine' w_cat ?rls ?rlt ?rll ?_); (case rls => walk_at "rl hq"); (case rlt => walk_at "rl hq"); (case rll => exact Nat.le_of_ble_eq_true rfl); intro _ _ _ _ _)
  | with_reducible refine w_int1 ?_
  | ((with_reducible refine w_intb ?_); (try dsimp only))
  | with_reducible refine w_one ?_
  | with_reducible refine w_two ?_
  | ((with_reducible refine' w_lenL ?rls ?_); (case rls => walk_at "rl hp"))
  | ((with_reducible refine' w_lenT ?rls ?_); (case rls => walk_at "rl hp"))
  | with_reducible refine w_meth ?_
  | ((with_reducible refine' w_meth1 ?rlo ?rll ?_); (case rlo => walk_at "rl hp"); (case rll => exact rfl)))
local macro_rules | `(tactic| walk_at "rl wp") => `(tactic| (repeat walk_at "rl w1"))
local macro_rules | `(tactic| walk_at "rl but") => `(tactic| first
  | assumption
  | exact But.refl _ _
  | exact But.upd
  | exact But.of_same (by assumption)
  | (refine But.trans ?_ (But.of_same (by assumption)); walk_at "rl but")
  | (refine But.trans ?_ (by assumption : But _ _ _); walk_at "rl but")
  | (refine But.trans ?_ But.upd; walk_at "rl but"))
local macro_rules | `(tactic| walk_at "rl same") => `(tactic| first
  | assumption
  | exact Same.refl _
  | (refine Same.trans ?_ (by assumption : Same _ _); walk_at "rl same"))

local macro_rules | `(tactic| walk_at "rl wi") => `(tactic| (repeat (first
  | walk_at "rl w1"
  | ((with_reducible refine' iteF' ?rlif ?_); (case rlif => exact rfl))
  | ((with_reducible refine' iteT' ?rlif ?_); (case rlif => exact rfl)))))
local macro_rules | `(tactic| walk_at "rl ty") => `(tactic| exact .base (.dK (by assumption)))
local macro_rules | `(tactic| walk_at "rl ty") => `(tactic| exact .base (.lst (by assumption)))
local macro_rules | `(tactic| walk_at "rl ty") => `(tactic| exact .base (.tup (by assumption)))
local macro_rules | `(tactic| walk_at "rl w1") => `(tactic| first
  | with_reducible refine w_par3 ?_
  | ((with_reducible refine' w_par3a ?_); dsimp only [List.set])
  | with_reducible refine w_dget ?_
  | ((with_reducible refine' w_dgetS ?rls ?rlv ?_); (case rls => walk_at "rl hq"); (case rlv => exact rfl))
  | ((with_reducible refine' w_dgetI ?rls ?rlv ?_); (case rls => walk_at "rl hq"); (case rlv => exact rfl))
  | with_reducible refine w_dget2 ?_
  | ((with_reducible refine' w_isD ?rls ?_); (case rls => walk_at "rl hq"))
  | ((with_reducible refine' w_dget2S ?rls ?_); (case rls => walk_at "rl hq"))
  | ((with_reducible refine' w_dget2I ?rls ?_); (case rls => walk_at "rl hq"))
  | ((with_reducible refine' w_setDS ?rls ?rll ?rlm ?_); (case rls => walk_at "rl hq"); (case rll => exact Nat.lt_of_lt_of_le (Nat.lt_succ_self _) (Nat.le_of_ble_eq_true rfl)); (case rlm => exact rfl))
  | ((with_reducible refine' w_tyD ?rls ?_); (case rls => walk_at "rl hq"))
  | with_reducible refine w_jNil ?_
  | with_reducible refine w_jCons ?_
  | with_reducible refine w_prop ?_
  | with_reducible refine w_makeKS ?_
  | with_reducible refine w_pNil ?_
  | with_reducible refine w_pCons ?_
  | ((with_reducible refine' w_dispN ?_); intro _ _ _ _ _))

local macro_rules | `(tactic| walk_at "rl w1") => `(tactic| ((with_reducible refine' w_dispP ?_); intro _ _ _ _ _))
local macro_rules | `(tactic| walk_at "rl w1") => `(tactic| with_reducible refine w_ifT ?_)
local macro_rules | `(tactic| walk_at "rl w1") => `(tactic| ((with_reducible refine' w_dgS ?rls ?rlv ?_); (case rls => walk_at "rl hq"); (case rlv => exact rfl)))

local macro_rules | `(tactic| walk_at "rl w1") => `(tactic| first
  | with_reducible refine w_din ?_
  | ((with_reducible refine' w_dinI ?rls ?_); (case rls => walk_at "rl hq"))
  | ((with_reducible refine' w_dinT ?rls ?rlt ?_); (case rls => walk_at "rl hq"); (case rlt => walk_at "rl hq"))
  | with_reducible refine w_callN ?_)
theorem sc_cut_variable : FnScope ["field", "kept", "found", "run"] ["field", "kept"] (defScope (top 72)) := ⟨rfl, rfl, rfl, by decide +kernel, rfl, by decide +kernel, by decide +kernel⟩
theorem ok_cut_variable {P : Program} {w : World} {K : PySem.W.Frag} {mg : Str → Option Value} {base : Heap} (T : TT K mg) (D_runs_of : Ld P w K mg base CX0 1 "runs_of" ["usages", "kept"] [] (spRuns K)) (D_field_like : Ll P w K mg base CX0 6 (spLike K))   : Ld P w K mg base CX0 7 "cut_variable" ["field", "kept"] [] (spCutVar K) := by
  obtain ⟨⟨fd_runs_of, ds_runs_of, F_runs_of, b_runs_of, v_runs_of⟩, g_runs_of, k_runs_of⟩ := D_runs_of
  obtain ⟨⟨fd_field_like, F_field_like, FD_field_like⟩, g_field_like, k_field_like⟩ := D_field_like
  obtain ⟨h1_field_like, l1_field_like⟩ := kl1 T FD_field_like
  obtain ⟨h2_field_like, l2_field_like⟩ := kl2 T FD_field_like
  obtain ⟨h3_field_like, l3_field_like⟩ := kl3 T FD_field_like
  obtain ⟨h4_field_like, l4_field_like⟩ := kl4 T FD_field_like
  obtain ⟨fd, F⟩ := T.d_cut_variable
  refine ⟨⟨fd, [], F.ok sc_cut_variable (fun vs H Q E h => ?_) (fun cdv A outer s H vs Q E hr h => ?_), FunD.bindsN F (fun _ _ _ _ _ _ us hl => match us, hl with | [_, _], _ => rfl), .nil⟩, T.g_cut_variable, F.kp⟩
  · obtain ⟨y, x, k, kvs, rfl, _⟩ := h
    rfl
  · obtain ⟨y, x, k, kvs, rfl, ⟨ok, f, p, rfl, ⟨dx, hf⟩, hu⟩, hfl, hk, q⟩ := h
    obtain ⟨r, fl, m, hi, us⟩ := x
    obtain rfl : fl = 2 := hfl
    have hf' : H f = some (.ins (He.ga K "Field") dx (Fa.at ⟨.str r, .int 0, .int 2, .int 1, .int m, .int 0, .int hi, .int 0, .int 0, .int 0, .int 0, .ref p⟩)) := hf
    have c_F := T.c_Field
    have n_role := T.n_Field_role
    have n_number := T.n_Field_number
    have n_flags := T.n_Field_flags
    have n_size := T.n_Field_size
    have n_amount := T.n_Field_amount
    have n_low := T.n_Field_low
    have n_high := T.n_Field_high
    have n_plow := T.n_Field_plow
    have n_phigh := T.n_Field_phigh
    have n_exponent := T.n_Field_exponent
    have n_unit := T.n_Field_unit
    have n_usages := T.n_Field_usages
    refine ⟨_, PSs.nox ((pss_cons (ps_if (pt_cmpR op_eq (pe_fld (pv 0) rfl) pe_int (nomark _)) (pss_one (ps_ret (pe_lst (pa_cons (pv 0) pa_nil)))) pss_nil) (pss_cons (ps_set (i := 2) sc_cut_variable.nd rfl (by first | exact Or.inl rfl | exact Or.inr rfl) (pe_lst pa_nil)) (pss_cons (ps_for PassesOwn.never rfl (pi_list (pe_call F_runs_of (hr.mono (by decide)) (by rfl) g_runs_of k_runs_of b_runs_of v_runs_of pass0 (pa_cons (pe_fld (pv 0) rfl) (pa_cons (pv 1) pa_nil)))) (pg_name (i := 3) sc_cut_variable.nd rfl (by first | exact Or.inl rfl | exact Or.inr rfl)) (pss_one (ps_if (pt_cmp (pc_din (room_u1 hr) (pe_ix ix_list (pv 3) pe_int (fun _ _ => rfl)) (pv 1)) (by rfl)) (pss_one (ps_expr (pe_bm PySem.F.plainAttrs_list PySem.F.slot_list_append PySem.F.type_list_append mt_append (pv 2) (pa_cons (pe_callN F_field_like hr (by rfl) g_field_like k_field_like l1_field_like pass0 (pa_cons (pv 0) pa_nil) (pk_cons (pe_callB call_len_seq (by rfl) T.m_len PySem.boot_len (pa_cons (pv 3) pa_nil)) (pk_cons (pe_callTy call_tuple_of (by rfl) T.m_tuple (by decide +kernel) (pa_cons (pv 3) pa_nil)) pk_nil))) pa_nil)))) (pss_one (ps_expr (pe_bm PySem.F.plainAttrs_list PySem.F.slot_list_append PySem.F.type_list_append mt_append (pv 2) (pa_cons (pe_callN F_field_like hr (by rfl) g_field_like k_field_like l2_field_like pass0 (pa_cons (pv 0) pa_nil) (pk_cons (pe_glob rfl (T.i_CONSTANT_changes).choose_spec (show RelV (.int (1)) _ from ⟨_, rfl⟩)) (pk_cons (pe_callB call_len_seq (by rfl) T.m_len PySem.boot_len (pa_cons (pv 3) pa_nil)) (pk_cons (pe_tup pa_nil) pk_nil)))) pa_nil))))))) (pss_one (ps_ret (pv 2))))))), ?_⟩; rw [start_4_2]; try dsimp only [cxOf]
    walk_at "rl wp"
    refine ite_dec (fun c => ?_) (fun c => ?_)
    · walk_at "rl wp"
      rename_i l H1 nl s1 hl
      refine q l _ H1 s1 hl ?_
      have e : cutVar (keptB kvs) ⟨r, 2, m, hi, us⟩ = [⟨r, 2, m, hi, us⟩] := if_pos c
      rw [e]
      exact .cons (FAt.same s1 ⟨ok, f, p, rfl, ⟨dx, hf⟩, hu⟩) .nil
    · walk_at "rl wp"
      rename_i fo H1 nfo s1 hfo
      have hm : us.length ≤ 1000 := by
        rcases ok.f with ⟨h, _⟩ | ⟨_, h, _⟩
        · cases h
        · have := ok.m; simp only at h this; omega
      have um := ok.u
      have hk1 := s1 _ _ hk
      refine ⟨p, k, us, kvs, rfl, (hu.same s1).seq, hm, hk1, fun ra as H2 nra s2 hra hla => ?_⟩
      have nrf : ra ≠ fo := fun e => by rw [e, hfo] at nra; cases nra
      have hfo2 := s2 _ _ hfo
      have hk2 := s2 _ _ hk1
      have hf2 : H2 f = some (.ins (He.ga K "Field") dx (Fa.at ⟨.str r, .int 0, .int 2, .int 1, .int m, .int 0, .int hi, .int 0, .int 0, .int 0, .int 0, .ref p⟩)) := s2 _ _ (s1 _ _ hf')
      have nkf : k ≠ fo := ne_of_none hk nfo
      have nff : f ≠ fo := ne_of_none hf nfo
      have naf : ∀ (i : Nat) (a : Addr) (r : List Int), as[i]? = some a → (runsOf (keptB kvs) us)[i]? = some r → a ≠ fo := fun i a r h1 h2 e => by
        obtain ⟨z, z2, _⟩ := hla.2 i a r h1 h2
        rw [e, hfo2] at z
        cases r with
        | nil => exact z2 rfl
        | cons _ _ => cases z
      walk_at "rl wp"
      refine w_forS (fun i σ' H' => But fo H2 H' ∧ ∃ (xs : List V) (y : Option V), σ' = [some (.ref f), some (.ref k), some (.ref fo), y] ∧ H' fo = some (.lst xs) ∧ xs.length = i ∧ FsAt K H' xs (((runsOf (keptB kvs) us).take i).map (cutRun (keptB kvs) ⟨r, 2, m, hi, us⟩))) (fun i σ' H' ⟨b, _⟩ => seqL (SqL.of (b _ _ nrf hra))) ⟨But.refl _ _, [], none, rfl, hfo2, rfl, .nil⟩ ?_ ?_
      · rintro i v σ' H' hv ⟨b, xs, y, rfl, hfo', hxl, hxs⟩
        rw [List.getElem?_map] at hv
        obtain ⟨a, ha, rfl⟩ := Option.map_eq_some_iff.mp hv
        have hia := (List.getElem?_eq_some_iff.mp ha).1
        have hir : i < (runsOf (keptB kvs) us).length := by rw [← hla.1]; exact hia
        obtain ⟨run, hrun⟩ : ∃ run, (runsOf (keptB kvs) us)[i]? = some run := ⟨_, List.getElem?_eq_getElem hir⟩
        have rok := cutRun_ok ok rfl (List.mem_of_getElem? hrun)
        obtain ⟨ha2, hrne, hrl⟩ := hla.2 i a run ha hrun
        have ha' := b _ _ (naf i a run ha hrun) ha2
        have hk' := b _ _ nkf hk2
        have hf3 := b _ _ nff hf2
        have hi1 : xs.length < 100000 := by
          have h1 := hla.few
          rw [runs_flat] at h1
          omega
        have st : ((runsOf (keptB kvs) us).take (i + 1)).map (cutRun (keptB kvs) ⟨r, 2, m, hi, us⟩) = ((runsOf (keptB kvs) us).take i).map (cutRun (keptB kvs) ⟨r, 2, m, hi, us⟩) ++ [cutRun (keptB kvs) ⟨r, 2, m, hi, us⟩ run] := by
          rw [List.take_succ, hrun, List.map_append]
          rfl
        rw [st]
        clear hra hla naf hfo2 hk2 hf2 hfo hf hf' hk hk1 st ha2
        cases run with
        | nil => exact absurd rfl hrne
        | cons r0 run =>
        walk_at "rl wp"
        refine w_ixL (SqL.of ha') atI_zero ?_
        walk_at "rl wp"
        by_cases c2 : keptB kvs r0 = true
        · have ec : cutRun (keptB kvs) ⟨r, 2, m, hi, us⟩ (r0 :: run) = ⟨r, 2, (r0 :: run).length, hi, r0 :: run⟩ := if_pos c2
          rw [ec] at rok ⊢
          refine iteT' c2 ?_
          walk_at "rl wp"
          refine ⟨a, _, rfl, .inl ⟨SqL.of ha', fun t nt => ?_⟩⟩
          obtain ⟨H3, e3⟩ : ∃ H3, H3 = L2.upd H' t (.tup ((r0 :: run).map V.int)) := ⟨_, rfl⟩
          have s3 : Same H' H3 := by rw [e3]; exact same_upd nt
          have ht3 : H3 t = some (.tup ((r0 :: run).map V.int)) := by rw [e3]; exact upd_same
          rw [← e3]
          try dsimp only
          clear e3
          walk_at "rl wp"
          refine ⟨rfl, rfl, f, LF.fa ⟨r, 2, m, hi, us⟩ p, .non, .int (r0 :: run).length, .ref t, LF.da ⟨r, 2, (r0 :: run).length, hi, r0 :: run⟩, by rw [List.length_map]; rfl, ⟨dx, s3 _ _ hf3⟩, .inl rfl, .inr ⟨_, rfl⟩, ⟨_, rfl⟩, LF.v12 (p := t) ⟨r, 2, (r0 :: run).length, hi, r0 :: run⟩ (.inl ht3), rok.name, fun f' H4 s4 ff => ?_⟩
          obtain ⟨z1, z2, z3⟩ := fs_next b (s3.trans s4) hfo' hxs ⟨rok, f', t, rfl, ff, .inl (s4 _ _ ht3)⟩
          walk_at "rl wp"
          refine w_append (s4 _ _ (s3 _ _ hfo')) hi1 ?_
          walk_at "rl wp"
          exact ⟨z1, _, _, rfl, z2, by rw [List.length_append, hxl]; rfl, z3⟩
        · have ec : cutRun (keptB kvs) ⟨r, 2, m, hi, us⟩ (r0 :: run) = ⟨r, 1, (r0 :: run).length, hi, []⟩ := if_neg c2
          rw [ec] at rok ⊢
          refine iteF' (Bool.eq_false_iff.mpr c2) ?_
          walk_at "rl wp"
          rename_i t H3 nt s3 ht3
          refine ⟨rfl, rfl, f, LF.fa ⟨r, 2, m, hi, us⟩ p, .int 1, .int (r0 :: run).length, .ref t, LF.da ⟨r, 1, (r0 :: run).length, hi, []⟩, by rw [List.length_map]; rfl, ⟨dx, s3 _ _ hf3⟩, .inr ⟨_, rfl⟩, .inr ⟨_, rfl⟩, ⟨_, rfl⟩, LF.v12 (p := t) ⟨r, 1, (r0 :: run).length, hi, []⟩ (.inl ht3), rok.name, fun f' H4 s4 ff => ?_⟩
          obtain ⟨z1, z2, z3⟩ := fs_next b (s3.trans s4) hfo' hxs ⟨rok, f', t, rfl, ff, .inl (s4 _ _ ht3)⟩
          walk_at "rl wp"
          refine w_append (s4 _ _ (s3 _ _ hfo')) hi1 ?_
          walk_at "rl wp"
          exact ⟨z1, _, _, rfl, z2, by rw [List.length_append, hxl]; rfl, z3⟩
      rintro σ' H' ⟨b, xs, y, rfl, hfo', hxl, hxs⟩
      walk_at "rl wp"
      have e : cutVar (keptB kvs) ⟨r, 2, m, hi, us⟩ = (runsOf (keptB kvs) us).map (cutRun (keptB kvs) ⟨r, 2, m, hi, us⟩) := if_neg c
      refine q fo xs H' (same_but (s1.trans s2) nfo b) hfo' ?_
      rw [e]
      rw [List.length_map, hla.1, List.take_length] at hxs
      exact hxs
end T61
end
section
set_option Elab.async false
set_option linter.all false
set_option maxRecDepth 100000
set_option maxHeartbeats 1000000
namespace T61
open PySem PySem.Spec PyProof.Rows L2 L2.RL
local macro_rules | `(tactic| walk_at "rl ty") => `(tactic| first
  | assumption
  | exact .base (.int _)
  | exact .base (.str _)
  | exact .base .non
  | exact .base (.bl _)
  | exact ty_sqT (by walk_at "rl hp")
  | exact ty_sqL (by walk_at "rl hp")
  | exact .base (.tup (by walk_at "rl hp"))
  | exact .base (.lst (by walk_at "rl hp"))
  | exact .base (.dK (by walk_at "rl hp")))
local macro_rules | `(tactic| walk_at "rl if") => `(tactic| first
  | with_reducible refine iteT' rfl ?_
  | with_reducible refine iteF' rfl ?_
  | (refine iteT' rfl ?_)
  | (refine iteF' rfl ?_))
local macro_rules | `(tactic| walk_at "rl side") => `(tactic| first | assumption | omega | (constructor <;> omega) | decide)
local macro_rules | `(tactic| walk_at "rl ne") => `(tactic| first
  | assumption
  | exact Ne.symm (by assumption)
  | walk_at "rl ne2"
  | exact ne_of (by assumption) (by walk_at "rl hq") (by intro z; cases z)
  | exact (ne_of (by assumption) (by walk_at "rl hq") (by intro z; cases z)).symm)
local macro_rules | `(tactic| walk_at "rl hq") => `(tactic| first
  | assumption
  | exact upd_same
  | (refine' upd_at ?rlne ?rlhq; (case rlne => walk_at "rl ne"); (case rlhq => walk_at "rl hq"))
  | (refine' Same.at ?rlsa ?rlhq; (case rlsa => assumption); (case rlhq => walk_at "rl hq"))
  | (refine' But.at ?rlbu ?rlne ?rlhq; (case rlbu => assumption); (case rlne => walk_at "rl ne"); (case rlhq => walk_at "rl hq")))
local macro_rules | `(tactic| walk_at "rl hp") => `(tactic| first
  | assumption
  | (refine' SqL.of ?rlhq; (case rlhq => walk_at "rl hq"))
  | (refine' SqT.of ?rlhq; (case rlhq => walk_at "rl hq"))
  | (refine' Same.seq ?rlsa ?rlhp; (case rlsa => assumption); (case rlhp => walk_at "rl hp"))
  | (refine' Same.sqT ?rlsa ?rlhp; (case rlsa => assumption); (case rlhp => walk_at "rl hp"))
  | walk_at "rl hp2"
  | walk_at "rl hq")
local macro_rules | `(tactic| walk_at "rl w1") => `(tactic| first
  | with_reducible refine w_seq ?_
  | ((with_reducible refine' w_var ?rlv ?_); (case rlv => exact rfl))
  | with_reducible refine w_c ?_
  | with_reducible refine w_op ?_
  | with_reducible refine w_I0 ?_
  | with_reducible refine w_asg ?_
  | ((with_reducible refine' w_gName ?_); dsimp only [List.set])
  | ((with_reducible refine' w_nxD ?rle ?_); (case rle => exact rfl))
  | ((with_reducible refine' w_rtD ?rle ?_); (case rle => exact rfl))
  | with_reducible refine w_next ?_
  | with_reducible refine w_ret ?_
  | with_reducible refine w_cons ?_
  | with_reducible refine w_nil ?_
  | with_reducible refine w_ifS ?_
  | with_reducible refine w_test ?_
  | with_reducible refine w_B ?_
  | with_reducible refine w_bl ?_
  | with_reducible refine w_bl1 ?_
  | with_reducible refine w_blR ?_
  | with_reducible refine w_eqI ?_
  | with_reducible refine w_neI ?_
  | with_reducible refine w_eqS ?_
  | with_reducible refine w_neS ?_
  | with_reducible refine w_eqB ?_
  | with_reducible refine w_neB ?_
  | with_reducible refine w_and ?_
  | with_reducible refine w_or ?_
  | with_reducible refine w_not ?_
  | with_reducible refine w_andV ?_
  | with_reducible refine w_orV ?_
  | with_reducible refine w_notV ?_
  | with_reducible refine w_if ?_
  | with_reducible refine w_chain ?_
  | with_reducible refine w_un ?_
  | with_reducible refine w_U ?_
  | ((with_reducible refine' w_I ?rlc ?_); (case rlc => walk_at "rl side"))
  | with_reducible refine w_drop ?_
  | with_reducible refine w_retN ?_
  | with_reducible refine w_par ?_
  | ((with_reducible refine' w_par2 ?_); dsimp only [List.set])
  | ((with_reducible refine' w_aug ?rla ?_); (case rla => exact rfl))
  | with_reducible refine w_ipI ?_
  | with_reducible refine w_break ?_
  | with_reducible refine w_cont ?_
  | ((with_reducible refine' w_bkD ?rle ?_); (case rle => exact rfl))
  | ((with_reducible refine' w_ctD ?rle ?_); (case rle => exact rfl))
  | with_reducible refine w_tup ?_
  | with_reducible refine w_lst ?_
  | ((with_reducible refine' w_newO ?rln ?_); (case rln => exact Nat.le_of_ble_eq_true rfl); intro _ _ _ _ _)
  | ((with_reducible refine' w_new ?rln ?_); (case rln => exact Nat.le_of_ble_eq_true rfl))
  | ((with_reducible refine' w_mk ?_); intro _ _ _ _ _)
  | ((with_reducible refine' w_gTup ?rls ?rll ?_); (case rls => walk_at "rl hp"); (case rll => exact rfl))
  | with_reducible refine w_gCons ?_
  | with_reducible refine w_gNil ?_
  | with_reducible refine w_gSub ?_
  | ((with_reducible refine' w_setL ?rls ?rlj ?_); (case rls => walk_at "rl hp"); (case rlj => exact rfl))
  | ((with_reducible refine' w_ixL ?rls ?rli ?_); (case rls => walk_at "rl hp"); (case rli => exact rfl))
  | ((with_reducible refine' w_ixT ?rls ?rli ?_); (case rls => walk_at "rl hp"); (case rli => exact rfl))
  | with_reducible refine w_call ?_
  | with_reducible refine w_trI ?_
  | with_reducible refine w_yes ?_
  | with_reducible refine w_trB ?_
  | with_reducible refine w_trN ?_
  | with_reducible refine w_cb ?_
  | with_reducible refine w_fld ?_
  | ((with_reducible refine' w_fld1 ?rlo ?rlc ?rln ?rll ?_); (case rlo => walk_at "rl hp"); (case rlc => assumption); (case rln => assumption); (case rll => exact rfl))
  | with_reducible refine w_isiO ?_
  | with_reducible refine w_isiT ?_
  | ((with_reducible refine' w_isi (r := true) ?rlt ?rlk ?_); (case rlt => walk_at "rl ty"); (case rlk => exact rfl))
  | ((with_reducible refine' w_isi (r := false) ?rlt ?rlk ?_); (case rlt => walk_at "rl ty"); (case rlk => exact rfl))
  | ((with_reducible refine' w_isi2 (r := true) ?rlT ?rlt ?rlk ?_); (case rlT => walk_at "rl hp"); (case rlt => walk_at "rl ty"); (case rlk => exact rfl))
  | ((with_reducible refine' w_isi2 (r := false) ?rlT ?rlt ?rlk ?_); (case rlT => walk_at "rl hp"); (case rlt => walk_at "rl ty"); (case rlk => exact rfl))
  | with_reducible refine w_sFld ?_
  | with_reducible refine w_itemsK ?_
  | ((with_reducible refine' w_catT ?rlha ?rlhb ?rln1 ?rln2 ?rlhl ?_); (case rlha => walk_at "rl hp"); (case rlhb => walk_at "rl hp"); (case rln1 => exact (fun z => nomatch z)); (case rln2 => exact (fun z => nomatch z)); (case rlhl => exact Nat.le_trans (Nat.le_of_ble_eq_true rfl) (show 100000 ≤ sizeLine by decide)))
  | ((with_reducible refine' w_newE ?_); intro _ _ _ _ _)
  | with_reducible refine w_makeK ?_
  | ((with_reducible refine' w_sFld1 ?rlc ?rln ?rll ?rle ?_); (case rlc => assumption); (case rln => assumption); (case rll => exact Nat.lt_of_lt_of_le (Nat.lt_succ_self _) (Nat.le_of_ble_eq_true rfl)); (case rle => exact rfl))
  | ((with_reducible refine' w_sFld0 ?rlx ?rlc ?rln ?rll ?rle ?_); (case rlx => walk_at "rl hq"); (case rlc => assumption); (case rln => assumption); (case rll => exact Nat.lt_of_lt_of_le (Nat.lt_succ_self _) (Nat.le_of_ble_eq_true rfl)); (case rle => exact rfl))
  | with_reducible refine w_rflA ?_
  | with_reducible refine w_for ?_
  | with_reducible refine w_iList ?_
  | with_reducible refine w_iTup ?_
  | ((with_reducible refine' w_overL ?rls ?_); (case rls => walk_at "rl hp"))
  | ((with_reducible refine' w_overT ?rls ?_); (case rls => walk_at "rl hp"))
  | with_reducible refine w_rng1 ?_
  | ((with_reducible refine' w_rng1a ?rl1 ?rl2 ?_); (case rl1 => omega); (case rl2 => omega))
  | with_reducible refine w_rng2 ?_
  | ((with_reducible refine' w_rng2a ?rl1 ?_); (case rl1 => omega))
  | with_reducible refine w_zip2 ?_
  | with_reducible refine w_lc ?_
  | with_reducible refine w_enS ?_
  | with_reducible refine w_callSD ?_
  | with_reducible refine w_xf ?_
  | ((with_reducible refine' w_dnew ?_); intro _ _ _ _ _)
  | ((with_reducible refine' w_disp1 ?_); intro _ _ _ _ _)
  | with_reducible refine w_bm ?_
  | ((with_reducible refine' w_tyL ?rls ?_); (case rls => walk_at "rl hp"))
  | ((with_reducible refine' w_append ?rls ?rll ?_); (case rls => walk_at "rl hq"); (case rll => exact Nat.lt_of_lt_of_le (Nat.lt_succ_self _) (Nat.le_of_ble_eq_true rfl)))
  | ((with_reducible refine' w_cat ?rls ?rlt ?rll ?_); (case rls => walk_at "rl hq"); (case rlt => walk_at "rl hq"); (case rll => exact Nat.le_of_ble_eq_true rfl); intro _ _ _ _ _)
  | with_reducible refine w_int1 ?_
  | ((with_reducible refine w_intb ?_); (try dsimp only))
  | with_reducible refine w_one ?_
  | with_reducible refine w_two ?_
  | ((with_reducible refine' w_lenL ?rls ?_); (case rls => walk_at "rl hp"))
  | ((with_reducible refine' w_lenT ?rls ?_); (case rls => walk_at "rl hp"))
  | with_reducible refine w_meth ?_
  | ((with_reducible refine' w_meth1 ?rlo ?rll ?_); (case rlo => walk_at "rl hp"); (case rll => exact rfl)))
local macro_rules | `(tactic| walk_at "rl wp") => `(tactic| (repeat walk_at "rl w1"))
local macro_rules | `(tactic| walk_at "rl but") => `(tactic| first
  | assumption
  | exact But.refl _ _
  | exact But.upd
  | exact But.of_same (by assumption)
  | (refine But.trans ?_ (But.of_same (by assumption)); walk_at "rl but")
  | (refine But.trans ?_ (by assumption : But _ _ _); walk_at "rl but")
  | (refine But.trans ?_ But.upd; walk_at "rl but"))
local macro_rules | `(tactic| walk_at "rl same") => `(tactic| first
  | assumption
  | exact Same.refl _
  | (refine Same.trans ?_ (by assumption : Same _ _); walk_at "rl same"))

local macro_rules | `(tactic| walk_at "rl wi") => `(tactic| (repeat (first
  | walk_at "rl w1"
  | ((with_reducible refine' iteF' ?rlif ?_); (case rlif => exact rfl))
  | ((with_reducible refine' iteT' ?rlif ?_); (case rlif => exact rfl)))))
local macro_rules | `(tactic| walk_at "rl ty") => `(tactic| exact .base (.dK (by assumption)))
local macro_rules | `(tactic| walk_at "rl ty") => `(tactic| exact .base (.lst (by assumption)))
local macro_rules | `(tactic| walk_at "rl ty") => `(tactic| exact .base (.tup (by assumption)))
local macro_rules | `(tactic| walk_at "rl w1") => `(tactic| first
  | with_reducible refine w_par3 ?_
  | ((with_reducible refine' w_par3a ?_); dsimp only [List.set])
  | with_reducible refine w_dget ?_
  | ((with_reducible refine' w_dgetS ?rls ?rlv ?_); (case rls => walk_at "rl hq"); (case rlv => exact rfl))
  | ((with_reducible refine' w_dgetI ?rls ?rlv ?_); (case rls => walk_at "rl hq"); (case rlv => exact rfl))
  | with_reducible refine w_dget2 ?_
  | ((with_reducible refine' w_isD ?rls ?_); (case rls => walk_at "rl hq"))
  | ((with_reducible refine' w_dget2S ?rls ?_); (case rls => walk_at "rl hq"))
  | ((with_reducible refine' w_dget2I ?rls ?_); (case rls => walk_at "rl hq"))
  | ((with_reducible refine' w_setDS ?rls ?rll ?rlm ?_); (case rls => walk_at "rl hq"); (case rll => exact Nat.lt_of_lt_of_le (Nat.lt_succ_self _) (Nat.le_of_ble_eq_true rfl)); (case rlm => exact rfl))
  | ((with_reducible refine' w_tyD ?rls ?_); (case rls => walk_at "rl hq"))
  | with_reducible refine w_jNil ?_
  | with_reducible refine w_jCons ?_
  | with_reducible refine w_prop ?_
  | with_reducible refine w_makeKS ?_
  | with_reducible refine w_pNil ?_
  | with_reducible refine w_pCons ?_
  | ((with_reducible refine' w_dispN ?_); intro _ _ _ _ _))

local macro_rules | `(tactic| walk_at "rl w1") => `(tactic| ((with_reducible refine' w_dispP ?_); intro _ _ _ _ _))
local macro_rules | `(tactic| walk_at "rl w1") => `(tactic| with_reducible refine w_ifT ?_)
local macro_rules | `(tactic| walk_at "rl w1") => `(tactic| ((with_reducible refine' w_dgS ?rls ?rlv ?_); (case rls => walk_at "rl hq"); (case rlv => exact rfl)))

local macro_rules | `(tactic| walk_at "rl w1") => `(tactic| first
  | with_reducible refine w_din ?_
  | ((with_reducible refine' w_dinI ?rls ?_); (case rls => walk_at "rl hq"))
  | ((with_reducible refine' w_dinT ?rls ?rlt ?_); (case rls => walk_at "rl hq"); (case rlt => walk_at "rl hq"))
  | with_reducible refine w_callN ?_)

def cutF (p : Int → Bool) (x : LF) : List LF := if x.f = 1 then [x] else cutVar p x
def spCutField (K : PySem.W.Frag) : Sp := fun vs H Q _ => ∃ (y : V) (x : LF) (k : Addr) (kvs : List (Key × V)), vs = [y, .ref k] ∧ FAt K H y x ∧ H k = some (.dK kvs) ∧
  ∀ l xs H', Same H H' → H' l = some (.lst xs) → FsAt K H' xs (cutF (keptB kvs) x) → Q (.ref l) H'
theorem sc_cut_field : FnScope ["field", "kept", "usage"] ["field", "kept"] (defScope (top 73)) := ⟨rfl, rfl, rfl, by decide +kernel, rfl, by decide +kernel, by decide +kernel⟩
theorem ok_cut_field {P : Program} {w : World} {K : PySem.W.Frag} {mg : Str → Option Value} {base : Heap} (T : TT K mg) (D_Field_style : Lq P w K mg base CX0 1 "Field" "style" ["self"] [] (spStyle K)) (D_cut_variable : Ld P w K mg base CX0 7 "cut_variable" ["field", "kept"] [] (spCutVar K))   : Ld P w K mg base CX0 8 "cut_field" ["field", "kept"] [] (spCutField K) := by
  obtain ⟨⟨fd_Field_style, ds_Field_style, F_Field_style, b_Field_style, v_Field_style⟩⟩ := D_Field_style
  obtain ⟨⟨fd_cut_variable, ds_cut_variable, F_cut_variable, b_cut_variable, v_cut_variable⟩, g_cut_variable, k_cut_variable⟩ := D_cut_variable
  obtain ⟨fd, F⟩ := T.d_cut_field
  refine ⟨⟨fd, [], F.ok sc_cut_field (fun vs H Q E h => ?_) (fun cdv A outer s H vs Q E hr h => ?_), FunD.bindsN F (fun _ _ _ _ _ _ us hl => match us, hl with | [_, _], _ => rfl), .nil⟩, T.g_cut_field, F.kp⟩
  · obtain ⟨y, x, k, kvs, rfl, _⟩ := h
    rfl
  · obtain ⟨y, x, k, kvs, rfl, hx, hk, q⟩ := h
    have hx0 := hx
    obtain ⟨ok, f, p, rfl, ⟨dx, hf⟩, hu⟩ := hx
    refine ⟨_, PSs.nox ((pss_cons (ps_if (pt_cmpR op_eq (pe_prop (pv 0) T.c_Field T.pp_Field_style F_Field_style (hr.mono (by decide)) b_Field_style v_Field_style pass0 (by rfl)) pe_str (nomark _)) (pss_one (ps_ret (pe_lst (pa_cons (pv 0) pa_nil)))) pss_nil) (pss_cons (ps_if (pt_cmpR op_eq (pe_prop (pv 0) T.c_Field T.pp_Field_style F_Field_style (hr.mono (by decide)) b_Field_style v_Field_style pass0 (by rfl)) pe_str (nomark _)) (pss_one (ps_ret (pe_call F_cut_variable hr (by rfl) g_cut_variable k_cut_variable b_cut_variable v_cut_variable pass0 (pa_cons (pv 0) (pa_cons (pv 1) pa_nil))))) pss_nil) (pss_cons ps_never (pss_one ps_never))))), ?_⟩; rw [start_3_2]; try dsimp only [cxOf]
    rcases ok.f with ⟨e, _⟩ | ⟨e, _⟩
    · walk_at "rl wp"
      refine ⟨f, dx, _, rfl, hf, f, _, x.f, rfl, ⟨dx, hf⟩, rfl, ?_⟩
      rw [e, show styleOf 1 = "constant" from by decide +kernel]
      walk_at "rl wi"
      rename_i l H1 nl s1 hl
      refine q l _ H1 s1 hl ?_
      rw [show cutF (keptB kvs) x = [x] from if_pos e]
      exact .cons (hx0.same s1) .nil
    · walk_at "rl wp"
      refine ⟨f, dx, _, rfl, hf, f, _, x.f, rfl, ⟨dx, hf⟩, rfl, ?_⟩
      rw [e, show styleOf 2 = "variable" from by decide +kernel]
      walk_at "rl wi"
      refine ⟨f, dx, _, rfl, hf, f, _, x.f, rfl, ⟨dx, hf⟩, rfl, ?_⟩
      rw [e, show styleOf 2 = "variable" from by decide +kernel]
      walk_at "rl wi"
      refine ⟨_, x, k, kvs, rfl, hx0, e, hk, fun l xs H' s hl hxs => ?_⟩
      walk_at "rl wp"
      exact q l xs H' s hl (by rw [show cutF (keptB kvs) x = cutVar (keptB kvs) x from if_neg (by rw [e]; decide)]; exact hxs)
end T61
end
section
set_option Elab.async false
set_option linter.all false
set_option maxRecDepth 100000
set_option maxHeartbeats 1000000
namespace T61
open PySem PySem.Spec PyProof.Rows L2 L2.RL
local macro_rules | `(tactic| walk_at "rl ty") => `(tactic| first
  | assumption
  | exact .base (.int _)
  | exact .base (.str _)
  | exact .base .non
  | exact .base (.bl _)
  | exact ty_sqT (by walk_at "rl hp")
  | exact ty_sqL (by walk_at "rl hp")
  | exact .base (.tup (by walk_at "rl hp"))
  | exact .base (.lst (by walk_at "rl hp"))
  | exact .base (.dK (by walk_at "rl hp")))
local macro_rules | `(tactic| walk_at "rl if") => `(tactic| first
  | with_reducible refine iteT' rfl ?_
  | with_reducible refine iteF' rfl ?_
  | (refine iteT' rfl ?_)
  | (refine iteF' rfl ?_))
local macro_rules | `(tactic| walk_at "rl side") => `(tactic| first | assumption | omega | (constructor <;> omega) | decide)
local macro_rules | `(tactic| walk_at "rl ne") => `(tactic| first
  | assumption
  | exact Ne.symm (by assumption)
  | walk_at "rl ne2"
  | exact ne_of (by assumption) (by walk_at "rl hq") (by intro z; cases z)
  | exact (ne_of (by assumption) (by walk_at "rl hq") (by intro z; cases z)).symm)
local macro_rules | `(tactic| walk_at "rl hq") => `(tactic| first
  | assumption
  | exact upd_same
  | (refine' upd_at ?rlne ?rlhq; (case rlne => walk_at "rl ne"); (case rlhq => walk_at "rl hq"))
  | (refine' Same.at ?rlsa ?rlhq; (case rlsa => assumption); (case rlhq => walk_at "rl hq"))
  | (refine' But.at ?rlbu ?rlne ?rlhq; (case rlbu => assumption); (case rlne => walk_at "rl ne"); (case rlhq => walk_at "rl hq")))
local macro_rules | `(tactic| walk_at "rl hp") => `(tactic| first
  | assumption
  | (refine' SqL.of ?rlhq; (case rlhq => walk_at "rl hq"))
  | (refine' SqT.of ?rlhq; (case rlhq => walk_at "rl hq"))
  | (refine' Same.seq ?rlsa ?rlhp; (case rlsa => assumption); (case rlhp => walk_at "rl hp"))
  | (refine' Same.sqT ?rlsa ?rlhp; (case rlsa => assumption); (case rlhp => walk_at "rl hp"))
  | walk_at "rl hp2"
  | walk_at "rl hq")
local macro_rules | `(tactic| walk_at "rl w1") => `(tactic| first
  | with_reducible refine w_seq ?_
  | ((with_reducible refine' w_var ?rlv ?_); (case rlv => exact rfl))
  | with_reducible refine w_c ?_
  | with_reducible refine w_op ?_
  | with_reducible refine w_I0 ?_
  | with_reducible refine w_asg ?_
  | ((with_reducible refine' w_gName ?_); dsimp only [List.set])
  | ((with_reducible refine' w_nxD ?rle ?_); (case rle => exact rfl))
  | ((with_reducible refine' w_rtD ?rle ?_); (case rle => exact rfl))
  | with_reducible refine w_next ?_
  | with_reducible refine w_ret ?_
  | with_reducible refine w_cons ?_
  | with_reducible refine w_nil ?_
  | with_reducible refine w_ifS ?_
  | with_reducible refine w_test ?_
  | with_reducible refine w_B ?_
  | with_reducible refine w_bl ?_
  | with_reducible refine w_bl1 ?_
  | with_reducible refine w_blR ?_
  | with_reducible refine w_eqI ?_
  | with_reducible refine w_neI ?_
  | with_reducible refine w_eqS ?_
  | with_reducible refine w_neS ?_
  | with_reducible refine w_eqB ?_
  | with_reducible refine w_neB ?_
  | with_reducible refine w_and ?_
  | with_reducible refine w_or ?_
  | with_reducible refine w_not ?_
  | with_reducible refine w_andV ?_
  | with_reducible refine w_orV ?_
  | with_reducible refine w_notV ?_
  | with_reducible refine w_if ?_
  | with_reducible refine w_chain ?_
  | with_reducible refine w_un ?_
  | with_reducible refine w_U ?_
  | ((with_reducible refine' w_I ?rlc ?_); (case rlc => walk_at "rl side"))
  | with_reducible refine w_drop ?_
  | with_reducible refine w_retN ?_
  | with_reducible refine w_par ?_
  | ((with_reducible refine' w_par2 ?_); dsimp only [List.set])
  | ((with_reducible refine' w_aug ?rla ?_); (case rla => exact rfl))
  | with_reducible refine w_ipI ?_
  | with_reducible refine w_break ?_
  | with_reducible refine w_cont ?_
  | ((with_reducible refine' w_bkD ?rle ?_); (case rle => exact rfl))
  | ((with_reducible refine' w_ctD ?rle ?_); (case rle => exact rfl))
  | with_reducible refine w_tup ?_
  | with_reducible refine w_lst ?_
  | ((with_reducible refine' w_newO ?rln ?_); (case rln => exact Nat.le_of_ble_eq_true rfl); intro _ _ _ _ _)
  | ((with_reducible refine' w_new ?rln ?_); (case rln => exact Nat.le_of_ble_eq_true rfl))
  | ((with_reducible refine' w_mk ?_); intro _ _ _ _ _)
  | ((with_reducible refine' w_gTup ?rls ?rll ?_); (case rls => walk_at "rl hp"); (case rll => exact rfl))
  | with_reducible refine w_gCons ?_
  | with_reducible refine w_gNil ?_
  | with_reducible refine w_gSub ?_
  | ((with_reducible refine' w_setL ?rls ?rlj ?_); (case rls => walk_at "rl hp"); (case rlj => exact rfl))
  | ((with_reducible refine' w_ixL ?rls ?rli ?_); (case rls => walk_at "rl hp"); (case rli => exact rfl))
  | ((with_reducible refine' w_ixT ?rls ?rli ?_); (case rls => walk_at "rl hp"); (case rli => exact rfl))
  | with_reducible refine w_call ?_
  | with_reducible refine w_trI ?_
  | with_reducible refine w_yes ?_
  | with_reducible refine w_trB ?_
  | with_reducible refine w_trN ?_
  | with_reducible refine w_cb ?_
  | with_reducible refine w_fld ?_
  | ((with_reducible refine' w_fld1 ?rlo ?rlc ?rln ?rll ?_); (case rlo => walk_at "rl hp"); (case rlc => assumption); (case rln => assumption); (case rll => exact rfl))
  | with_reducible refine w_isiO ?_
  | with_reducible refine w_isiT ?_
  | ((with_reducible refine' w_isi (r := true) ?rlt ?rlk ?_); (case rlt => walk_at "rl ty"); (case rlk => exact rfl))
  | ((with_reducible refine' w_isi (r := false) ?rlt ?rlk ?_); (case rlt => walk_at "rl ty"); (case rlk => exact rfl))
  | ((with_reducible refine' w_isi2 (r := true) ?rlT ?rlt ?rlk ?_); (case rlT => walk_at "rl hp"); (case rlt => walk_at "rl ty"); (case rlk => exact rfl))
  | ((with_reducible refine' w_isi2 (r := false) ?rlT ?rlt ?rlk ?_); (case rlT => walk_at "rl hp"); (case rlt => walk_at "rl ty"); (case rlk => exact rfl))
  | with_reducible refine w_sFld ?_
  | with_reducible refine w_itemsK ?_
  | ((with_reducible refine' w_catT ?rlha ?rlhb ?rln1 ?rln2 ?rlhl ?_); (case rlha => walk_at "rl hp"); (case rlhb => walk_at "rl hp"); (case rln1 => exact (fun z => nomatch z)); (case rln2 => exact (fun z => nomatch z)); (case rlhl => exact Nat.le_trans (Nat.le_of_ble_eq_true rfl) (show 100000 ≤ sizeLine by decide)))
  | ((with_reducible refine' w_newE ?_); intro _ _ _ _ _)
  | with_reducible refine w_makeK ?_
  | ((with_reducible refine' w_sFld1 ?rlc ?rln ?rll ?rle ?_); (case rlc => assumption); (case rln => assumption); (case rll => exact Nat.lt_of_lt_of_le (Nat.lt_succ_self _) (Nat.le_of_ble_eq_true rfl)); (case rle => exact rfl))
  | ((with_reducible refine' w_sFld0 ?rlx ?rlc ?rln ?rll ?rle ?_); (case rlx => walk_at "rl hq"); (case rlc => assumption); (case rln => assumption); (case rll => exact Nat.lt_of_lt_of_le (Nat.lt_succ_self _) (Nat.le_of_ble_eq_true rfl)); (case rle => exact rfl))
  | with_reducible refine w_rflA ?_
  | with_reducible refine w_for ?_
  | with_reducible refine w_iList ?_
  | with_reducible refine w_iTup ?_
  | ((with_reducible refine' w_overL ?rls ?_); (case rls => walk_at "rl hp"))
  | ((with_reducible refine' w_overT ?rls ?_); (case rls => walk_at "rl hp"))
  | with_reducible refine w_rng1 ?_
  | ((with_reducible refine' w_rng1a ?rl1 ?rl2 ?_); (case rl1 => omega); (case rl2 => omega))
  | with_reducible refine w_rng2 ?_
  | ((with_reducible refine' w_rng2a ?rl1 ?_); (case rl1 => omega))
  | with_reducible refine w_zip2 ?_
  | with_reducible refine w_lc ?_
  | with_reducible refine w_enS ?_
  | with_reducible refine w_callSD ?_
  | with_reducible refine w_xf ?_
  | ((with_reducible refine' w_dnew ?_); intro _ _ _ _ _)
  | ((with_reducible refine' w_disp1 ?_); intro _ _ _ _ _)
  | with_reducible refine w_bm ?_
  | ((with_reducible refine' w_tyL ?rls ?_); (case rls => walk_at "rl hp"))
  | ((with_reducible refine' w_append ?rls ?rll ?_); (case rls => walk_at "rl hq"); (case rll => exact Nat.lt_of_lt_of_le (Nat.lt_succ_self _) (Nat.le_of_ble_eq_true rfl)))
  | ((with_reducible refine' w_cat ?rls ?rlt ?rll ?_); (case rls => walk_at "rl hq"); (case rlt => walk_at "rl hq"); (case rll => exact Nat.le_of_ble_eq_true rfl); intro _ _ _ _ _)
  | with_reducible refine w_int1 ?_
  | ((with_reducible refine w_intb ?_); (try dsimp only))
  | with_reducible refine w_one ?_
  | with_reducible refine w_two ?_
  | ((with_reducible refine' w_lenL ?rls ?_); (case rls => walk_at "rl hp"))
  | ((with_reducible refine' w_lenT ?rls ?_); (case rls => walk_at "rl hp"))
  | with_reducible refine w_meth ?_
  | ((with_reducible refine' w_meth1 ?rlo ?rll ?_); (case rlo => walk_at "rl hp"); (case rll => exact rfl)))
local macro_rules | `(tactic| walk_at "rl wp") => `(tactic| (repeat walk_at "rl w1"))
local macro_rules | `(tactic| walk_at "rl but") => `(tactic| first
  | assumption
  | exact But.refl _ _
  | exact But.upd
  | exact But.of_same (by assumption)
  | (refine But.trans ?_ (But.of_same (by assumption)); walk_at "rl but")
  | (refine But.trans ?_ (by assumption : But _ _ _); walk_at "rl but")
  | (refine But.trans ?_ But.upd; walk_at "rl but"))
local macro_rules | `(tactic| walk_at "rl same") => `(tactic| first
  | assumption
  | exact Same.refl _
  | (refine Same.trans ?_ (by assumption : Same _ _); walk_at "rl same"))

local macro_rules | `(tactic| walk_at "rl wi") => `(tactic| (repeat (first
  | walk_at "rl w1"
  | ((with_reducible refine' iteF' ?rlif ?_); (case rlif => exact rfl))
  | ((with_reducible refine' iteT' ?rlif ?_); (case rlif => exact rfl)))))
local macro_rules | `(tactic| walk_at "rl ty") => `(tactic| exact .base (.dK (by assumption)))
local macro_rules | `(tactic| walk_at "rl ty") => `(tactic| exact .base (.lst (by assumption)))
local macro_rules | `(tactic| walk_at "rl ty") => `(tactic| exact .base (.tup (by assumption)))
local macro_rules | `(tactic| walk_at "rl w1") => `(tactic| first
  | with_reducible refine w_par3 ?_
  | ((with_reducible refine' w_par3a ?_); dsimp only [List.set])
  | with_reducible refine w_dget ?_
  | ((with_reducible refine' w_dgetS ?rls ?rlv ?_); (case rls => walk_at "rl hq"); (case rlv => exact rfl))
  | ((with_reducible refine' w_dgetI ?rls ?rlv ?_); (case rls => walk_at "rl hq"); (case rlv => exact rfl))
  | with_reducible refine w_dget2 ?_
  | ((with_reducible refine' w_isD ?rls ?_); (case rls => walk_at "rl hq"))
  | ((with_reducible refine' w_dget2S ?rls ?_); (case rls => walk_at "rl hq"))
  | ((with_reducible refine' w_dget2I ?rls ?_); (case rls => walk_at "rl hq"))
  | ((with_reducible refine' w_setDS ?rls ?rll ?rlm ?_); (case rls => walk_at "rl hq"); (case rll => exact Nat.lt_of_lt_of_le (Nat.lt_succ_self _) (Nat.le_of_ble_eq_true rfl)); (case rlm => exact rfl))
  | ((with_reducible refine' w_tyD ?rls ?_); (case rls => walk_at "rl hq"))
  | with_reducible refine w_jNil ?_
  | with_reducible refine w_jCons ?_
  | with_reducible refine w_prop ?_
  | with_reducible refine w_makeKS ?_
  | with_reducible refine w_pNil ?_
  | with_reducible refine w_pCons ?_
  | ((with_reducible refine' w_dispN ?_); intro _ _ _ _ _))

local macro_rules | `(tactic| walk_at "rl w1") => `(tactic| ((with_reducible refine' w_dispP ?_); intro _ _ _ _ _))
local macro_rules | `(tactic| walk_at "rl w1") => `(tactic| with_reducible refine w_ifT ?_)
local macro_rules | `(tactic| walk_at "rl w1") => `(tactic| ((with_reducible refine' w_dgS ?rls ?rlv ?_); (case rls => walk_at "rl hq"); (case rlv => exact rfl)))

theorem opR_or {X : Cx} {f : Value → Value → Sem Value} {r1 r2 : R2} (h1 : OpR X f r1) (h2 : OpR X f r2) : OpR X f (fun x y H Q => r1 x y H Q ∨ r2 x y H Q) := fun pins s σ H x y v u Q I rx ry h => h.elim (h1 pins s σ H x y v u Q I rx ry) (h2 pins s σ H x y v u Q I rx ry)
def rEqIT (C : Addr) (sp : Sp) : R2 := fun x y H Q => ∃ a dx fs b ys, x = .ref a ∧ y = .ref b ∧ H a = some (.ins C dx fs) ∧ H b = some (.tup ys) ∧ sp [.ref a, .ref b] H Q E0
theorem op_eqIT {X : Cx} {CX : CXT} {n : Nat} {C f : Addr} {fd : FuncData} {ps : List Str} {ds : List Value} {sp : Sp} (F : FnOk X.prog X.w X.K X.mg X.base CX n f fd ps sp) (hr : Room n X.A) (hn : PySem.W.notFirst X.K C (.type "tuple") = true)
    (hs : PySem.W.findIn X.K (.ref C) "__eq__" = some (some (.ref f))) (hf : PySem.W.isFn X.K (.ref f) = true) (hb : L2.Binds X.K fd ps ds) (hd : Vals [] ds) (hx : Passes CX X E0) : OpR X (compareOp .Eq) (rEqIT C sp) := by
  cases hd
  intro pins s σ H x y u v Q I rx ry h
  obtain ⟨a, dx, fs, b, ys, rfl, rfl, ha, hb', hsp⟩ := h
  cases rx
  cases ry
  obtain ⟨mA, J, _⟩ := ins_get I.hok ha
  obtain ⟨od, J, _⟩ := J.look
  obtain ⟨its, r, ⟨o, eo, hc, n', hd⟩, _⟩ := I.tuple (SqT.of hb')
  have lt : PySem.W.Looks (model X.prog X.w) s.heap (typeOf (.ref b)) (.type "tuple") := fun A Q E s k q => wpAny_typeOf_ref (k _ _ eo) (by rw [hc]; exact q)
  obtain ⟨m, hF⟩ := I.fr
  show wpAny (model X.prog X.w) X.A (richCompare .Eq (.ref a) (.ref b)) (EP X pins σ Q) X.xe s
  refine PySem.W.cmp_K (op := .Eq) (tb := .type "tuple") hr.units0 hF I.ok.mod.kin J lt hn hs hf ?_
  have hl := F.len _ _ _ _ hsp
  have r2 : Vals [V.ref a, V.ref b] [Value.ref a, Value.ref b] := .cons rfl (.cons rfl .nil)
  refine wpAny_call (codeAny_mono (F.run X.A X.stack s H ⟨[.ref a, .ref b], []⟩ [.ref a, .ref b] [.ref a, .ref b] _ E0 hr I.env0 (by
    have := hb s [.ref a, .ref b] I.kIn (by simpa using hl)
    simpa using this) r2 hsp) fun r s' hq => ?_)
  cases r with
  | error e => exact hx pins σ H s e s' I hq
  | ok fl =>
    cases fl with
    | ret w =>
      have e := I.after hq
      cases w with
      | notImplemented =>
        obtain ⟨z, H', I', rz, _⟩ := e
        cases z <;> first | exact rz.elim | (cases rz; done) | (obtain ⟨_, rz⟩ := rz; cases rz; done)
      | _ => exact e
    | next => exact False.elim hq
    | brk => exact False.elim hq
    | cont => exact False.elim hq

def spFieldEq (K : PySem.W.Frag) : Sp := fun vs H Q _ => ∃ a b ys, vs = [.ref a, .ref b] ∧ H b = some (.tup ys) ∧ Q (.bl false) H
theorem sc_Field___eq__ : FnScope ["self", "other"] ["self", "other"] (defScope ((inClass (top 59) 3))) := ⟨rfl, rfl, rfl, by decide +kernel, rfl, by decide +kernel, by decide +kernel⟩
theorem ok_Field___eq__ {P : Program} {w : World} {K : PySem.W.Frag} {mg : Str → Option Value} {base : Heap} (T : TT K mg)    : Lm P w K mg base CX0 1 "Field" "__eq__" ["self", "other"] [] (spFieldEq K) := by
  obtain ⟨fd, F⟩ := T.d_Field___eq__
  refine ⟨⟨fd, [], F.ok sc_Field___eq__ (fun vs H Q E h => ?_) (fun cdv A outer s H vs Q E hr h => ?_), FunD.bindsN F (fun _ _ _ _ _ _ us hl => match us, hl with | [_, _], _ => rfl), .nil⟩⟩
  · obtain ⟨a, b, ys, rfl, _⟩ := h
    rfl
  · obtain ⟨a, b, ys, rfl, hb, q⟩ := h
    have ino0 := T.ino_tuple
    refine ⟨_, PSs.nox ((pss_cons (ps_if (pt_not (pt_val (pe_callB call_isi (by rfl) T.m_isinstance (by decide +kernel) (pa_cons (pv 1) (pa_cons (pe_glob rfl (T.g_Field) (show RelV (.ref (He.ga K "Field")) _ from rfl)) pa_nil))))) (pss_one (ps_ret pe_bl)) pss_nil) (pss_one ps_never))), ?_⟩; rw [start_2_2]; try dsimp only [cxOf]
    walk_at "rl wp"
    refine ⟨.ref b, .ref (He.ga K "Field"), .type "tuple", .ref (He.ga K "Field"), false, rfl, .own _, .base (.tup hb), ino0, ?_⟩
    walk_at "rl wi"
    exact q
end T61
end
section
set_option Elab.async false
set_option linter.all false
set_option maxRecDepth 100000
set_option maxHeartbeats 1000000
namespace T61
open PySem PySem.Spec PyProof.Rows L2 L2.RL
local macro_rules | `(tactic| walk_at "rl ty") => `(tactic| first
  | assumption
  | exact .base (.int _)
  | exact .base (.str _)
  | exact .base .non
  | exact .base (.bl _)
  | exact ty_sqT (by walk_at "rl hp")
  | exact ty_sqL (by walk_at "rl hp")
  | exact .base (.tup (by walk_at "rl hp"))
  | exact .base (.lst (by walk_at "rl hp"))
  | exact .base (.dK (by walk_at "rl hp")))
local macro_rules | `(tactic| walk_at "rl if") => `(tactic| first
  | with_reducible refine iteT' rfl ?_
  | with_reducible refine iteF' rfl ?_
  | (refine iteT' rfl ?_)
  | (refine iteF' rfl ?_))
local macro_rules | `(tactic| walk_at "rl side") => `(tactic| first | assumption | omega | (constructor <;> omega) | decide)
local macro_rules | `(tactic| walk_at "rl ne") => `(tactic| first
  | assumption
  | exact Ne.symm (by assumption)
  | walk_at "rl ne2"
  | exact ne_of (by assumption) (by walk_at "rl hq") (by intro z; cases z)
  | exact (ne_of (by assumption) (by walk_at "rl hq") (by intro z; cases z)).symm)
local macro_rules | `(tactic| walk_at "rl hq") => `(tactic| first
  | assumption
  | exact upd_same
  | (refine' upd_at ?rlne ?rlhq; (case rlne => walk_at "rl ne"); (case rlhq => walk_at "rl hq"))
  | (refine' Same.at ?rlsa ?rlhq; (case rlsa => assumption); (case rlhq => walk_at "rl hq"))
  | (refine' But.at ?rlbu ?rlne ?rlhq; (case rlbu => assumption); (case rlne => walk_at "rl ne"); (case rlhq => walk_at "rl hq")))
local macro_rules | `(tactic| walk_at "rl hp") => `(tactic| first
  | assumption
  | (refine' SqL.of ?rlhq; (case rlhq => walk_at "rl hq"))
  | (refine' SqT.of ?rlhq; (case rlhq => walk_at "rl hq"))
  | (refine' Same.seq ?rlsa ?rlhp; (case rlsa => assumption); (case rlhp => walk_at "rl hp"))
  | (refine' Same.sqT ?rlsa ?rlhp; (case rlsa => assumption); (case rlhp => walk_at "rl hp"))
  | walk_at "rl hp2"
  | walk_at "rl hq")
local macro_rules | `(tactic| walk_at "rl w1") => `(tactic| first
  | with_reducible refine w_seq ?_
  | ((with_reducible refine' w_var ?rlv ?_); (case rlv => exact rfl))
  | with_reducible refine w_c ?_
  | with_reducible refine w_op ?_
  | with_reducible refine w_I0 ?_
  | with_reducible refine w_asg ?_
  | ((with_reducible refine' w_gName ?_); dsimp only [List.set])
  | ((with_reducible refine' w_nxD ?rle ?_); (case rle => exact rfl))
  | ((with_reducible refine' w_rtD ?rle ?_); (case rle => exact rfl))
  | with_reducible refine w_next ?_
  | with_reducible refine w_ret ?_
  | with_reducible refine w_cons ?_
  | with_reducible refine w_nil ?_
  | with_reducible refine w_ifS ?_
  | with_reducible refine w_test ?_
  | with_reducible refine w_B ?_
  | with_reducible refine w_bl ?_
  | with_reducible refine w_bl1 ?_
  | with_reducible refine w_blR ?_
  | with_reducible refine w_eqI ?_
  | with_reducible refine w_neI ?_
  | with_reducible refine w_eqS ?_
  | with_reducible refine w_neS ?_
  | with_reducible refine w_eqB ?_
  | with_reducible refine w_neB ?_
  | with_reducible refine w_and ?_
  | with_reducible refine w_or ?_
  | with_reducible refine w_not ?_
  | with_reducible refine w_andV ?_
  | with_reducible refine w_orV ?_
  | with_reducible refine w_notV ?_
  | with_reducible refine w_if ?_
  | with_reducible refine w_chain ?_
  | with_reducible refine w_un ?_
  | with_reducible refine w_U ?_
  | ((with_reducible refine' w_I ?rlc ?_); (case rlc => walk_at "rl side"))
  | with_reducible refine w_drop ?_
  | with_reducible refine w_retN ?_
  | with_reducible refine w_par ?_
  | ((with_reducible refine' w_par2 ?_); dsimp only [List.set])
  | ((with_reducible refine' w_aug ?rla ?_); (case rla => exact rfl))
  | with_reducible refine w_ipI ?_
  | with_reducible refine w_break ?_
  | with_reducible refine w_cont ?_
  | ((with_reducible refine' w_bkD ?rle ?_); (case rle => exact rfl))
  | ((with_reducible refine' w_ctD ?rle ?_); (case rle => exact rfl))
  | with_reducible refine w_tup ?_
  | with_reducible refine w_lst ?_
  | ((with_reducible refine' w_newO ?rln ?_); (case rln => exact Nat.le_of_ble_eq_true rfl); intro _ _ _ _ _)
  | ((with_reducible refine' w_new ?rln ?_); (case rln => exact Nat.le_of_ble_eq_true rfl))
  | ((with_reducible refine' w_mk ?_); intro _ _ _ _ _)
  | ((with_reducible refine' w_gTup ?rls ?rll ?_); (case rls => walk_at "rl hp"); (case rll => exact rfl))
  | with_reducible refine w_gCons ?_
  | with_reducible refine w_gNil ?_
  | with_reducible refine w_gSub ?_
  | ((with_reducible refine' w_setL ?rls ?rlj ?_); (case rls => walk_at "rl hp"); (case rlj => exact rfl))
  | ((with_reducible refine' w_ixL ?rls ?rli ?_); (case rls => walk_at "rl hp"); (case rli => exact rfl))
  | ((with_reducible refine' w_ixT ?rls ?rli ?_); (case rls => walk_at "rl hp"); (case rli => exact rfl))
  | with_reducible refine w_call ?_
  | with_reducible refine w_trI ?_
  | with_reducible refine w_yes ?_
  | with_reducible refine w_trB ?_
  | with_reducible refine w_trN ?_
  | with_reducible refine w_cb ?_
  | with_reducible refine w_fld ?_
  | ((with_reducible refine' w_fld1 ?rlo ?rlc ?rln ?rll ?_); (case rlo => walk_at "rl hp"); (case rlc => assumption); (case rln => assumption); (case rll => exact rfl))
  | with_reducible refine w_isiO ?_
  | with_reducible refine w_isiT ?_
  | ((with_reducible refine' w_isi (r := true) ?rlt ?rlk ?_); (case rlt => walk_at "rl ty"); (case rlk => exact rfl))
  | ((with_reducible refine' w_isi (r := false) ?rlt ?rlk ?_); (case rlt => walk_at "rl ty"); (case rlk => exact rfl))
  | ((with_reducible refine' w_isi2 (r := true) ?rlT ?rlt ?rlk ?_); (case rlT => walk_at "rl hp"); (case rlt => walk_at "rl ty"); (case rlk => exact rfl))
  | ((with_reducible refine' w_isi2 (r := false) ?rlT ?rlt ?rlk ?_); (case rlT => walk_at "rl hp"); (case rlt => walk_at "rl ty"); (case rlk => exact rfl))
  | with_reducible refine w_sFld ?_
  | with_reducible refine w_itemsK ?_
  | ((with_reducible refine' w_catT ?rlha ?rlhb ?rln1 ?rln2 ?rlhl ?_); (case rlha => walk_at "rl hp"); (case rlhb => walk_at "rl hp"); (case rln1 => exact (fun z => nomatch z)); (case rln2 => exact (fun z => nomatch z)); (case rlhl => exact Nat.le_trans (Nat.le_of_ble_eq_true rfl) (show 100000 ≤ sizeLine by decide)))
  | ((with_reducible refine' w_newE ?_); intro _ _ _ _ _)
  | with_reducible refine w_makeK ?_
  | ((with_reducible refine' w_sFld1 ?rlc ?rln ?rll ?rle ?_); (case rlc => assumption); (case rln => assumption); (case rll => exact Nat.lt_of_lt_of_le (Nat.lt_succ_self _) (Nat.le_of_ble_eq_true rfl)); (case rle => exact rfl))
  | ((with_reducible refine' w_sFld0 ?rlx ?rlc ?rln ?rll ?rle ?_); (case rlx => walk_at "rl hq"); (case rlc => assumption); (case rln => assumption); (case rll => exact Nat.lt_of_lt_of_le (Nat.lt_succ_self _) (Nat.le_of_ble_eq_true rfl)); (case rle => exact rfl))
  | with_reducible refine w_rflA ?_
  | with_reducible refine w_for ?_
  | with_reducible refine w_iList ?_
  | with_reducible refine w_iTup ?_
  | ((with_reducible refine' w_overL ?rls ?_); (case rls => walk_at "rl hp"))
  | ((with_reducible refine' w_overT ?rls ?_); (case rls => walk_at "rl hp"))
  | with_reducible refine w_rng1 ?_
  | ((with_reducible refine' w_rng1a ?rl1 ?rl2 ?_); (case rl1 => omega); (case rl2 => omega))
  | with_reducible refine w_rng2 ?_
  | ((with_reducible refine' w_rng2a ?rl1 ?_); (case rl1 => omega))
  | with_reducible refine w_zip2 ?_
  | with_reducible refine w_lc ?_
  | with_reducible refine w_enS ?_
  | with_reducible refine w_callSD ?_
  | with_reducible refine w_xf ?_
  | ((with_reducible refine' w_dnew ?_); intro _ _ _ _ _)
  | ((with_reducible refine' w_disp1 ?_); intro _ _ _ _ _)
  | with_reducible refine w_bm ?_
  | ((with_reducible refine' w_tyL ?rls ?_); (case rls => walk_at "rl hp"))
  | ((with_reducible refine' w_append ?rls ?rll ?_); (case rls => walk_at "rl hq"); (case rll => exact Nat.lt_of_lt_of_le (Nat.lt_succ_self _) (Nat.le_of_ble_eq_true rfl)))
  | ((with_reducible refine' w_cat ?rls ?rlt ?rll ?_); (case rls => walk_at "rl hq"); (case rlt => walk_at "rl hq"); (case rll => exact Nat.le_of_ble_eq_true rfl); intro _ _ _ _ _)
  | with_reducible refine w_int1 ?_
  | ((with_reducible refine w_intb ?_); (try dsimp only))
  | with_reducible refine w_one ?_
  | with_reducible refine w_two ?_
  | ((with_reducible refine' w_lenL ?rls ?_); (case rls => walk_at "rl hp"))
  | ((with_reducible refine' w_lenT ?rls ?_); (case rls => walk_at "rl hp"))
  | with_reducible refine w_meth ?_
  | ((with_reducible refine' w_meth1 ?rlo ?rll ?_); (case rlo => walk_at "rl hp"); (case rll => exact rfl)))
local macro_rules | `(tactic| walk_at "rl wp") => `(tactic| (repeat walk_at "rl w1"))
local macro_rules | `(tactic| walk_at "rl but") => `(tactic| first
  | assumption
  | exact But.refl _ _
  | exact But.upd
  | exact But.of_same (by assumption)
  | (refine But.trans ?_ (But.of_same (by assumption)); walk_at "rl but")
  | (refine But.trans ?_ (by assumption : But _ _ _); walk_at "rl but")
  | (refine But.trans ?_ But.upd; walk_at "rl but"))
local macro_rules | `(tactic| walk_at "rl same") => `(tactic| first
  | assumption
  | exact Same.refl _
  | (refine Same.trans ?_ (by assumption : Same _ _); walk_at "rl same"))

local macro_rules | `(tactic| walk_at "rl wi") => `(tactic| (repeat (first
  | walk_at "rl w1"
  | ((with_reducible refine' iteF' ?rlif ?_); (case rlif => exact rfl))
  | ((with_reducible refine' iteT' ?rlif ?_); (case rlif => exact rfl)))))
local macro_rules | `(tactic| walk_at "rl ty") => `(tactic| exact .base (.dK (by assumption)))
local macro_rules | `(tactic| walk_at "rl ty") => `(tactic| exact .base (.lst (by assumption)))
local macro_rules | `(tactic| walk_at "rl ty") => `(tactic| exact .base (.tup (by assumption)))
local macro_rules | `(tactic| walk_at "rl w1") => `(tactic| first
  | with_reducible refine w_par3 ?_
  | ((with_reducible refine' w_par3a ?_); dsimp only [List.set])
  | with_reducible refine w_dget ?_
  | ((with_reducible refine' w_dgetS ?rls ?rlv ?_); (case rls => walk_at "rl hq"); (case rlv => exact rfl))
  | ((with_reducible refine' w_dgetI ?rls ?rlv ?_); (case rls => walk_at "rl hq"); (case rlv => exact rfl))
  | with_reducible refine w_dget2 ?_
  | ((with_reducible refine' w_isD ?rls ?_); (case rls => walk_at "rl hq"))
  | ((with_reducible refine' w_dget2S ?rls ?_); (case rls => walk_at "rl hq"))
  | ((with_reducible refine' w_dget2I ?rls ?_); (case rls => walk_at "rl hq"))
  | ((with_reducible refine' w_setDS ?rls ?rll ?rlm ?_); (case rls => walk_at "rl hq"); (case rll => exact Nat.lt_of_lt_of_le (Nat.lt_succ_self _) (Nat.le_of_ble_eq_true rfl)); (case rlm => exact rfl))
  | ((with_reducible refine' w_tyD ?rls ?_); (case rls => walk_at "rl hq"))
  | with_reducible refine w_jNil ?_
  | with_reducible refine w_jCons ?_
  | with_reducible refine w_prop ?_
  | with_reducible refine w_makeKS ?_
  | with_reducible refine w_pNil ?_
  | with_reducible refine w_pCons ?_
  | ((with_reducible refine' w_dispN ?_); intro _ _ _ _ _))

local macro_rules | `(tactic| walk_at "rl w1") => `(tactic| ((with_reducible refine' w_dispP ?_); intro _ _ _ _ _))
local macro_rules | `(tactic| walk_at "rl w1") => `(tactic| with_reducible refine w_ifT ?_)
local macro_rules | `(tactic| walk_at "rl w1") => `(tactic| ((with_reducible refine' w_dgS ?rls ?rlv ?_); (case rls => walk_at "rl hq"); (case rlv => exact rfl)))

local macro_rules | `(tactic| walk_at "rl w1") => `(tactic| first
  | with_reducible refine w_din ?_
  | ((with_reducible refine' w_dinI ?rls ?_); (case rls => walk_at "rl hq"))
  | ((with_reducible refine' w_dinT ?rls ?rlt ?_); (case rls => walk_at "rl hq"); (case rlt => walk_at "rl hq"))
  | with_reducible refine w_callN ?_)

inductive EK
  | fl (l : LF)
  | op (a b : Int)
  | cl
def KAt (K : PySem.W.Frag) (H : Hp) (x : V) : EK → Prop
  | .fl l => FAt K H x l
  | .op a b => ∃ p, x = .ref p ∧ H p = some (.tup [.str "open", .int a, .int b])
  | .cl => ∃ p, x = .ref p ∧ H p = some (.tup [.str "close"])
theorem KAt.same {K : PySem.W.Frag} {H H' : Hp} {x : V} {e : EK} (s : Same H H') (h : KAt K H x e) : KAt K H' x e := by
  cases e with
  | fl l => exact FAt.same s h
  | op a b => obtain ⟨p, e, h⟩ := h; exact ⟨p, e, s _ _ h⟩
  | cl => obtain ⟨p, e, h⟩ := h; exact ⟨p, e, s _ _ h⟩
theorem KAt.but {K : PySem.W.Frag} {H H' : Hp} {x : V} {l : Addr} {ys : List V} {e : EK} (b : But l H H') (hl : H l = some (.lst ys)) (h : KAt K H x e) : KAt K H' x e := by
  cases e with
  | fl l => exact FAt.but b hl h
  | op a b' => obtain ⟨p, e, h⟩ := h; exact ⟨p, e, b _ _ (fun z => by subst z; rw [h] at hl; cases hl) h⟩
  | cl => obtain ⟨p, e, h⟩ := h; exact ⟨p, e, b _ _ (fun z => by subst z; rw [h] at hl; cases hl) h⟩
def KsAt (K : PySem.W.Frag) (H : Hp) (xs : List V) (es : List EK) : Prop := Paired (KAt K H) xs es
theorem KsAt.same {K : PySem.W.Frag} {H H' : Hp} {xs : List V} {es : List EK} (s : Same H H') (h : KsAt K H xs es) : KsAt K H' xs es := Paired.mapP h fun _ _ h => KAt.same s h
theorem KsAt.but {K : PySem.W.Frag} {H H' : Hp} {xs : List V} {es : List EK} {l : Addr} {ys : List V} (b : But l H H') (hl : H l = some (.lst ys)) (h : KsAt K H xs es) : KsAt K H' xs es := Paired.mapP h fun _ _ h => KAt.but b hl h
theorem pr_len {α β : Type} {F : α → β → Prop} {xs : List α} {ys : List β} (h : Paired F xs ys) : xs.length = ys.length := by
  induction h with
  | nil => rfl
  | cons _ _ ih => exact congrArg Nat.succ ih
theorem pr_at {α β : Type} {F : α → β → Prop} {xs : List α} {ys : List β} (h : Paired F xs ys) : ∀ {i : Nat} {x : α}, xs[i]? = some x → ∃ y, ys[i]? = some y ∧ F x y := by
  induction h with
  | nil => intro i x e; simp at e
  | cons a _ ih =>
    intro i x e
    cases i with
    | zero => simp only [List.getElem?_cons_zero, Option.some.injEq] at e; subst e; exact ⟨_, rfl, a⟩
    | succ i => simpa using ih (by simpa using e)
def box (a b : Int) (fs : List LF) : List EK := .op a b :: (fs.map .fl ++ [.cl])
theorem box_len {a b : Int} {fs : List LF} : (box a b fs).length = fs.length + 2 := by
  unfold box
  simp
theorem box_op {a b c d : Int} {fs : List LF} {i : Nat} (h : (box a b fs)[i]? = some (.op c d)) : i = 0 := by
  cases i with
  | zero => rfl
  | succ i =>
    have h' : (fs.map EK.fl ++ [.cl])[i]? = some (.op c d) := h
    have m := List.mem_of_getElem? h'
    simp at m
theorem box_cl {a b : Int} {fs : List LF} {i : Nat} (h : (box a b fs)[i]? = some .cl) : i = fs.length + 1 := by
  cases i with
  | zero => cases h
  | succ i =>
    have h' : (fs.map EK.fl ++ [.cl])[i]? = some .cl := h
    by_cases c : i < fs.length
    · rw [List.getElem?_append_left (by simpa using c), List.getElem?_map] at h'
      obtain ⟨z, _, e⟩ := Option.map_eq_some_iff.mp h'
      cases e
    · have hl := (List.getElem?_eq_some_iff.mp h').1
      simp at hl
      omega
theorem box_fl {a b : Int} {fs : List LF} {l : LF} {i : Nat} (h : (box a b fs)[i]? = some (.fl l)) : i ≤ fs.length ∧ 0 < i ∧ fs[i - 1]? = some l := by
  cases i with
  | zero => cases h
  | succ i =>
    have h' : (fs.map EK.fl ++ [.cl])[i]? = some (.fl l) := h
    by_cases c : i < fs.length
    · rw [List.getElem?_append_left (by simpa using c), List.getElem?_map] at h'
      obtain ⟨z, hz, e⟩ := Option.map_eq_some_iff.mp h'
      cases e
      exact ⟨c, Nat.succ_pos _, hz⟩
    · have hl := (List.getElem?_eq_some_iff.mp h').1
      simp at hl
      have e : i = fs.length := by omega
      subst e
      rw [List.getElem?_append_right (by simp)] at h'
      simp at h'
theorem shaped_op {c d : Int} : SeqAt.shaped (.tuple [.str "open", .int c, .int d]) = true := shaped_tup (by simp only [PyData.canLay0, PyData.canLayAll0]; decide +kernel) (Nat.le_of_ble_eq_true rfl)
theorem shaped_cl : SeqAt.shaped (.tuple [.str "close"]) = true := by decide +kernel
theorem w_bm0 {K : PySem.W.Frag} {σ : L2.St} {H : Hp} {Q : VK} {T : String} {r : V → List V → Hp → VK → Prop} {to : TE} (h : to σ H fun x H1 => tyV K T x H1 ∧ r x [] H1 Q) : tBM0 K T r to σ H Q := h
def wOut (fs : List LF) (xs : List V) : List V := if fs = [] then [] else xs
def spWithout (K : PySem.W.Frag) : Sp := fun vs H Q _ => ∃ (l : Addr) (xs : List V) (a b : Int) (fs : List LF), vs = [.ref l] ∧ H l = some (.lst xs) ∧ KsAt K H xs (box a b fs) ∧ fs.length ≤ 1000 ∧
  ∀ r H', H r = none → Same H H' → H' r = some (.lst (wOut fs xs)) → Q (.ref r) H'
theorem sc_without_empty : FnScope ["entries", "found", "entry"] ["entries"] (defScope (top 74)) := ⟨rfl, rfl, rfl, by decide +kernel, rfl, by decide +kernel, by decide +kernel⟩
theorem ok_without_empty {P : Program} {w : World} {K : PySem.W.Frag} {mg : Str → Option Value} {base : Heap} (T : TT K mg) (D_Field___eq__ : Lm P w K mg base CX0 1 "Field" "__eq__" ["self", "other"] [] (spFieldEq K))   : Ld P w K mg base CX0 2 "without_empty" ["entries"] [] (spWithout K) := by
  obtain ⟨⟨fd_Field___eq__, ds_Field___eq__, F_Field___eq__, b_Field___eq__, v_Field___eq__⟩⟩ := D_Field___eq__
  obtain ⟨fd, F⟩ := T.d_without_empty
  refine ⟨⟨fd, [], F.ok sc_without_empty (fun vs H Q E h => ?_) (fun cdv A outer s H vs Q E hr h => ?_), FunD.bindsN F (fun _ _ _ _ _ _ us hl => match us, hl with | [_], _ => rfl), .nil⟩, T.g_without_empty, F.kp⟩
  · obtain ⟨l, xs, a, b, fs, rfl, _⟩ := h
    rfl
  · obtain ⟨l, xs, a, b, fs, rfl, hl, hk, hn, q⟩ := h
    have ino0 := T.ino_tuple
    have ifF := T.if_Field
    have iF1 := T.ic_Field
    have iF2 := T.ig_Field
    have iF3 := T.it_Field
    have iF4 := T.im_Field
    have c_F := T.c_Field
    have hxl : xs.length = fs.length + 2 := by rw [pr_len hk, box_len]
    refine ⟨_, PSs.nox ((pss_cons (ps_set (i := 1) sc_without_empty.nd rfl (by first | exact Or.inl rfl | exact Or.inr rfl) (pe_lst pa_nil)) (pss_cons (ps_for PassesOwn.never rfl (pi_list (pv 0)) (pg_name (i := 2) sc_without_empty.nd rfl (by first | exact Or.inl rfl | exact Or.inr rfl)) (pss_one (ps_if (PW.pt (pw_and (pt_cmpR (opR_or (op_eqD hr.units) (op_eqIT F_Field___eq__ (hr.mono (by decide)) T.nf_Field T.fe_Field T.ff_Field b_Field___eq__ v_Field___eq__ pass0)) (pv 2) (pe_tup (pa_cons pe_str pa_nil)) (nomark _)) (pw_and (pt_not (pt_val (pe_callB call_isi (by rfl) T.m_isinstance (by decide +kernel) (pa_cons (pe_ix ix_list (pv 1) (pe_un un_neg pe_int) (fun _ _ => rfl)) (pa_cons (pe_glob rfl (T.g_Field) (show RelV (.ref (He.ga K "Field")) _ from rfl)) pa_nil))))) (pw_and1 (pt_cmpR op_eq (pe_ix ix_seq (pe_ix ix_list (pv 1) (pe_un un_neg pe_int) (fun _ _ => rfl)) pe_int (fun _ _ => rfl)) (pe_glob rfl (T.i_OPEN_changes).choose_spec (show RelV (.str "open") _ from ⟨_, rfl⟩)) (nomark _)))))) (pss_one (ps_expr (pe_bm0 PySem.F.plainAttrs_list PySem.F.slot_list_pop PySem.F.type_list_pop mt_pop (pv 1)))) (pss_one (ps_expr (pe_bm PySem.F.plainAttrs_list PySem.F.slot_list_append PySem.F.type_list_append mt_append (pv 1) (pa_cons (pv 2) pa_nil))))))) (pss_one (ps_ret (pv 1)))))), ?_⟩; rw [start_3_1]; try dsimp only [cxOf]
    walk_at "rl wp"
    rename_i f H1 nf s1 hf
    have nlf : l ≠ f := ne_of_none hl nf
    refine w_forS (fun i σ' H' => Same H H' ∧ ∃ y, σ' = [some (.ref l), some (.ref f), y] ∧ H' f = some (.lst (if i ≤ fs.length + 1 then xs.take i else wOut fs xs))) (fun i σ' H' ⟨sm, _⟩ => seqL (SqL.of (sm _ _ hl))) ⟨s1, none, rfl, by rw [if_pos (Nat.zero_le _)]; exact hf⟩ ?_ ?_
    · rintro i x σ' H' hx ⟨sm, y, rfl, hfi⟩
      obtain ⟨e, he, hke⟩ := pr_at hk hx
      have hke := KAt.same sm hke
      have tk : xs.take (i + 1) = xs.take i ++ [x] := by rw [List.take_succ, hx]; rfl
      have lt : (xs.take i).length < 100000 := by rw [List.length_take]; omega
      walk_at "rl wp"
      rename_i t H2 nt s2 ht
      have hfi2 := s2 _ _ hfi
      have ap : i ≤ fs.length → Same H (L2.upd H2 f (.lst (xs.take i ++ [x]))) ∧ ∃ y, [some (.ref l), some (.ref f), some x] = [some (.ref l), some (.ref f), y] ∧ L2.upd H2 f (.lst (xs.take i ++ [x])) f = some (.lst (if i + 1 ≤ fs.length + 1 then xs.take (i + 1) else wOut fs xs)) := fun c =>
        ⟨same_but (sm.trans s2) nf But.upd, _, rfl, by rw [upd_same, if_pos (by omega), tk]⟩
      cases e with
      | op c d =>
        obtain rfl := box_op he
        obtain ⟨p, rfl, hp⟩ := hke
        rw [if_pos (Nat.zero_le _)] at hfi2
        refine .inl ⟨.tuple [.str "open", .int c, .int d], .tuple [.str "close"], .tup (SqT.of (s2 _ _ hp)) (.cons (.str _) (.cons (.int _) (.cons (.int _) .nil))), .tup (SqT.of ht) (.cons (.str _) .nil), shaped_op, shaped_cl, ?_⟩
        rw [show PyData.eqv (.tuple [.str "open", .int c, .int d]) (.tuple [.str "close"]) = false from by rfl]
        walk_at "rl wi"
        exact ap (Nat.zero_le _)
      | fl v =>
        obtain ⟨h1, h2, h3⟩ := box_fl he
        obtain ⟨ok, g, p, rfl, ⟨dx, hg⟩, hu⟩ := hke
        rw [if_pos (by omega)] at hfi2
        refine .inr ⟨g, dx, _, t, _, rfl, rfl, s2 _ _ hg, ht, g, t, _, rfl, ht, ?_⟩
        walk_at "rl wi"
        refine w_append hfi2 lt ?_
        walk_at "rl wp"
        exact ap h1
      | cl =>
        obtain rfl := box_cl he
        obtain ⟨p, rfl, hp⟩ := hke
        rw [if_pos (Nat.le_refl _)] at hfi2
        refine .inl ⟨.tuple [.str "close"], .tuple [.str "close"], .tup (SqT.of (s2 _ _ hp)) (.cons (.str _) .nil), .tup (SqT.of ht) (.cons (.str _) .nil), shaped_cl, shaped_cl, ?_⟩
        rw [show PyData.eqv (.tuple [.str "close"]) (.tuple [.str "close"]) = true from by decide +kernel]
        obtain ⟨z, hz⟩ : ∃ z, xs[fs.length]? = some z := ⟨_, List.getElem?_eq_getElem (by omega)⟩
        have tkn : xs.take (fs.length + 1) = xs.take fs.length ++ [z] := by rw [List.take_succ, hz]; rfl
        obtain ⟨e', he', hkz⟩ := pr_at hk hz
        have hkz := KAt.same (sm.trans s2) hkz
        have hfi3 := hfi2
        rw [tkn] at hfi3
        have fin : xs.take (fs.length + 1) ++ [.ref p] = xs := by
          have h := tk
          rw [List.take_of_length_le (by omega)] at h
          exact h.symm
        walk_at "rl wi"
        refine w_ixL (SqL.of hfi3) atI_snoc ?_
        walk_at "rl wp"
        cases e' with
        | cl => exact absurd (box_cl he') (by omega)
        | op c d =>
          have h0 := box_op he'
          obtain ⟨pz, rfl, hpz⟩ := hkz
          refine ⟨.ref pz, .ref (He.ga K "Field"), .type "tuple", .ref (He.ga K "Field"), false, rfl, .own _, .base (.tup hpz), ino0, ?_⟩
          walk_at "rl wi"
          refine w_ixL (SqL.of hfi3) atI_snoc ?_
          walk_at "rl wi"
          refine .inr (.inl (w_ixT (SqT.of hpz) rfl ?_))
          walk_at "rl wi"
          refine w_bm0 ?_
          walk_at "rl wp"
          refine ⟨f, _, .ref pz, rfl, rfl, hfi3, by simp, ?_⟩
          walk_at "rl wp"
          exact ⟨same_but (sm.trans s2) nf But.upd, _, rfl, by rw [upd_same, if_neg (by omega), List.dropLast_concat, h0]; unfold wOut; rw [if_pos (List.length_eq_zero_iff.mp h0)]; rfl⟩
        | fl v =>
          obtain ⟨h1, h2, h3⟩ := box_fl he'
          obtain ⟨ok, g, p', rfl, ⟨dx, hg⟩, hu⟩ := hkz
          refine ⟨.ref g, .ref (He.ga K "Field"), .ref (He.ga K "Field"), .ref (He.ga K "Field"), true, rfl, .own _, .base (.ins hg c_F iF1 iF2 iF3 iF4), ifF, ?_⟩
          walk_at "rl wi"
          refine w_append hfi2 lt ?_
          walk_at "rl wp"
          exact ⟨same_but (sm.trans s2) nf But.upd, _, rfl, by rw [upd_same, if_neg (by omega), fin]; unfold wOut; rw [if_neg (fun z => by rw [z] at h2; exact Nat.lt_irrefl 0 h2)]⟩
    rintro σ' H' ⟨sm, y, rfl, hfi⟩
    walk_at "rl wp"
    rw [if_neg (by omega)] at hfi
    exact q f H' nf sm hfi
end T61
end
section
set_option Elab.async false
set_option linter.all false
set_option maxRecDepth 100000
set_option maxHeartbeats 1000000
namespace T61
open PySem PySem.Spec PyProof.Rows L2 L2.RL

def ctF (p : Int → Bool) (fs : List LF) : List LF := fs.flatMap (cutF p)
def usedR (cs : List LF) (r : Str) : Bool := cs.any fun l => decide (l.f ≠ 1) && decide (l.r = r)
def leftF (cs : List LF) : List LF := cs.filter fun l => usedR cs l.r
def cutE (p : Int → Bool) : EK → List EK
  | .fl l => (cutF p l).map .fl
  | e => [e]
def varE : EK → Bool
  | .fl l => decide (l.f ≠ 1)
  | _ => false
def keepE (cs : List LF) : EK → Bool
  | .fl l => usedR cs l.r
  | _ => true
def kvsOf (us : List Int) : List (Key × V) := us.foldl (fun kvs u => putK kvs (.inl u) (.bl true)) []
def entD : EK → EntD
  | .fl l => .fl l.r 0 (1 * l.m)
  | .op a b => .dt (.tuple [.str "open", .int a, .int b])
  | .cl => .dt (.tuple [.str "close"])
def sumM (cs : List LF) : Int := cs.foldr (fun l s => l.m + s) 0
theorem flat_box {p : Int → Bool} {a b : Int} {fs : List LF} : (box a b fs).flatMap (cutE p) = box a b (ctF p fs) := by
  unfold box ctF
  rw [List.flatMap_cons, List.flatMap_append]
  have e : (fs.map EK.fl).flatMap (cutE p) = (fs.flatMap (cutF p)).map EK.fl := by
    induction fs with
    | nil => rfl
    | cons l r ih => rw [List.map_cons, List.flatMap_cons, ih, List.flatMap_cons, List.map_append]; rfl
  rw [e]
  rfl
theorem flat_take {α β : Type} {f : α → List β} {l : List α} {i : Nat} {x : α} (h : l[i]? = some x) : (l.take (i + 1)).flatMap f = (l.take i).flatMap f ++ f x := by
  rw [List.take_succ, h, List.flatMap_append]
  simp
theorem flat_le {α β : Type} {f : α → List β} {l : List α} {i : Nat} : ((l.take i).flatMap f).length ≤ (l.flatMap f).length := by
  have e : (l.flatMap f) = (l.take i).flatMap f ++ (l.drop i).flatMap f := by rw [← List.flatMap_append, List.take_append_drop]
  rw [e, List.length_append]
  omega
theorem filter_take {α : Type} {f : α → Bool} {l : List α} {i : Nat} {x : α} (h : l[i]? = some x) : (l.take (i + 1)).filter f = (l.take i).filter f ++ if f x = true then [x] else [] := by
  rw [List.take_succ, h, List.filter_append]
  simp [List.filter_cons]
theorem keep_box {a b : Int} {cs : List LF} {ls : List LF} : (box a b ls).filter (keepE cs) = box a b (ls.filter fun l => usedR cs l.r) := by
  unfold box
  rw [List.filter_cons, if_pos (show keepE cs (EK.op a b) = true from rfl), List.filter_append]
  have e : (ls.map EK.fl).filter (keepE cs) = (ls.filter fun l => usedR cs l.r).map EK.fl := by
    induction ls with
    | nil => rfl
    | cons l r ih =>
      rw [List.map_cons, List.filter_cons, List.filter_cons, ih]
      by_cases c : usedR cs l.r = true
      · rw [if_pos (show keepE cs (.fl l) = true from c), if_pos c]; rfl
      · rw [if_neg (show ¬ keepE cs (.fl l) = true from c), if_neg c]
  rw [e]
  rfl
def hasR (es : List EK) (r : Str) : Bool := es.any fun e => match e with
  | .fl l => decide (l.r = r)
  | _ => false
theorem hasR_var {a b : Int} {cs : List LF} {r : Str} : hasR ((box a b cs).filter varE) r = usedR cs r := by
  unfold box
  rw [List.filter_cons, if_neg (show ¬ varE (EK.op a b) = true from fun z => nomatch z), List.filter_append]
  have e : hasR ((cs.map EK.fl).filter varE ++ [EK.cl].filter varE) r = hasR ((cs.map EK.fl).filter varE) r := by
    unfold hasR
    rw [List.any_append]
    simp [varE]
  rw [e]
  clear e
  induction cs with
  | nil => rfl
  | cons l ls ih =>
    rw [List.map_cons, List.filter_cons]
    have s : usedR (l :: ls) r = ((decide (l.f ≠ 1) && decide (l.r = r)) || usedR ls r) := rfl
    by_cases c : l.f = 1
    · rw [if_neg (by show ¬ decide (l.f ≠ 1) = true; simp [c]), ih, s, decide_eq_false (by simp [c])]
      rfl
    · rw [if_pos (by show decide (l.f ≠ 1) = true; simp [c])]
      show (decide (l.r = r) || hasR ((ls.map EK.fl).filter varE) r) = _
      rw [ih, s, decide_eq_true c, Bool.true_and]
theorem varE_fl {e : EK} (h : varE e = true) : ∃ l, e = .fl l := by
  cases e with
  | fl l => exact ⟨l, rfl⟩
  | _ => cases h
theorem hasR_snoc {es : List EK} {l : LF} {r : Str} : hasR (es ++ [.fl l]) r = (hasR es r || decide (l.r = r)) := by
  unfold hasR
  rw [List.any_append]
  simp
theorem KAt.ent {K : PySem.W.Frag} {H : Hp} {x : V} {e : EK} (h : KAt K H x e) : EntAt K H (fun a => H a ≠ none) x (entD e) := by
  cases e with
  | fl l =>
    obtain ⟨ok, f, p, rfl, ⟨dx, hf⟩, hu⟩ := h
    exact ⟨f, l.fa p, 1, l.m, rfl, ⟨dx, hf⟩, rfl, rfl, rfl, rfl, rfl, by decide, by decide, ok.m.1, ok.m.2, by decide, by decide⟩
  | op a b =>
    obtain ⟨p, rfl, hp⟩ := h
    exact ⟨.tup hp (by rw [hp]; exact fun z => nomatch z) (.cons (.str _) (.cons (.int _) (.cons (.int _) .nil))), shaped_op⟩
  | cl =>
    obtain ⟨p, rfl, hp⟩ := h
    exact ⟨.tup hp (by rw [hp]; exact fun z => nomatch z) (.cons (.str _) .nil), shaped_cl⟩
theorem KsAt.ents {K : PySem.W.Frag} {H : Hp} {xs : List V} {es : List EK} (h : KsAt K H xs es) : ∀ (i : Nat) (x : V), xs[i]? = some x → ∃ e, (es.map entD)[i]? = some e ∧ EntAt K H (fun a => H a ≠ none) x e := fun i x e => by
  obtain ⟨d, hd, hk⟩ := pr_at h e
  exact ⟨entD d, by rw [List.getElem?_map, hd]; rfl, hk.ent⟩
theorem badE_fields {rest : List EntD} : ∀ (ls : List LF) (i : Nat) (s : BS) (S : Int), s.dep = 1 → (s.has = none ∨ s.has = some false) → (∀ r, old s r 0 ≤ S) → 0 ≤ S → S + sumM ls ≤ 512 → (∀ l ∈ ls, 0 ≤ l.m) →
    ∃ s', s'.dep = 1 ∧ badE i s (ls.map (fun l => entD (.fl l)) ++ rest) = badE (i + ls.length) s' rest
  | [], i, s, S, h1, _, _, _, _, _ => ⟨s, h1, by simp⟩
  | l :: ls, i, s, S, h1, h2, h3, h4, h5, h6 => by
    have hm := h6 l List.mem_cons_self
    have hs : sumM (l :: ls) = l.m + sumM ls := rfl
    have hr : 0 ≤ sumM ls := by
      have : ∀ (ls : List LF), (∀ l ∈ ls, 0 ≤ l.m) → 0 ≤ sumM ls := by
        intro ls h
        induction ls with
        | nil => exact Int.le_refl _
        | cons a b ih =>
          have e : sumM (a :: b) = a.m + sumM b := rfl
          have h1 := h a List.mem_cons_self
          have h2 := ih fun l hl => h l (List.mem_cons_of_mem _ hl)
          omega
      exact this ls fun l hl => h6 l (List.mem_cons_of_mem _ hl)
    have ho := h3 l.r
    have st : stepE s (entD (.fl l)) = some ⟨s.dep, putK s.bits (kof l.r 0) (.int (old s l.r 0 + 1 * l.m)), some (decide ((0 : Int) < 0))⟩ := by
      show (if s.dep = 0 ∨ (s.has ≠ none ∧ s.has ≠ some (decide ((0 : Int) < 0))) ∨ 512 < old s l.r 0 + 1 * l.m then none else _) = _
      rw [if_neg]
      rintro (h | ⟨ha, hb⟩ | h)
      · omega
      · rcases h2 with h2 | h2
        · exact ha h2
        · exact hb h2
      · omega
    have e : badE i s (((l :: ls).map fun l => entD (.fl l)) ++ rest) = match stepE s (entD (.fl l)) with
      | none => some i
      | some s' => badE (i + 1) s' ((ls.map fun l => entD (.fl l)) ++ rest) := rfl
    rw [e, st]
    obtain ⟨s', d', e'⟩ := badE_fields (rest := rest) ls (i + 1) ⟨s.dep, putK s.bits (kof l.r 0) (.int (old s l.r 0 + 1 * l.m)), some (decide ((0 : Int) < 0))⟩ (S + l.m) h1 (.inr rfl) (fun r => by
      unfold old
      dsimp only
      rw [valV_put]
      by_cases c : kof r 0 = kof l.r 0
      · rw [if_pos c]
        show old s l.r 0 + 1 * l.m ≤ S + l.m
        omega
      · rw [if_neg c]
        have h := h3 r
        unfold old at h
        omega) (by omega) (by omega) fun l hl => h6 l (List.mem_cons_of_mem _ hl)
    refine ⟨s', d', e'.trans ?_⟩
    rw [List.length_cons, show i + 1 + ls.length = i + (ls.length + 1) by omega]
theorem isCl_op {a b : Int} : isCl (.tuple [.str "open", .int a, .int b]) = false := rfl
theorem badE_box {a b : Int} {ls : List LF} (ha : 0 ≤ a ∧ a ≤ 255) (hb : 0 ≤ b ∧ b ≤ 4294967295) (hm : ∀ l ∈ ls, 0 ≤ l.m) (hs : sumM ls ≤ 512) : badE 0 ⟨0, [], none⟩ ((box a b ls).map entD) = none := by
  have e : (box a b ls).map entD = .dt (.tuple [.str "open", .int a, .int b]) :: ((ls.map fun l => entD (.fl l)) ++ [.dt (.tuple [.str "close"])]) := by
    unfold box
    rw [List.map_cons, List.map_append, List.map_map]
    rfl
  have o : isOp (.tuple [.str "open", .int a, .int b]) = true := by
    rw [isOp_s, inI_int, inI_int, decide_eq_true ha.1, decide_eq_true ha.2, decide_eq_true hb.1, decide_eq_true hb.2]
    rfl
  rw [e]
  have st : stepE ⟨0, [], none⟩ (.dt (.tuple [.str "open", .int a, .int b])) = some ⟨1, [], none⟩ := by
    unfold stepE
    dsimp only
    rw [isCl_op, if_neg (by decide), o, if_neg (by decide)]
    rfl
  show (match stepE ⟨0, [], none⟩ (.dt (.tuple [.str "open", .int a, .int b])) with | none => some 0 | some s' => badE 1 s' _) = _
  rw [st]
  obtain ⟨s', d', e'⟩ := badE_fields (rest := [.dt (.tuple [.str "close"])]) ls 1 ⟨1, [], none⟩ 0 rfl (.inl rfl) (fun r => by
    show old ⟨1, [], none⟩ r 0 ≤ 0
    exact Int.le_refl 0) (by decide) (by omega) hm
  dsimp only
  rw [e']
  have st2 : stepE s' (.dt (.tuple [.str "close"])) = some { s' with dep := s'.dep - 1 } := by
    unfold stepE
    dsimp only
    rw [show isCl (.tuple [.str "close"]) = true from by decide +kernel, if_pos rfl, if_neg (by omega)]
  show (match stepE s' (.dt (.tuple [.str "close"])) with | none => some _ | some s' => badE _ s' []) = _
  rw [st2]
  show (if s'.dep - 1 = 0 then none else some _) = none
  rw [if_pos (by omega)]
def wLen (ls : List LF) : Nat := if ls = [] then 0 else ls.length + 2
end T61
end
section
set_option Elab.async false
set_option linter.all false
set_option maxRecDepth 100000
set_option maxHeartbeats 1000000
namespace T61
open PySem PySem.Spec PyProof.Rows L2 L2.RL
local macro_rules | `(tactic| walk_at "rl ty") => `(tactic| first
  | assumption
  | exact .base (.int _)
  | exact .base (.str _)
  | exact .base .non
  | exact .base (.bl _)
  | exact ty_sqT (by walk_at "rl hp")
  | exact ty_sqL (by walk_at "rl hp")
  | exact .base (.tup (by walk_at "rl hp"))
  | exact .base (.lst (by walk_at "rl hp"))
  | exact .base (.dK (by walk_at "rl hp")))
local macro_rules | `(tactic| walk_at "rl if") => `(tactic| first
  | with_reducible refine iteT' rfl ?_
  | with_reducible refine iteF' rfl ?_
  | (refine iteT' rfl ?_)
  | (refine iteF' rfl ?_))
local macro_rules | `(tactic| walk_at "rl side") => `(tactic| first | assumption | omega | (constructor <;> omega) | decide)
local macro_rules | `(tactic| walk_at "rl ne") => `(tactic| first
  | assumption
  | exact Ne.symm (by assumption)
  | walk_at "rl ne2"
  | exact ne_of (by assumption) (by walk_at "rl hq") (by intro z; cases z)
  | exact (ne_of (by assumption) (by walk_at "rl hq") (by intro z; cases z)).symm)
local macro_rules | `(tactic| walk_at "rl hq") => `(tactic| first
  | assumption
  | exact upd_same
  | (refine' upd_at ?rlne ?rlhq; (case rlne => walk_at "rl ne"); (case rlhq => walk_at "rl hq"))
  | (refine' Same.at ?rlsa ?rlhq; (case rlsa => assumption); (case rlhq => walk_at "rl hq"))
  | (refine' But.at ?rlbu ?rlne ?rlhq; (case rlbu => assumption); (case rlne => walk_at "rl ne"); (case rlhq => walk_at "rl hq")))
local macro_rules | `(tactic| walk_at "rl hp") => `(tactic| first
  | assumption
  | (refine' SqL.of ?rlhq; (case rlhq => walk_at "rl hq"))
  | (refine' SqT.of ?rlhq; (case rlhq => walk_at "rl hq"))
  | (refine' Same.seq ?rlsa ?rlhp; (case rlsa => assumption); (case rlhp => walk_at "rl hp"))
  | (refine' Same.sqT ?rlsa ?rlhp; (case rlsa => assumption); (case rlhp => walk_at "rl hp"))
  | walk_at "rl hp2"
  | walk_at "rl hq")
local macro_rules | `(tactic| walk_at "rl w1") => `(tactic| first
  | with_reducible refine w_seq ?_
  | ((with_reducible refine' w_var ?rlv ?_); (case rlv => exact rfl))
  | with_reducible refine w_c ?_
  | with_reducible refine w_op ?_
  | with_reducible refine w_I0 ?_
  | with_reducible refine w_asg ?_
  | ((with_reducible refine' w_gName ?_); dsimp only [List.set])
  | ((with_reducible refine' w_nxD ?rle ?_); (case rle => exact rfl))
  | ((with_reducible refine' w_rtD ?rle ?_); (case rle => exact rfl))
  | with_reducible refine w_next ?_
  | with_reducible refine w_ret ?_
  | with_reducible refine w_cons ?_
  | with_reducible refine w_nil ?_
  | with_reducible refine w_ifS ?_
  | with_reducible refine w_test ?_
  | with_reducible refine w_B ?_
  | with_reducible refine w_bl ?_
  | with_reducible refine w_bl1 ?_
  | with_reducible refine w_blR ?_
  | with_reducible refine w_eqI ?_
  | with_reducible refine w_neI ?_
  | with_reducible refine w_eqS ?_
  | with_reducible refine w_neS ?_
  | with_reducible refine w_eqB ?_
  | with_reducible refine w_neB ?_
  | with_reducible refine w_and ?_
  | with_reducible refine w_or ?_
  | with_reducible refine w_not ?_
  | with_reducible refine w_andV ?_
  | with_reducible refine w_orV ?_
  | with_reducible refine w_notV ?_
  | with_reducible refine w_if ?_
  | with_reducible refine w_chain ?_
  | with_reducible refine w_un ?_
  | with_reducible refine w_U ?_
  | ((with_reducible refine' w_I ?rlc ?_); (case rlc => walk_at "rl side"))
  | with_reducible refine w_drop ?_
  | with_reducible refine w_retN ?_
  | with_reducible refine w_par ?_
  | ((with_reducible refine' w_par2 ?_); dsimp only [List.set])
  | ((with_reducible refine' w_aug ?rla ?_); (case rla => exact rfl))
  | with_reducible refine w_ipI ?_
  | with_reducible refine w_break ?_
  | with_reducible refine w_cont ?_
  | ((with_reducible refine' w_bkD ?rle ?_); (case rle => exact rfl))
  | ((with_reducible refine' w_ctD ?rle ?_); (case rle => exact rfl))
  | with_reducible refine w_tup ?_
  | with_reducible refine w_lst ?_
  | ((with_reducible refine' w_newO ?rln ?_); (case rln => exact Nat.le_of_ble_eq_true rfl); intro _ _ _ _ _)
  | ((with_reducible refine' w_new ?rln ?_); (case rln => exact Nat.le_of_ble_eq_true rfl))
  | ((with_reducible refine' w_mk ?_); intro _ _ _ _ _)
  | ((with_reducible refine' w_gTup ?rls ?rll ?_); (case rls => walk_at "rl hp"); (case rll => exact rfl))
  | with_reducible refine w_gCons ?_
  | with_reducible refine w_gNil ?_
  | with_reducible refine w_gSub ?_
  | ((with_reducible refine' w_setL ?rls ?rlj ?_); (case rls => walk_at "rl hp"); (case rlj => exact rfl))
  | ((with_reducible refine' w_ixL ?rls ?rli ?_); (case rls => walk_at "rl hp"); (case rli => exact rfl))
  | ((with_reducible refine' w_ixT ?rls ?rli ?_); (case rls => walk_at "rl hp"); (case rli => exact rfl))
  | with_reducible refine w_call ?_
  | with_reducible refine w_trI ?_
  | with_reducible refine w_yes ?_
  | with_reducible refine w_trB ?_
  | with_reducible refine w_trN ?_
  | with_reducible refine w_cb ?_
  | with_reducible refine w_fld ?_
  | ((with_reducible refine' w_fld1 ?rlo ?rlc ?rln ?rll ?_); (case rlo => walk_at "rl hp"); (case rlc => assumption); (case rln => assumption); (case rll => exact rfl))
  | with_reducible refine w_isiO ?_
  | with_reducible refine w_isiT ?_
  | ((with_reducible refine' w_isi (r := true) ?rlt ?rlk ?_); (case rlt => walk_at "rl ty"); (case rlk => exact rfl))
  | ((with_reducible refine' w_isi (r := false) ?rlt ?rlk ?_); (case rlt => walk_at "rl ty"); (case rlk => exact rfl))
  | ((with_reducible refine' w_isi2 (r := true) ?rlT ?rlt ?rlk ?_); (case rlT => walk_at "rl hp"); (case rlt => walk_at "rl ty"); (case rlk => exact rfl))
  | ((with_reducible refine' w_isi2 (r := false) ?rlT ?rlt ?rlk ?_); (case rlT => walk_at "rl hp"); (case rlt => walk_at "rl ty"); (case rlk => exact rfl))
  | with_reducible refine w_sFld ?_
  | with_reducible refine w_itemsK ?_
  | ((with_reducible refine' w_catT ?rlha ?rlhb ?rln1 ?rln2 ?rlhl ?_); (case rlha => walk_at "rl hp"); (case rlhb => walk_at "rl hp"); (case rln1 => exact (fun z => nomatch z)); (case rln2 => exact (fun z => nomatch z)); (case rlhl => exact Nat.le_trans (Nat.le_of_ble_eq_true rfl) (show 100000 ≤ sizeLine by decide)))
  | ((with_reducible refine' w_newE ?_); intro _ _ _ _ _)
  | with_reducible refine w_makeK ?_
  | ((with_reducible refine' w_sFld1 ?rlc ?rln ?rll ?rle ?_); (case rlc => assumption); (case rln => assumption); (case rll => exact Nat.lt_of_lt_of_le (Nat.lt_succ_self _) (Nat.le_of_ble_eq_true rfl)); (case rle => exact rfl))
  | ((with_reducible refine' w_sFld0 ?rlx ?rlc ?rln ?rll ?rle ?_); (case rlx => walk_at "rl hq"); (case rlc => assumption); (case rln => assumption); (case rll => exact Nat.lt_of_lt_of_le (Nat.lt_succ_self _) (Nat.le_of_ble_eq_true rfl)); (case rle => exact rfl))
  | with_reducible refine w_rflA ?_
  | with_reducible refine w_for ?_
  | with_reducible refine w_iList ?_
  | with_reducible refine w_iTup ?_
  | ((with_reducible refine' w_overL ?rls ?_); (case rls => walk_at "rl hp"))
  | ((with_reducible refine' w_overT ?rls ?_); (case rls => walk_at "rl hp"))
  | with_reducible refine w_rng1 ?_
  | ((with_reducible refine' w_rng1a ?rl1 ?rl2 ?_); (case rl1 => omega); (case rl2 => omega))
  | with_reducible refine w_rng2 ?_
  | ((with_reducible refine' w_rng2a ?rl1 ?_); (case rl1 => omega))
  | with_reducible refine w_zip2 ?_
  | with_reducible refine w_lc ?_
  | with_reducible refine w_enS ?_
  | with_reducible refine w_callSD ?_
  | with_reducible refine w_xf ?_
  | ((with_reducible refine' w_dnew ?_); intro _ _ _ _ _)
  | ((with_reducible refine' w_disp1 ?_); intro _ _ _ _ _)
  | with_reducible refine w_bm ?_
  | ((with_reducible refine' w_tyL ?rls ?_); (case rls => walk_at "rl hp"))
  | ((with_reducible refine' w_append ?rls ?rll ?_); (case rls => walk_at "rl hq"); (case rll => exact Nat.lt_of_lt_of_le (Nat.lt_succ_self _) (Nat.le_of_ble_eq_true rfl)))
  | ((with_reducible refine' w_cat ?rls ?rlt ?rll ?_); (case rls => walk_at "rl hq"); (case rlt => walk_at "rl hq"); (case rll => exact Nat.le_of_ble_eq_true rfl); intro _ _ _ _ _)
  | with_reducible refine w_int1 ?_
  | ((with_reducible refine w_intb ?_); (try dsimp only))
  | with_reducible refine w_one ?_
  | with_reducible refine w_two ?_
  | ((with_reducible refine' w_lenL ?rls ?_); (case rls => walk_at "rl hp"))
  | ((with_reducible refine' w_lenT ?rls ?_); (case rls => walk_at "rl hp"))
  | with_reducible refine w_meth ?_
  | ((with_reducible refine' w_meth1 ?rlo ?rll ?_); (case rlo => walk_at "rl hp"); (case rll => exact rfl)))
local macro_rules | `(tactic| walk_at "rl wp") => `(tactic| (repeat walk_at "rl w1"))
local macro_rules | `(tactic| walk_at "rl but") => `(tactic| first
  | assumption
  | exact But.refl _ _
  | exact But.upd
  | exact But.of_same (by assumption)
  | (refine But.trans ?_ (But.of_same (by assumption)); walk_at "rl but")
  | (refine But.trans ?_ (by assumption : But _ _ _); walk_at "rl but")
  | (refine But.trans ?_ But.upd; walk_at "rl but"))
local macro_rules | `(tactic| walk_at "rl same") => `(tactic| first
  | assumption
  | exact Same.refl _
  | (refine Same.trans ?_ (by assumption : Same _ _); walk_at "rl same"))

local macro_rules | `(tactic| walk_at "rl wi") => `(tactic| (repeat (first
  | walk_at "rl w1"
  | ((with_reducible refine' iteF' ?rlif ?_); (case rlif => exact rfl))
  | ((with_reducible refine' iteT' ?rlif ?_); (case rlif => exact rfl)))))
local macro_rules | `(tactic| walk_at "rl ty") => `(tactic| exact .base (.dK (by assumption)))
local macro_rules | `(tactic| walk_at "rl ty") => `(tactic| exact .base (.lst (by assumption)))
local macro_rules | `(tactic| walk_at "rl ty") => `(tactic| exact .base (.tup (by assumption)))
local macro_rules | `(tactic| walk_at "rl w1") => `(tactic| first
  | with_reducible refine w_par3 ?_
  | ((with_reducible refine' w_par3a ?_); dsimp only [List.set])
  | with_reducible refine w_dget ?_
  | ((with_reducible refine' w_dgetS ?rls ?rlv ?_); (case rls => walk_at "rl hq"); (case rlv => exact rfl))
  | ((with_reducible refine' w_dgetI ?rls ?rlv ?_); (case rls => walk_at "rl hq"); (case rlv => exact rfl))
  | with_reducible refine w_dget2 ?_
  | ((with_reducible refine' w_isD ?rls ?_); (case rls => walk_at "rl hq"))
  | ((with_reducible refine' w_dget2S ?rls ?_); (case rls => walk_at "rl hq"))
  | ((with_reducible refine' w_dget2I ?rls ?_); (case rls => walk_at "rl hq"))
  | ((with_reducible refine' w_setDS ?rls ?rll ?rlm ?_); (case rls => walk_at "rl hq"); (case rll => exact Nat.lt_of_lt_of_le (Nat.lt_succ_self _) (Nat.le_of_ble_eq_true rfl)); (case rlm => exact rfl))
  | ((with_reducible refine' w_tyD ?rls ?_); (case rls => walk_at "rl hq"))
  | with_reducible refine w_jNil ?_
  | with_reducible refine w_jCons ?_
  | with_reducible refine w_prop ?_
  | with_reducible refine w_makeKS ?_
  | with_reducible refine w_pNil ?_
  | with_reducible refine w_pCons ?_
  | ((with_reducible refine' w_dispN ?_); intro _ _ _ _ _))

local macro_rules | `(tactic| walk_at "rl w1") => `(tactic| ((with_reducible refine' w_dispP ?_); intro _ _ _ _ _))
local macro_rules | `(tactic| walk_at "rl w1") => `(tactic| with_reducible refine w_ifT ?_)
local macro_rules | `(tactic| walk_at "rl w1") => `(tactic| ((with_reducible refine' w_dgS ?rls ?rlv ?_); (case rls => walk_at "rl hq"); (case rlv => exact rfl)))

local macro_rules | `(tactic| walk_at "rl w1") => `(tactic| first
  | with_reducible refine w_din ?_
  | ((with_reducible refine' w_dinI ?rls ?_); (case rls => walk_at "rl hq"))
  | ((with_reducible refine' w_dinT ?rls ?rlt ?_); (case rls => walk_at "rl hq"); (case rlt => walk_at "rl hq"))
  | with_reducible refine w_callN ?_)

local macro_rules | `(tactic| walk_at "rl w1") => `(tactic| ((with_reducible refine' w_dnewT ?_); intro _ _ _ _ _))
local macro_rules | `(tactic| walk_at "rl w1") => `(tactic| with_reducible refine w_enm ?_)

theorem w_makeC {C : Addr} {sp : Sp} {dvs : List V} {E : XK} {t : TA} {σ : L2.St} {H : Hp} {Q : VK} (h : t σ H fun vs H1 => ∀ x dx, H1 x = none → H1 dx = none → dx ≠ x → sp (.ref x :: (vs ++ dvs)) (L2.upd (L2.upd H1 dx (.own x)) x (.ins C dx [])) (fun v H2 => v = .non ∧ Q (.ref x) H2) E) : L2.tMake C sp dvs E t σ H Q := h
theorem fresh_same {p : Addr} {H H1 : Hp} (s : Same H H1) (h : H1 p = none) : H p = none := by
  cases e : H p with
  | none => rfl
  | some o =>
    rw [s _ _ e] at h
    cases h
def spCut (K : PySem.W.Frag) : Sp := fun vs H Q E => ∃ (B : Addr → Prop) (la t dx : Addr) (xs : List V) (a b : Int) (fs : List LF) (u : V) (d : PyData), vs = [.ref la, u] ∧ H la = some (.ins (He.ga K "Layout") dx [("all_entries", .ref t)]) ∧ H t = some (.tup xs) ∧ KsAt K H xs (box a b fs) ∧ fs.length ≤ 398 ∧
  (0 ≤ a ∧ a ≤ 255) ∧ (0 ≤ b ∧ b ≤ 4294967295) ∧ Dq H B u d ∧ (∀ m, d ≠ .dict m) ∧
  (∀ d', lookBad d = some d' → ∀ y e H', Same H H' → Dq H' B y d' → H' e = some (.xd [("usage", y)]) → E (.ref (He.ga K "NoUsage")) (some e) H') ∧
  (lookBad d = none → ∃ us : List Int, (d = .list (us.map PyData.int) ∨ d = .tuple (us.map PyData.int)) ∧ us.length ≤ 100 ∧ (ctF (keptB (kvsOf us)) fs).length ≤ 1000 ∧ (∀ l ∈ ctF (keptB (kvsOf us)) fs, 0 ≤ l.m) ∧ sumM (leftF (ctF (keptB (kvsOf us)) fs)) ≤ 512 ∧
    (400 < wLen (leftF (ctF (keptB (kvsOf us)) fs)) → ∀ e H', Same H H' → H' e = some (.xd [("what", .str "entries")]) → E (.ref (He.ga K "TooMany")) (some e) H') ∧
    (wLen (leftF (ctF (keptB (kvsOf us)) fs)) ≤ 400 → ∀ x H', Same H H' → Q x H'))
theorem dq_ints {H : Hp} {B : Addr → Prop} : ∀ {us : List Int} {xs : List V}, DqAll H B xs (us.map PyData.int) → xs = us.map V.int
  | [], xs, h => by cases h; rfl
  | u :: us, xs, h => by
    cases h with
    | cons h1 h2 => cases h1; rw [dq_ints h2]; rfl
theorem kvsOf_take {us : List Int} {i : Nat} {u : Int} (h : us[i]? = some u) : kvsOf (us.take (i + 1)) = putK (kvsOf (us.take i)) (.inl u) (.bl true) := by
  unfold kvsOf
  rw [List.take_succ, h, List.foldl_append]
  rfl
theorem wOut_len {ls : List LF} {a b : Int} {K : PySem.W.Frag} {H : Hp} {xs : List V} (h : KsAt K H xs (box a b ls)) : (wOut ls xs).length = wLen ls := by
  unfold wOut wLen
  split
  · rfl
  · rw [pr_len h, box_len]
theorem KsAt.snoc {K : PySem.W.Frag} {H : Hp} {xs : List V} {es : List EK} {x : V} {e : EK} (h : KsAt K H xs es) (hx : KAt K H x e) : KsAt K H (xs ++ [x]) (es ++ [e]) := Paired.snoc h hx
theorem ksFs {K : PySem.W.Frag} {H : Hp} {xs : List V} {ls : List LF} (h : FsAt K H xs ls) : KsAt K H xs (ls.map EK.fl) := by
  induction h with
  | nil => exact .nil
  | cons h _ ih => exact .cons h ih
theorem KsAt.app {K : PySem.W.Frag} {H : Hp} {xs ys : List V} {es fs : List EK} (h : KsAt K H xs es) (k : KsAt K H ys fs) : KsAt K H (xs ++ ys) (es ++ fs) := by
  induction h with
  | nil => exact k
  | cons h _ ih => exact .cons h ih
theorem KAt.upd {K : PySem.W.Frag} {H : Hp} {x : V} {l : Addr} {ys : List V} {o : HO} {e : EK} (hl : H l = some (.lst ys)) (h : KAt K H x e) : KAt K (L2.upd H l o) x e := KAt.but But.upd hl h
theorem KsAt.upd {K : PySem.W.Frag} {H : Hp} {xs : List V} {l : Addr} {ys : List V} {o : HO} {es : List EK} (hl : H l = some (.lst ys)) (h : KsAt K H xs es) : KsAt K (L2.upd H l o) xs es := KsAt.but But.upd hl h
theorem same_updL {H H2 : Hp} {L : Addr} {o : HO} (n : H L = none) (s : Same H H2) : Same H (L2.upd H2 L o) := Same.updN n s
theorem sc_TooMany___init__ : FnScope ["self", "what"] ["self", "what"] (defScope ((inClass (top 8) 0))) := ⟨rfl, rfl, rfl, by decide +kernel, rfl, by decide +kernel, by decide +kernel⟩
theorem ok_TooMany___init__ {P : Program} {w : World} {K : PySem.W.Frag} {mg : Str → Option Value} {base : Heap} (T : TT K mg)    : Lm P w K mg base CX0 1 "TooMany" "__init__" ["self", "what"] [] (spErrS (He.ga K "TooMany") "what") := by
  obtain ⟨fd, F⟩ := T.d_TooMany___init__
  refine ⟨⟨fd, [], F.ok sc_TooMany___init__ (fun vs H Q E h => ?_) (fun cdv A outer s H vs Q E hr h => ?_), FunD.bindsN F (fun _ _ _ _ _ _ us hl => match us, hl with | [_, _], _ => rfl), .nil⟩⟩
  · obtain ⟨a, x, rfl, _⟩ := h
    rfl
  · obtain ⟨a, x, rfl, hf, ha, q⟩ := h
    have h0 := of_decide_eq_true (Bool.and_eq_true_iff.mp hf).1
    have hl : x.length ≤ sizeLine := by
      have h2 : (100 : Nat) ≤ sizeLine := by decide
      omega
    have hj : (Str.empty ++ "too many " ++ x : Str).length ≤ sizeLine := by
      have h2 : (200 : Nat) ≤ sizeLine := by decide
      rw [PySem.Str.length_append]
      have h3 : (Str.empty ++ "too many " : Str).length = 9 := by decide +kernel
      omega
    refine ⟨_, PSs.nox ((pss_cons (ps_expr (pe_binit errO rfl (by rfl) T.m_OverflowError T.fc_OverflowError (pa_cons (pv 0) (pa_cons (pe_joined (.cons pe_str (.cons (pe_fmt (pv 1)) .nil))) pa_nil)))) (pss_one (ps_setB errO (pv 0) (pv 1))))), ?_⟩; rw [start_2_2]; try dsimp only [cxOf]
    walk_at "rl wp"
    refine w_bi ?_
    walk_at "rl wp"
    refine ⟨_, rfl, by decide +kernel, ?_⟩
    walk_at "rl wp"
    refine w_fmt ?_
    walk_at "rl wp"
    refine .inl ⟨x, rfl, hl, x, rfl, hj, ?_⟩
    walk_at "rl wp"
    refine w_bi1 T.ob_TooMany (Nat.le_of_ble_eq_true rfl) ha ?_
    walk_at "rl wp"
    refine w_setB ?_
    walk_at "rl wp"
    exact ⟨a, _, rfl, T.ob_TooMany, T.xn_TooMany_what, .inl ⟨ha, fun dx n1 n2 => q dx _ n1 n2 rfl⟩⟩
theorem sc_cut : FnScope ["layout", "usages", "kept", "entries", "entry", "fields", "used", "found", "usage", "field", "one"] ["layout", "usages"] (defScope (top 75)) := ⟨rfl, rfl, rfl, by decide +kernel, rfl, by decide +kernel, by decide +kernel⟩
theorem ok_cut {P : Program} {w : World} {K : PySem.W.Frag} {mg : Str → Option Value} {base : Heap} (T : TT K mg) (D_look_usages : Ld P w K mg base (L2.CX P w) 3 "look_usages" ["usages"] [] (spLook K)) (D_cut_field : Ld P w K mg base CX0 8 "cut_field" ["field", "kept"] [] (spCutField K)) (D_Field_style : Lq P w K mg base CX0 1 "Field" "style" ["self"] [] (spStyle K)) (D_Layout_entries : Lq P w K mg base CX0 1 "Layout" "entries" ["self"] [] (spEntries K)) (D_without_empty : Ld P w K mg base CX0 2 "without_empty" ["entries"] [] (spWithout K)) (D_TooMany___init__ : Lm P w K mg base CX0 1 "TooMany" "__init__" ["self", "what"] [] (spErrS (He.ga K "TooMany") "what")) (D_Layout___init__ : Lm P w K mg base CX0 5 "Layout" "__init__" ["self", "entries"] [] (spLayInit K))   : Ld P w K mg base (L2.CX P w) 9 "cut" ["layout", "usages"] [] (spCut K) := by
  obtain ⟨⟨fd_look_usages, ds_look_usages, F_look_usages, b_look_usages, v_look_usages⟩, g_look_usages, k_look_usages⟩ := D_look_usages
  obtain ⟨⟨fd_cut_field, ds_cut_field, F_cut_field, b_cut_field, v_cut_field⟩, g_cut_field, k_cut_field⟩ := D_cut_field
  obtain ⟨⟨fd_Field_style, ds_Field_style, F_Field_style, b_Field_style, v_Field_style⟩⟩ := D_Field_style
  obtain ⟨⟨fd_Layout_entries, ds_Layout_entries, F_Layout_entries, b_Layout_entries, v_Layout_entries⟩⟩ := D_Layout_entries
  obtain ⟨⟨fd_without_empty, ds_without_empty, F_without_empty, b_without_empty, v_without_empty⟩, g_without_empty, k_without_empty⟩ := D_without_empty
  obtain ⟨⟨fd_TooMany___init__, ds_TooMany___init__, F_TooMany___init__, b_TooMany___init__, v_TooMany___init__⟩⟩ := D_TooMany___init__
  obtain ⟨⟨fd_Layout___init__, ds_Layout___init__, F_Layout___init__, b_Layout___init__, v_Layout___init__⟩⟩ := D_Layout___init__
  obtain ⟨fd, F⟩ := T.d_cut
  refine ⟨⟨fd, [], F.ok sc_cut (fun vs H Q E h => ?_) (fun cdv A outer s H vs Q E hr h => ?_), FunD.bindsN F (fun _ _ _ _ _ _ us hl => match us, hl with | [_, _], _ => rfl), .nil⟩, T.g_cut, F.kp⟩
  · obtain ⟨B, la, t, dx, xs, a, b, fs, u, d, rfl, _⟩ := h
    rfl
  · obtain ⟨B, la, t, dx, xs, a, b, fs, u, d, rfl, hla, ht, hks, hfl, hab, hbb, hd, hnd, qe, qn⟩ := h
    have c_F := T.c_Field
    have n_role := T.n_Field_role
    have n_number := T.n_Field_number
    have n_flags := T.n_Field_flags
    have n_size := T.n_Field_size
    have n_amount := T.n_Field_amount
    have n_low := T.n_Field_low
    have n_high := T.n_Field_high
    have n_plow := T.n_Field_plow
    have n_phigh := T.n_Field_phigh
    have n_exponent := T.n_Field_exponent
    have n_unit := T.n_Field_unit
    have n_usages := T.n_Field_usages
    have c_L := T.c_Layout
    have n_all := T.n_Layout_all_entries

    have iF1 := T.ic_Field
    have iF2 := T.ig_Field
    have iF3 := T.it_Field
    have iF4 := T.im_Field
    have iF5 := T.if_Field

    have ino0 := T.ino_tuple
    refine ⟨_, (pss_cons (ps_expr (pe_call F_look_usages (hr.mono (by decide)) (by rfl) g_look_usages k_look_usages b_look_usages v_look_usages (passes_call (takes_of rfl rfl rfl rfl) (fun _ _ _ _ h => h)) (pa_cons (pv 1) pa_nil))) (pss_cons (ps_par (i := 2) (j := 3) (by rfl) sc_cut.nd rfl rfl (by decide) rfl rfl (pa_cons (by exact (pe_dc (own := [("usage", 8)]) rfl sc_cut.nd (pi_seq (pv 1)) (blkOk_by (own := [("usage", 8)]) (N := ["layout", "usages", "kept", "entries", "entry", "fields", "used", "found", "usage", "field", "one"]) (sc := defScope (top 75)) (by decide +kernel)) (fun _ _ _ _ _ => by exact (pg_name (i := 8) sc_cut.nd rfl (by first | exact Or.inl rfl | exact Or.inr rfl))) (fun _ _ _ _ _ => by exact pts_nil) (fun _ _ _ _ _ => by exact (pv 8)) (fun _ _ _ _ _ => by exact pe_bl))) (pa_cons (pe_lst pa_nil) pa_nil)) (by rfl)) (pss_cons (ps_for (passes_of rfl) rfl (pi_tup (pe_prop (pv 0) T.c_Layout T.pp_Layout_entries F_Layout_entries (hr.mono (by decide)) b_Layout_entries v_Layout_entries pass0 (by rfl))) (pg_name (i := 4) sc_cut.nd rfl (by first | exact Or.inl rfl | exact Or.inr rfl)) (pss_one (ps_aug (i := 3) sc_cut.nd rfl (by first | exact Or.inl rfl | exact Or.inr rfl) (pe_ifExp (pt_val (pe_callB (call_isiE (K := K) rfl) (by rfl) T.m_isinstance (by decide +kernel) (pa_cons (pv 4) (pa_cons (pe_glob rfl (T.g_Field) (show RelV (.ref (He.ga K "Field")) _ from rfl)) pa_nil)))) (pe_call F_cut_field hr (by rfl) g_cut_field k_cut_field b_cut_field v_cut_field pass0 (pa_cons (pv 4) (pa_cons (pv 2) pa_nil))) (pe_lst (pa_cons (pv 4) pa_nil))) iop_ext))) (pss_cons (by exact (ps_setLc (i := 5) (own := [("entry", 4)]) rfl sc_cut.nd rfl rfl (sw_true rfl rfl rfl (by decide +kernel)) (pi_list (pv 3)) (blkOk_by (own := [("entry", 4)]) (N := ["layout", "usages", "kept", "entries", "entry", "fields", "used", "found", "usage", "field", "one"]) (sc := defScope (top 75)) (by decide +kernel)) (fun _ _ _ _ _ => by exact (pg_name (i := 4) sc_cut.nd rfl (by first | exact Or.inl rfl | exact Or.inr rfl))) (fun _ _ _ _ _ => by exact (pts_one (PW.pt (pw_and (pt_val (pe_callB (call_isiE (K := K) rfl) (by rfl) T.m_isinstance (by decide +kernel) (pa_cons (pv 4) (pa_cons (pe_glob rfl (T.g_Field) (show RelV (.ref (He.ga K "Field")) _ from rfl)) pa_nil)))) (pw_and1 (pt_cmpR op_ne (pe_prop (pv 4) T.c_Field T.pp_Field_style F_Field_style (hr.mono (by decide)) b_Field_style v_Field_style pass0 (by rfl)) pe_str (nomark _))))))) (fun _ _ _ _ _ => by exact (pv 4)))) (pss_cons (ps_set (i := 6) sc_cut.nd rfl (by first | exact Or.inl rfl | exact Or.inr rfl) (by exact (pe_dcT (own := [("field", 9)]) (room_u1 hr) rfl sc_cut.nd (pi_list (pv 5)) (blkOk_by (own := [("field", 9)]) (N := ["layout", "usages", "kept", "entries", "entry", "fields", "used", "found", "usage", "field", "one"]) (sc := defScope (top 75)) (by decide +kernel)) (fun _ _ _ _ _ => by exact (pg_name (i := 9) sc_cut.nd rfl (by first | exact Or.inl rfl | exact Or.inr rfl))) (fun _ _ _ _ _ => by exact pts_nil) (fun _ _ _ _ _ => by exact (pe_tup (pa_cons (pe_fldE (K := K) rfl (pv 9) rfl) (pa_cons (pe_fldE (K := K) rfl (pv 9) rfl) pa_nil)))) (fun _ _ _ _ _ => by exact pe_bl)))) (pss_cons (ps_set (i := 7) sc_cut.nd rfl (by first | exact Or.inl rfl | exact Or.inr rfl) (pe_call F_without_empty (hr.mono (by decide)) (by rfl) g_without_empty k_without_empty b_without_empty v_without_empty pass0 (pa_cons (by exact (pe_lc (own := [("one", 10)]) rfl sc_cut.nd (pi_list (pv 3)) (blkOk_by (own := [("one", 10)]) (N := ["layout", "usages", "kept", "entries", "entry", "fields", "used", "found", "usage", "field", "one"]) (sc := defScope (top 75)) (by decide +kernel)) (fun _ _ _ _ _ => by exact (pg_name (i := 10) sc_cut.nd rfl (by first | exact Or.inl rfl | exact Or.inr rfl))) (fun _ _ _ _ _ => by exact (pts_one (PW.pt (pw_or (pt_not (pt_val (pe_callB (call_isiE (K := K) rfl) (by rfl) T.m_isinstance (by decide +kernel) (pa_cons (pv 10) (pa_cons (pe_glob rfl (T.g_Field) (show RelV (.ref (He.ga K "Field")) _ from rfl)) pa_nil))))) (pw_or1 (pt_cmp (pc_din (room_u1 hr) (pe_tup (pa_cons (pe_fldE (K := K) rfl (pv 10) rfl) (pa_cons (pe_fldE (K := K) rfl (pv 10) rfl) pa_nil))) (pv 6)) (by rfl))))))) (fun _ _ _ _ _ => by exact (pv 10)))) pa_nil))) (pss_cons (ps_if (pt_cmpR op_gt (pe_callB call_len_seq (by rfl) T.m_len PySem.boot_len (pa_cons (pv 7) pa_nil)) (pe_glob rfl (T.i_MOST_ENTRIES_changes).choose_spec (show RelV (.int (400)) _ from ⟨_, rfl⟩)) (nomark _)) (pss_one (ps_raise rfl (takes_of rfl rfl rfl rfl) (pmk_oexB errO T.ob_TooMany T.ie_TooMany T.ti_TooMany F_TooMany___init__ (hr.mono (by decide)) b_TooMany___init__ v_TooMany___init__ pass0 (by rfl) T.g_TooMany (pa_cons pe_str pa_nil)))) pss_nil) (pss_one (ps_ret (pe_make T.mk_Layout F_Layout___init__ (hr.mono (by decide)) (by rfl) T.g_Layout b_Layout___init__ v_Layout___init__ pass0 (pa_cons (pv 7) pa_nil))))))))))), ?_⟩; rw [start_11_2]; try dsimp only [cxOf]
    walk_at "rl wp"
    refine ⟨B, u, d, rfl, hd, hnd, fun hlb H1 s1 => ?_, fun d' hl y e H' s hy he => qe d' hl y e H' s hy he⟩
    obtain ⟨us, hus, hul, hcl, hcm, hcs, q1, q2⟩ := qn hlb
    generalize hkv : kvsOf us = kvs at hcl hcm hcs q1 q2
    have hd1 := hd.same s1
    have hxl : xs.length = fs.length + 2 := by rw [pr_len hks, box_len]
    (first | with_reducible refine w_nxD rfl ?_ | skip)
    refine w_cut (fun σ' H' => Same H H' ∧ ∃ k e0, σ' = [some (.ref la), some u, some (.ref k), some (.ref e0), none, none, none, none, none, none, none] ∧ H' k = some (.dK kvs) ∧ H e0 = none ∧ H' e0 = some (.lst [])) (fun N hN => ?_) ?_
    · walk_at "rl wp"
      refine w_dc ?_
      rcases hus with rfl | rfl
      · cases hd1 with
        | lst e nb ha =>
          rename_i p ys
          obtain rfl := dq_ints ha
          refine .inl ?_
          walk_at "rl wp"
          refine w_dcS (xs := us.map V.int) (fun D i kv H2 => Same H1 H2 ∧ kv = kvsOf (us.take i)) (fun D i kv H2 ⟨sm, _⟩ => seqL (SqL.of (sm _ _ e))) (fun D n => ⟨same_upd n, rfl⟩) ?_ ?_
          · rintro D i kv x H2 nD hx eD hlen ⟨sm, rfl⟩
            rw [List.getElem?_map] at hx
            obtain ⟨z, hz, rfl⟩ := Option.map_eq_some_iff.mp hx
            walk_at "rl wp"
            refine ⟨rfl, ?_⟩
            dsimp only [wipe, List.map, List.foldl, List.set]
            walk_at "rl wi"
            refine ⟨_, .inl z, rfl, eD, ?_, _, upd_same, ?_, Same.updN nD sm, (kvsOf_take hz).symm⟩
            · have hi := (List.getElem?_eq_some_iff.mp hz).1
              have : (2000 : Nat) ≤ sizeLine := by decide
              omega
            · exact Nat.le_trans (length_putK _ _ _) (Nat.succ_le_succ hlen)
          · rintro D kv H2 nD eD ⟨sm, rfl⟩
            rw [List.length_map, List.take_length, hkv] at eD
            walk_at "rl wi"
            rename_i e0 H3 n0 s3 h3
            exact hN _ _ ⟨(s1.trans sm).trans s3, D, e0, rfl, s3 _ _ eD, fresh_same (s1.trans sm) n0, h3⟩
      · cases hd1 with
        | tup e nb ha =>
          rename_i p ys
          obtain rfl := dq_ints ha
          refine .inr ?_
          walk_at "rl wp"
          refine w_dcS (xs := us.map V.int) (fun D i kv H2 => Same H1 H2 ∧ kv = kvsOf (us.take i)) (fun D i kv H2 ⟨sm, _⟩ => seqT (SqT.of (sm _ _ e))) (fun D n => ⟨same_upd n, rfl⟩) ?_ ?_
          · rintro D i kv x H2 nD hx eD hlen ⟨sm, rfl⟩
            rw [List.getElem?_map] at hx
            obtain ⟨z, hz, rfl⟩ := Option.map_eq_some_iff.mp hx
            walk_at "rl wp"
            refine ⟨rfl, ?_⟩
            dsimp only [wipe, List.map, List.foldl, List.set]
            walk_at "rl wi"
            refine ⟨_, .inl z, rfl, eD, ?_, _, upd_same, ?_, Same.updN nD sm, (kvsOf_take hz).symm⟩
            · have hi := (List.getElem?_eq_some_iff.mp hz).1
              have : (2000 : Nat) ≤ sizeLine := by decide
              omega
            · exact Nat.le_trans (length_putK _ _ _) (Nat.succ_le_succ hlen)
          · rintro D kv H2 nD eD ⟨sm, rfl⟩
            rw [List.length_map, List.take_length, hkv] at eD
            walk_at "rl wi"
            rename_i e0 H3 n0 s3 h3
            exact hN _ _ ⟨(s1.trans sm).trans s3, D, e0, rfl, s3 _ _ eD, fresh_same (s1.trans sm) n0, h3⟩
    rintro σ' H2 ⟨s2, k, e0, rfl, hk2, n0, he2⟩
    clear hd1 hus hkv hul
    have hla2 := s2 _ _ hla
    have ht2 := s2 _ _ ht
    have hks2 := hks.same s2
    obtain ⟨cs, hcs0⟩ : ∃ cs, cs = ctF (keptB kvs) fs := ⟨_, rfl⟩
    rw [← hcs0] at hcl hcm hcs q1 q2
    refine w_cut (fun σ' H' => But e0 H2 H' ∧ ∃ (acc : List V) (y : Option V), σ' = [some (.ref la), some u, some (.ref k), some (.ref e0), y, none, none, none, none, none, none] ∧ H' e0 = some (.lst acc) ∧ KsAt K H' acc (box a b cs)) (fun N hN => ?_) ?_
    · walk_at "rl wp"
      refine ⟨la, dx, _, rfl, hla2, (fun a => H2 a ≠ none), la, xs, (box a b fs).map entD, rfl, ⟨dx, t, hla2, ht2, by rw [List.length_map, box_len, hxl], by rw [List.length_map, box_len]; omega, hks2.ents⟩, fun t' ht' => ?_⟩
      walk_at "rl wp"
      have ne0 : ∀ {z : Addr} {o : HO}, H2 z = some o → (∀ ys, o ≠ .lst ys) → z ≠ e0 := fun hz ho e => by rw [e, he2] at hz; cases hz; exact ho _ rfl
      refine w_forS (fun i σ' H' => But e0 H2 H' ∧ ∃ (acc : List V) (y : Option V), σ' = [some (.ref la), some u, some (.ref k), some (.ref e0), y, none, none, none, none, none, none] ∧ H' e0 = some (.lst acc) ∧ KsAt K H' acc (((box a b fs).take i).flatMap (cutE (keptB kvs)))) (fun i σ' H' ⟨bt, _⟩ => seqT (SqT.of (bt _ _ (ne0 ht' (fun _ z => nomatch z)) ht'))) ⟨But.refl _ _, [], none, rfl, he2, .nil⟩ ?_ ?_
      · rintro i x σ' H' hx ⟨bt, acc, y, rfl, heo, hacc⟩
        obtain ⟨e, he, hke⟩ := pr_at hks2 hx
        have hke := KAt.but bt he2 hke
        have hkd := bt _ _ (ne0 hk2 (fun _ z => nomatch z)) hk2
        have hfs := flat_take (f := cutE (keptB kvs)) he
        have hle : ((((box a b fs).take (i + 1)).flatMap (cutE (keptB kvs)))).length ≤ cs.length + 2 := Nat.le_trans flat_le (by rw [flat_box, box_len, hcs0]; exact Nat.le_refl _)
        rw [hfs] at hle ⊢
        rw [List.length_append] at hle
        have hal := pr_len hacc
        cases e with
        | fl l =>
          obtain ⟨ok, g, p, rfl, ⟨dg, hg⟩, hu⟩ := id hke
          walk_at "rl wp"
          refine ⟨.ref g, .ref (He.ga K "Field"), .ref (He.ga K "Field"), .ref (He.ga K "Field"), true, rfl, .own _, .base (.ins hg c_F iF1 iF2 iF3 iF4), iF5, ?_⟩
          walk_at "rl wi"
          refine ⟨_, l, k, kvs, rfl, hke, hkd, fun l2 xs2 H3 s3 hl2 hxs2 => ?_⟩
          have hl2n := pr_len hxs2
          have hl3 : ((cutE (keptB kvs) (.fl l))).length = xs2.length := by rw [hl2n]; show ((cutF (keptB kvs) l).map EK.fl).length = _; rw [List.length_map]
          walk_at "rl wp"
          refine w_ext (s3 _ _ heo) hl2 (by omega) ?_
          walk_at "rl wp"
          exact ⟨(bt.trans (But.of_same s3)).trans But.upd, _, _, rfl, upd_same, KsAt.upd (s3 _ _ heo) ((hacc.same s3).app (ksFs hxs2))⟩
        | op c d2 =>
          obtain ⟨p, rfl, hp⟩ := id hke
          walk_at "rl wp"
          refine ⟨.ref p, .ref (He.ga K "Field"), .type "tuple", .ref (He.ga K "Field"), false, rfl, .own _, .base (.tup hp), ino0, ?_⟩
          walk_at "rl wi"
          rename_i l2 H3 n3 s3 hl2
          refine w_ext (s3 _ _ heo) hl2 (by show acc.length + 1 ≤ _; omega) ?_
          walk_at "rl wp"
          exact ⟨(bt.trans (But.of_same s3)).trans But.upd, _, _, rfl, upd_same, KsAt.upd (s3 _ _ heo) ((hacc.same s3).snoc (hke.same s3))⟩
        | cl =>
          obtain ⟨p, rfl, hp⟩ := id hke
          walk_at "rl wp"
          refine ⟨.ref p, .ref (He.ga K "Field"), .type "tuple", .ref (He.ga K "Field"), false, rfl, .own _, .base (.tup hp), ino0, ?_⟩
          walk_at "rl wi"
          rename_i l2 H3 n3 s3 hl2
          refine w_ext (s3 _ _ heo) hl2 (by show acc.length + 1 ≤ _; omega) ?_
          walk_at "rl wp"
          exact ⟨(bt.trans (But.of_same s3)).trans But.upd, _, _, rfl, upd_same, KsAt.upd (s3 _ _ heo) ((hacc.same s3).snoc (hke.same s3))⟩
      · rintro σ' H' ⟨bt, acc, y, rfl, heo, hacc⟩
        rw [hxl, List.take_of_length_le (by rw [box_len]; exact Nat.le_refl _), flat_box, ← hcs0] at hacc
        exact hN _ _ ⟨bt, acc, y, rfl, heo, hacc⟩
    rintro σ' H3 ⟨bt, acc, y, rfl, heo, hacc⟩
    have s3 : Same H H3 := same_but s2 n0 bt
    clear bt he2 hk2 hla2 ht2 hks2 s2
    have hal : acc.length = cs.length + 2 := by rw [pr_len hacc, box_len]
    refine w_cut (fun σ' H' => Same H3 H' ∧ ∃ (ff : Addr) (vs : List V), σ' = [some (.ref la), some u, some (.ref k), some (.ref e0), y, some (.ref ff), none, none, none, none, none] ∧ H' ff = some (.lst vs) ∧ KsAt K H' vs ((box a b cs).filter varE)) (fun N hN => ?_) ?_
    · walk_at "rl wp"
      refine w_lcSL (xs := acc) (fun L i vs H2 => Same H3 H2 ∧ KsAt K H2 vs (((box a b cs).take i).filter varE)) (fun L i vs H2 ⟨sm, _⟩ => seqL (SqL.of (sm _ _ heo))) (fun L n => ⟨same_upd n, .nil⟩) ?_ ?_
      · rintro L i vs x H7 nL hx eL hlen ⟨sm7, hvs⟩
        obtain ⟨e, he, hke⟩ := pr_at hacc hx
        have hke := KAt.same sm7 hke
        have hft := filter_take (f := varE) he
        have hi : i < acc.length := (List.getElem?_eq_some_iff.mp hx).1
        walk_at "rl wp"
        refine ⟨rfl, ?_⟩
        dsimp only [wipe, List.map, List.foldl, List.set]
        cases e with
        | fl l =>
          obtain ⟨ok, g, p, rfl, ⟨dg, hg⟩, hu⟩ := id hke
          walk_at "rl wp"
          refine ⟨.ref g, .ref (He.ga K "Field"), .ref (He.ga K "Field"), .ref (He.ga K "Field"), true, rfl, .own _, .base (.ins hg c_F iF1 iF2 iF3 iF4), iF5, ?_⟩
          walk_at "rl wi"
          refine ⟨g, dg, _, rfl, hg, g, _, l.f, rfl, ⟨dg, hg⟩, rfl, ?_⟩
          rcases ok.f with ⟨e1, _⟩ | ⟨e1, _⟩
          · rw [e1, show styleOf 1 = "constant" from by decide +kernel]
            rw [if_neg (by show ¬ decide (l.f ≠ 1) = true; rw [e1]; decide), List.append_nil] at hft
            walk_at "rl wi"
            rw [← hft] at hvs
            exact ⟨_, eL, Nat.le_succ_of_le hlen, sm7, hvs⟩
          · rw [e1, show styleOf 2 = "variable" from by decide +kernel]
            rw [if_pos (by show decide (l.f ≠ 1) = true; rw [e1]; decide)] at hft
            walk_at "rl wi"
            exact lc_put (n := acc.length) eL hlen hi (by omega) ⟨Same.updN nL sm7, by rw [hft]; exact KsAt.upd eL (hvs.snoc hke)⟩
        | op c d2 =>
          obtain ⟨p, rfl, hp⟩ := id hke
          walk_at "rl wp"
          refine ⟨.ref p, .ref (He.ga K "Field"), .type "tuple", .ref (He.ga K "Field"), false, rfl, .own _, .base (.tup hp), ino0, ?_⟩
          rw [if_neg (fun z => nomatch z), List.append_nil] at hft
          walk_at "rl wi"
          rw [← hft] at hvs
          exact ⟨_, eL, Nat.le_succ_of_le hlen, sm7, hvs⟩
        | cl =>
          obtain ⟨p, rfl, hp⟩ := id hke
          walk_at "rl wp"
          refine ⟨.ref p, .ref (He.ga K "Field"), .type "tuple", .ref (He.ga K "Field"), false, rfl, .own _, .base (.tup hp), ino0, ?_⟩
          rw [if_neg (fun z => nomatch z), List.append_nil] at hft
          walk_at "rl wi"
          rw [← hft] at hvs
          exact ⟨_, eL, Nat.le_succ_of_le hlen, sm7, hvs⟩
      rintro L vs H7 nL eL ⟨sm7, hvs⟩
      walk_at "rl wp"
      rw [hal, List.take_of_length_le (by rw [box_len]; exact Nat.le_refl _)] at hvs
      exact hN _ _ ⟨sm7, L, vs, rfl, eL, hvs⟩
    rintro σ' H4 ⟨s34, ff, vs, rfl, hff, hvs⟩
    have heo4 := s34 _ _ heo
    have hacc4 := hacc.same s34
    have s4 := s3.trans s34
    clear s34 heo hacc s3
    obtain ⟨ve, hve⟩ : ∃ ve, ve = (box a b cs).filter varE := ⟨_, rfl⟩
    have hvv : ∀ e ∈ ve, ∃ l, e = .fl l := fun e m => varE_fl (List.mem_filter.mp (hve ▸ m)).2
    have hrl : ∀ r, hasR ve r = usedR cs r := fun r => by rw [hve]; exact hasR_var
    have hvl : ve.length ≤ cs.length + 2 := by rw [hve, ← box_len (a := a) (b := b)]; exact List.length_filter_le ..
    rw [← hve] at hvs
    have hvsl := pr_len hvs
    clear hve
    refine w_cut (fun σ' H' => Same H4 H' ∧ ∃ (ud : Addr) (kv : List (List Key × V)), σ' = [some (.ref la), some u, some (.ref k), some (.ref e0), y, some (.ref ff), some (.ref ud), none, none, none, none] ∧ H' ud = some (.dT kv) ∧ ∀ r, (valV kv (kof r 0)).isSome = usedR cs r) (fun N hN => ?_) ?_
    · walk_at "rl wp"
      refine w_dcT ?_
      walk_at "rl wp"
      refine w_dcST (xs := vs) (fun D i kv H2 => Same H4 H2 ∧ ∀ r, (valV kv (kof r 0)).isSome = hasR (ve.take i) r) (fun D i kv H2 ⟨sm, _⟩ => seqL (SqL.of (sm _ _ hff))) (fun D n => ⟨same_upd n, fun r => rfl⟩) ?_ ?_
      · rintro D i kv x H2 nD hx eD hlen ⟨sm, hr⟩
        obtain ⟨e, he, hke⟩ := pr_at hvs hx
        obtain ⟨l, rfl⟩ := hvv e (List.mem_of_getElem? he)
        obtain ⟨ok, g, p, rfl, ⟨dg, hg⟩, hu⟩ := KAt.same sm hke
        have hi : i < vs.length := (List.getElem?_eq_some_iff.mp hx).1
        walk_at "rl wp"
        refine ⟨rfl, ?_⟩
        dsimp only [wipe, List.map, List.foldl, List.set]
        walk_at "rl wi"
        rename_i tk H5 ntk s5 htk
        refine ⟨_, kof l.r 0, tk, rfl, htk, s5 _ _ eD, ?_, _, upd_same, Nat.le_trans (length_putK _ _ _) (Nat.succ_le_succ hlen), Same.updN nD (sm.trans s5), fun r => ?_⟩
        · have : (2000 : Nat) ≤ sizeLine := by decide
          omega
        · rw [valV_put, List.take_succ, he]
          show (if kof r 0 = kof l.r 0 then some (V.bl true) else valV kv (kof r 0)).isSome = hasR (ve.take i ++ [.fl l]) r
          rw [hasR_snoc, ← hr r]
          by_cases c : l.r = r
          · rw [if_pos (by rw [c]), decide_eq_true c, Bool.or_true]
            rfl
          · rw [if_neg (fun z => c (by unfold kof at z; simpa using z.symm)), decide_eq_false c, Bool.or_false]
      rintro D kv H2 nD eD ⟨sm, hr⟩
      walk_at "rl wp"
      rw [hvsl, List.take_length] at hr
      exact hN _ _ ⟨sm, D, kv, rfl, eD, fun r => (hr r).trans (hrl r)⟩
    rintro σ' H5 ⟨s45, ud, kv, rfl, hud, hr⟩
    have heo5 := s45 _ _ heo4
    have hacc5 := hacc4.same s45
    have s5 := s4.trans s45
    clear s45 heo4 hacc4 hvs hff hvsl hvl hvv hrl s4
    have hkb := keep_box (a := a) (b := b) (cs := cs) (ls := cs)
    walk_at "rl wp"
    refine w_lcSL (xs := acc) (fun L i vs H2 => Same H5 H2 ∧ KsAt K H2 vs (((box a b cs).take i).filter (keepE cs))) (fun L i vs H2 ⟨sm, _⟩ => seqL (SqL.of (sm _ _ heo5))) (fun L n => ⟨same_upd n, .nil⟩) ?_ ?_
    · rintro L i vs x H7 nL hx eL hlen ⟨sm7, hvs⟩
      obtain ⟨e, he, hke⟩ := pr_at hacc5 hx
      have hke := KAt.same sm7 hke
      have hft := filter_take (f := keepE cs) he
      have hi : i < acc.length := (List.getElem?_eq_some_iff.mp hx).1
      have hud7 := sm7 _ _ hud
      walk_at "rl wp"
      refine ⟨rfl, ?_⟩
      dsimp only [wipe, List.map, List.foldl, List.set]
      cases e with
      | fl l =>
        obtain ⟨ok, g, p, rfl, ⟨dg, hg⟩, hu⟩ := id hke
        walk_at "rl wp"
        refine ⟨.ref g, .ref (He.ga K "Field"), .ref (He.ga K "Field"), .ref (He.ga K "Field"), true, rfl, .own _, .base (.ins hg c_F iF1 iF2 iF3 iF4), iF5, ?_⟩
        walk_at "rl wi"
        rename_i tk H8 ntk s8 htk
        refine w_dinT (k := kof l.r 0) (s8 _ _ hud7) htk ?_
        rw [hr l.r]
        cases hur : usedR cs l.r with
        | true =>
          rw [if_pos (show keepE cs (.fl l) = true from hur)] at hft
          walk_at "rl wi"
          exact lc_put (n := acc.length) (s8 _ _ eL) hlen hi (by omega) ⟨Same.updN nL (sm7.trans s8), by rw [hft]; exact KsAt.upd (s8 _ _ eL) ((hvs.same s8).snoc (hke.same s8))⟩
        | false =>
          rw [if_neg (by show ¬ usedR cs l.r = true; rw [hur]; decide), List.append_nil] at hft
          walk_at "rl wi"
          rw [← hft] at hvs
          exact ⟨_, s8 _ _ eL, Nat.le_succ_of_le hlen, sm7.trans s8, hvs.same s8⟩
      | op c d2 =>
        obtain ⟨p, rfl, hp⟩ := id hke
        walk_at "rl wp"
        refine ⟨.ref p, .ref (He.ga K "Field"), .type "tuple", .ref (He.ga K "Field"), false, rfl, .own _, .base (.tup hp), ino0, ?_⟩
        rw [if_pos (by rfl)] at hft
        walk_at "rl wi"
        exact lc_put (n := acc.length) eL hlen hi (by omega) ⟨Same.updN nL sm7, by rw [hft]; exact KsAt.upd eL (hvs.snoc hke)⟩
      | cl =>
        obtain ⟨p, rfl, hp⟩ := id hke
        walk_at "rl wp"
        refine ⟨.ref p, .ref (He.ga K "Field"), .type "tuple", .ref (He.ga K "Field"), false, rfl, .own _, .base (.tup hp), ino0, ?_⟩
        rw [if_pos (by rfl)] at hft
        walk_at "rl wi"
        exact lc_put (n := acc.length) eL hlen hi (by omega) ⟨Same.updN nL sm7, by rw [hft]; exact KsAt.upd eL (hvs.snoc hke)⟩
    rintro L vs H7 nL eL ⟨sm7, hvs⟩
    rw [hal, List.take_of_length_le (by rw [box_len]; exact Nat.le_refl _), hkb] at hvs
    have hvs : KsAt K H7 vs (box a b (leftF cs)) := hvs
    have hll : (leftF cs).length ≤ cs.length := List.length_filter_le ..
    have hlm : ∀ l ∈ leftF cs, 0 ≤ l.m := fun l m => hcm l (List.mem_filter.mp m).1
    have s7 := s5.trans sm7
    clear hr hud heo5 hacc5 sm7 s5
    walk_at "rl wp"
    refine ⟨L, vs, a, b, leftF cs, rfl, eL, hvs, by omega, fun r H8 nr s8 hr8 => ?_⟩
    have hvs8 := hvs.same s8
    have hol := wOut_len hvs8
    have s08 := s7.trans s8
    clear eL hvs s8 s7 nL
    walk_at "rl wp"
    refine ite_dec (fun c => ?_) (fun c => ?_)
    · rw [hol] at c
      walk_at "rl wp"
      refine w_mkS ?_ (fun h k => k _ _ h)
      walk_at "rl wp"
      exact ⟨_, rfl, by decide +kernel, fun dd H'' n s e => q1 (by omega) dd H'' (s08.trans s) e⟩
    rw [hol] at c
    walk_at "rl wp"
    refine w_makeC ?_
    walk_at "rl wp"
    intro x dy nx ndy nxy
    have s9 : Same H8 (L2.upd (L2.upd H8 dy (.own x)) x (.ins (He.ga K "Layout") dy [])) := fun c o e => by rw [upd_ne (ne_of_none e nx), upd_ne (ne_of_none e ndy)]; exact e
    by_cases cl : leftF cs = []
    · have e0' : wOut (leftF cs) vs = [] := if_pos cl
      rw [e0'] at hr8
      refine ⟨fun _ => True, x, dy, r, [], [], rfl, upd_same, s9 _ _ hr8, rfl, by decide, (fun i x e => by simp at e), rfl, fun H' t' bt h1 h2 => ⟨rfl, ?_⟩⟩
      walk_at "rl wp"
      exact q2 (by omega) _ _ (s08.trans (make_same nx ndy bt))
    · have e0' : wOut (leftF cs) vs = vs := if_neg cl
      rw [e0'] at hr8 hol
      refine ⟨_, x, dy, r, vs, (box a b (leftF cs)).map entD, rfl, upd_same, s9 _ _ hr8, by rw [List.length_map, pr_len hvs8], by rw [List.length_map, ← pr_len hvs8, hol]; omega, (hvs8.same s9).ents, badE_box hab hbb hlm hcs, fun H' t' bt h1 h2 => ⟨rfl, ?_⟩⟩
      walk_at "rl wp"
      exact q2 (by omega) _ _ (s08.trans (make_same nx ndy bt))
end T61
end
section
set_option Elab.async false
set_option linter.all false
set_option maxRecDepth 100000
set_option maxHeartbeats 1000000
namespace T61
open PySem PySem.Spec PyProof.Rows L2 L2.RL
local macro_rules | `(tactic| walk_at "rl ty") => `(tactic| first
  | assumption
  | exact .base (.int _)
  | exact .base (.str _)
  | exact .base .non
  | exact .base (.bl _)
  | exact ty_sqT (by walk_at "rl hp")
  | exact ty_sqL (by walk_at "rl hp")
  | exact .base (.tup (by walk_at "rl hp"))
  | exact .base (.lst (by walk_at "rl hp"))
  | exact .base (.dK (by walk_at "rl hp")))
local macro_rules | `(tactic| walk_at "rl if") => `(tactic| first
  | with_reducible refine iteT' rfl ?_
  | with_reducible refine iteF' rfl ?_
  | (refine iteT' rfl ?_)
  | (refine iteF' rfl ?_))
local macro_rules | `(tactic| walk_at "rl side") => `(tactic| first | assumption | omega | (constructor <;> omega) | decide)
local macro_rules | `(tactic| walk_at "rl ne") => `(tactic| first
  | assumption
  | exact Ne.symm (by assumption)
  | walk_at "rl ne2"
  | exact ne_of (by assumption) (by walk_at "rl hq") (by intro z; cases z)
  | exact (ne_of (by assumption) (by walk_at "rl hq") (by intro z; cases z)).symm)
local macro_rules | `(tactic| walk_at "rl hq") => `(tactic| first
  | assumption
  | exact upd_same
  | (refine' upd_at ?rlne ?rlhq; (case rlne => walk_at "rl ne"); (case rlhq => walk_at "rl hq"))
  | (refine' Same.at ?rlsa ?rlhq; (case rlsa => assumption); (case rlhq => walk_at "rl hq"))
  | (refine' But.at ?rlbu ?rlne ?rlhq; (case rlbu => assumption); (case rlne => walk_at "rl ne"); (case rlhq => walk_at "rl hq")))
local macro_rules | `(tactic| walk_at "rl hp") => `(tactic| first
  | assumption
  | (refine' SqL.of ?rlhq; (case rlhq => walk_at "rl hq"))
  | (refine' SqT.of ?rlhq; (case rlhq => walk_at "rl hq"))
  | (refine' Same.seq ?rlsa ?rlhp; (case rlsa => assumption); (case rlhp => walk_at "rl hp"))
  | (refine' Same.sqT ?rlsa ?rlhp; (case rlsa => assumption); (case rlhp => walk_at "rl hp"))
  | walk_at "rl hp2"
  | walk_at "rl hq")
local macro_rules | `(tactic| walk_at "rl w1") => `(tactic| first
  | with_reducible refine w_seq ?_
  | ((with_reducible refine' w_var ?rlv ?_); (case rlv => exact rfl))
  | with_reducible refine w_c ?_
  | with_reducible refine w_op ?_
  | with_reducible refine w_I0 ?_
  | with_reducible refine w_asg ?_
  | ((with_reducible refine' w_gName ?_); dsimp only [List.set])
  | ((with_reducible refine' w_nxD ?rle ?_); (case rle => exact rfl))
  | ((with_reducible refine' w_rtD ?rle ?_); (case rle => exact rfl))
  | with_reducible refine w_next ?_
  | with_reducible refine w_ret ?_
  | with_reducible refine w_cons ?_
  | with_reducible refine w_nil ?_
  | with_reducible refine w_ifS ?_
  | with_reducible refine w_test ?_
  | with_reducible refine w_B ?_
  | with_reducible refine w_bl ?_
  | with_reducible refine w_bl1 ?_
  | with_reducible refine w_blR ?_
  | with_reducible refine w_eqI ?_
  | with_reducible refine w_neI ?_
  | with_reducible refine w_eqS ?_
  | with_reducible refine w_neS ?_
  | with_reducible refine w_eqB ?_
  | with_reducible refine w_neB ?_
  | with_reducible refine w_and ?_
  | with_reducible refine w_or ?_
  | with_reducible refine w_not ?_
  | with_reducible refine w_andV ?_
  | with_reducible refine w_orV ?_
  | with_reducible refine w_notV ?_
  | with_reducible refine w_if ?_
  | with_reducible refine w_chain ?_
  | with_reducible refine w_un ?_
  | with_reducible refine w_U ?_
  | ((with_reducible refine' w_I ?rlc ?_); (case rlc => walk_at "rl side"))
  | with_reducible refine w_drop ?_
  | with_reducible refine w_retN ?_
  | with_reducible refine w_par ?_
  | ((with_reducible refine' w_par2 ?_); dsimp only [List.set])
  | ((with_reducible refine' w_aug ?rla ?_); (case rla => exact rfl))
  | with_reducible refine w_ipI ?_
  | with_reducible refine w_break ?_
  | with_reducible refine w_cont ?_
  | ((with_reducible refine' w_bkD ?rle ?_); (case rle => exact rfl))
  | ((with_reducible refine' w_ctD ?rle ?_); (case rle => exact rfl))
  | with_reducible refine w_tup ?_
  | with_reducible refine w_lst ?_
  | ((with_reducible refine' w_newO ?rln ?_); (case rln => exact Nat.le_of_ble_eq_true rfl); intro _ _ _ _ _)
  | ((with_reducible refine' w_new ?rln ?_); (case rln => exact Nat.le_of_ble_eq_true rfl))
  | ((with_reducible refine' w_mk ?_); intro _ _ _ _ _)
  | ((with_reducible refine' w_gTup ?rls ?rll ?_); (case rls => walk_at "rl hp"); (case rll => exact rfl))
  | with_reducible refine w_gCons ?_
  | with_reducible refine w_gNil ?_
  | with_reducible refine w_gSub ?_
  | ((with_reducible refine' w_setL ?rls ?rlj ?_); (case rls => walk_at "rl hp"); (case rlj => exact rfl))
  | ((with_reducible refine' w_ixL ?rls ?rli ?_); (case rls => walk_at "rl hp"); (case rli => exact rfl))
  | ((with_reducible refine' w_ixT ?rls ?rli ?_); (case rls => walk_at "rl hp"); (case rli => exact rfl))
  | with_reducible refine w_call ?_
  | with_reducible refine w_trI ?_
  | with_reducible refine w_yes ?_
  | with_reducible refine w_trB ?_
  | with_reducible refine w_trN ?_
  | with_reducible refine w_cb ?_
  | with_reducible refine w_fld ?_
  | ((with_reducible refine' w_fld1 ?rlo ?rlc ?rln ?rll ?_); (case rlo => walk_at "rl hp"); (case rlc => assumption); (case rln => assumption); (case rll => exact rfl))
  | with_reducible refine w_isiO ?_
  | with_reducible refine w_isiT ?_
  | ((with_reducible refine' w_isi (r := true) ?rlt ?rlk ?_); (case rlt => walk_at "rl ty"); (case rlk => exact rfl))
  | ((with_reducible refine' w_isi (r := false) ?rlt ?rlk ?_); (case rlt => walk_at "rl ty"); (case rlk => exact rfl))
  | ((with_reducible refine' w_isi2 (r := true) ?rlT ?rlt ?rlk ?_); (case rlT => walk_at "rl hp"); (case rlt => walk_at "rl ty"); (case rlk => exact rfl))
  | ((with_reducible refine' w_isi2 (r := false) ?rlT ?rlt ?rlk ?_); (case rlT => walk_at "rl hp"); (case rlt => walk_at "rl ty"); (case rlk => exact rfl))
  | with_reducible refine w_sFld ?_
  | with_reducible refine w_itemsK ?_
  | ((with_reducible refine' w_catT ?rlha ?rlhb ?rln1 ?rln2 ?rlhl ?_); (case rlha => walk_at "rl hp"); (case rlhb => walk_at "rl hp"); (case rln1 => exact (fun z => nomatch z)); (case rln2 => exact (fun z => nomatch z)); (case rlhl => exact Nat.le_trans (Nat.le_of_ble_eq_true rfl) (show 100000 ≤ sizeLine by decide)))
  | ((with_reducible refine' w_newE ?_); intro _ _ _ _ _)
  | with_reducible refine w_makeK ?_
  | ((with_reducible refine' w_sFld1 ?rlc ?rln ?rll ?rle ?_); (case rlc => assumption); (case rln => assumption); (case rll => exact Nat.lt_of_lt_of_le (Nat.lt_succ_self _) (Nat.le_of_ble_eq_true rfl)); (case rle => exact rfl))
  | ((with_reducible refine' w_sFld0 ?rlx ?rlc ?rln ?rll ?rle ?_); (case rlx => walk_at "rl hq"); (case rlc => assumption); (case rln => assumption); (case rll => exact Nat.lt_of_lt_of_le (Nat.lt_succ_self _) (Nat.le_of_ble_eq_true rfl)); (case rle => exact rfl))
  | with_reducible refine w_rflA ?_
  | with_reducible refine w_for ?_
  | with_reducible refine w_iList ?_
  | with_reducible refine w_iTup ?_
  | ((with_reducible refine' w_overL ?rls ?_); (case rls => walk_at "rl hp"))
  | ((with_reducible refine' w_overT ?rls ?_); (case rls => walk_at "rl hp"))
  | with_reducible refine w_rng1 ?_
  | ((with_reducible refine' w_rng1a ?rl1 ?rl2 ?_); (case rl1 => omega); (case rl2 => omega))
  | with_reducible refine w_rng2 ?_
  | ((with_reducible refine' w_rng2a ?rl1 ?_); (case rl1 => omega))
  | with_reducible refine w_zip2 ?_
  | with_reducible refine w_lc ?_
  | with_reducible refine w_enS ?_
  | with_reducible refine w_callSD ?_
  | with_reducible refine w_xf ?_
  | ((with_reducible refine' w_dnew ?_); intro _ _ _ _ _)
  | ((with_reducible refine' w_disp1 ?_); intro _ _ _ _ _)
  | with_reducible refine w_bm ?_
  | ((with_reducible refine' w_tyL ?rls ?_); (case rls => walk_at "rl hp"))
  | ((with_reducible refine' w_append ?rls ?rll ?_); (case rls => walk_at "rl hq"); (case rll => exact Nat.lt_of_lt_of_le (Nat.lt_succ_self _) (Nat.le_of_ble_eq_true rfl)))
  | ((with_reducible refine' w_cat ?rls ?rlt ?rll ?_); (case rls => walk_at "rl hq"); (case rlt => walk_at "rl hq"); (case rll => exact Nat.le_of_ble_eq_true rfl); intro _ _ _ _ _)
  | with_reducible refine w_int1 ?_
  | ((with_reducible refine w_intb ?_); (try dsimp only))
  | with_reducible refine w_one ?_
  | with_reducible refine w_two ?_
  | ((with_reducible refine' w_lenL ?rls ?_); (case rls => walk_at "rl hp"))
  | ((with_reducible refine' w_lenT ?rls ?_); (case rls => walk_at "rl hp"))
  | with_reducible refine w_meth ?_
  | ((with_reducible refine' w_meth1 ?rlo ?rll ?_); (case rlo => walk_at "rl hp"); (case rll => exact rfl)))
local macro_rules | `(tactic| walk_at "rl wp") => `(tactic| (repeat walk_at "rl w1"))
local macro_rules | `(tactic| walk_at "rl but") => `(tactic| first
  | assumption
  | exact But.refl _ _
  | exact But.upd
  | exact But.of_same (by assumption)
  | (refine But.trans ?_ (But.of_same (by assumption)); walk_at "rl but")
  | (refine But.trans ?_ (by assumption : But _ _ _); walk_at "rl but")
  | (refine But.trans ?_ But.upd; walk_at "rl but"))
local macro_rules | `(tactic| walk_at "rl same") => `(tactic| first
  | assumption
  | exact Same.refl _
  | (refine Same.trans ?_ (by assumption : Same _ _); walk_at "rl same"))

local macro_rules | `(tactic| walk_at "rl wi") => `(tactic| (repeat (first
  | walk_at "rl w1"
  | ((with_reducible refine' iteF' ?rlif ?_); (case rlif => exact rfl))
  | ((with_reducible refine' iteT' ?rlif ?_); (case rlif => exact rfl)))))
local macro_rules | `(tactic| walk_at "rl ty") => `(tactic| exact .base (.dK (by assumption)))
local macro_rules | `(tactic| walk_at "rl ty") => `(tactic| exact .base (.lst (by assumption)))
local macro_rules | `(tactic| walk_at "rl ty") => `(tactic| exact .base (.tup (by assumption)))
local macro_rules | `(tactic| walk_at "rl w1") => `(tactic| first
  | with_reducible refine w_par3 ?_
  | ((with_reducible refine' w_par3a ?_); dsimp only [List.set])
  | with_reducible refine w_dget ?_
  | ((with_reducible refine' w_dgetS ?rls ?rlv ?_); (case rls => walk_at "rl hq"); (case rlv => exact rfl))
  | ((with_reducible refine' w_dgetI ?rls ?rlv ?_); (case rls => walk_at "rl hq"); (case rlv => exact rfl))
  | with_reducible refine w_dget2 ?_
  | ((with_reducible refine' w_isD ?rls ?_); (case rls => walk_at "rl hq"))
  | ((with_reducible refine' w_dget2S ?rls ?_); (case rls => walk_at "rl hq"))
  | ((with_reducible refine' w_dget2I ?rls ?_); (case rls => walk_at "rl hq"))
  | ((with_reducible refine' w_setDS ?rls ?rll ?rlm ?_); (case rls => walk_at "rl hq"); (case rll => exact Nat.lt_of_lt_of_le (Nat.lt_succ_self _) (Nat.le_of_ble_eq_true rfl)); (case rlm => exact rfl))
  | ((with_reducible refine' w_tyD ?rls ?_); (case rls => walk_at "rl hq"))
  | with_reducible refine w_jNil ?_
  | with_reducible refine w_jCons ?_
  | with_reducible refine w_prop ?_
  | with_reducible refine w_makeKS ?_
  | with_reducible refine w_pNil ?_
  | with_reducible refine w_pCons ?_
  | ((with_reducible refine' w_dispN ?_); intro _ _ _ _ _))

local macro_rules | `(tactic| walk_at "rl w1") => `(tactic| ((with_reducible refine' w_dispP ?_); intro _ _ _ _ _))
local macro_rules | `(tactic| walk_at "rl w1") => `(tactic| with_reducible refine w_ifT ?_)
local macro_rules | `(tactic| walk_at "rl w1") => `(tactic| ((with_reducible refine' w_dgS ?rls ?rlv ?_); (case rls => walk_at "rl hq"); (case rlv => exact rfl)))

local macro_rules | `(tactic| walk_at "rl w1") => `(tactic| first
  | with_reducible refine w_din ?_
  | ((with_reducible refine' w_dinI ?rls ?_); (case rls => walk_at "rl hq"))
  | ((with_reducible refine' w_dinT ?rls ?rlt ?_); (case rls => walk_at "rl hq"); (case rlt => walk_at "rl hq"))
  | with_reducible refine w_callN ?_)

local macro_rules | `(tactic| walk_at "rl w1") => `(tactic| ((with_reducible refine' w_dnewT ?_); intro _ _ _ _ _))
local macro_rules | `(tactic| walk_at "rl w1") => `(tactic| with_reducible refine w_enm ?_)

local macro_rules | `(tactic| walk_at "rl w1") => `(tactic| with_reducible refine w_makeC ?_)

def alt : Nat → List Int
  | 0 => []
  | k + 1 => 65537 :: 65538 :: alt k
theorem alt_len : ∀ k, (alt k).length = 2 * k
  | 0 => rfl
  | k + 1 => by show (alt k).length + 1 + 1 = _; rw [alt_len k]; omega
theorem alt_rep : ∀ k, (List.replicate k [V.int 65537, .int 65538]).flatten = (alt k).map V.int
  | 0 => rfl
  | k + 1 => by rw [List.replicate_succ, List.flatten_cons, alt_rep k]; rfl
theorem alt_mem {u : Int} : ∀ {k}, u ∈ alt k → 0 ≤ u ∧ u ≤ 4294967295
  | 0, h => by cases h
  | k + 1, h => by
    rcases List.mem_cons.mp h with rfl | h
    · decide
    · rcases List.mem_cons.mp h with rfl | h
      · decide
      · exact alt_mem h
def fl1 (m : Nat) : LF := ⟨"input", 2, m, 1, alt (m / 2)⟩
def out1 : LF := ⟨"output", 1, 1, 255, []⟩
theorem fl1_ok {m : Nat} (h : m ≤ 254) (e : m % 2 = 0) : (fl1 m).ok := by
  refine ⟨.inl rfl, .inr ⟨rfl, ?_, rfl⟩, ⟨Int.natCast_nonneg _, by show (m : Int) ≤ 255; omega⟩, fun u hu => alt_mem hu⟩
  show ((alt (m / 2)).length : Int) = m
  rw [alt_len]
  omega
theorem out1_ok : out1.ok := ⟨.inr rfl, .inl ⟨rfl, rfl, .inr rfl⟩, ⟨by decide, by decide⟩, fun u hu => by cases hu⟩
def wideFs : Nat → Nat → List LF
  | 0, _ => []
  | k + 1, n => if n = 0 then [] else fl1 (min n 254) :: wideFs k (n - 254)
theorem wideFs_pos {k n : Nat} (h : n ≠ 0) : wideFs (k + 1) n = fl1 (min n 254) :: wideFs k (n - 254) := if_neg h
theorem wideFs_zero {k : Nat} : wideFs k 0 = [] := by cases k <;> rfl
theorem wide_sum : ∀ (k n : Nat), n ≤ 254 * k → sumM (wideFs k n) = n
  | 0, n, h => by obtain rfl : n = 0 := by omega
                  rfl
  | k + 1, n, h => by
    by_cases c : n = 0
    · subst c; rfl
    · rw [wideFs_pos c]
      show ((min n 254 : Nat) : Int) + sumM (wideFs k (n - 254)) = n
      rw [wide_sum k (n - 254) (by omega)]
      omega
theorem wide_ok : ∀ (k n : Nat), n % 2 = 0 → ∀ l ∈ wideFs k n, l.ok
  | 0, n, h, l, m => by cases m
  | k + 1, n, h, l, m => by
    by_cases c : n = 0
    · subst c; cases m
    · rw [wideFs_pos c] at m
      rcases List.mem_cons.mp m with rfl | m
      · exact fl1_ok (by omega) (by omega)
      · exact wide_ok k _ (by omega) l m
theorem wide_len : ∀ (k n : Nat), (wideFs k n).length ≤ k
  | 0, n => Nat.le_refl _
  | k + 1, n => by
    by_cases c : n = 0
    · subst c; exact Nat.zero_le _
    · rw [wideFs_pos c]
      exact Nat.succ_le_succ (wide_len k _)
def wideL (n o : Nat) : List LF := wideFs 3 n ++ List.replicate o out1
theorem ks_rep {K : PySem.W.Frag} {H : Hp} {x : V} {l : LF} (h : FAt K H x l) : ∀ o, FsAt K H (List.replicate o [x]).flatten (List.replicate o l)
  | 0 => .nil
  | o + 1 => .cons h (ks_rep h o)
theorem FsAt.app {K : PySem.W.Frag} {H : Hp} {xs ys : List V} {es fs : List LF} (h : FsAt K H xs es) (k : FsAt K H ys fs) : FsAt K H (xs ++ ys) (es ++ fs) := by
  induction h with
  | nil => exact k
  | cons h _ ih => exact .cons h ih
theorem rep_len (x : V) : ∀ o : Nat, (List.replicate o [x]).flatten.length = o
  | 0 => rfl
  | o + 1 => by rw [List.replicate_succ, List.flatten_cons, List.length_append, rep_len x o]; exact Nat.add_comm 1 o
theorem w_repA {K : PySem.W.Frag} {H : Hp} {Q : VK} {t0 : Addr} {j : Nat} (h1 : 1 ≤ j) (h2 : j ≤ 1000) (ht : H t0 = some (.tup [.int 65537, .int 65538])) (h : ∀ t H', Same H H' → H' t = some (.tup ((alt j).map V.int)) → Q (.ref t) H') : rRepTT K (.ref t0) (.int (j : Nat)) H Q := by
  by_cases c : j = 1
  · subst c
    exact w_repT1 (SqT.of ht) rfl (h t0 H (Same.refl _) ht)
  · refine w_repTN (SqT.of ht) (fun z => nomatch z) (by omega) (by omega) (by decide) fun p H' _ s e => h p H' s ?_
    rw [e, show ((j : Nat) : Int).toNat = j from by omega, alt_rep]
def LyAt (K : PySem.W.Frag) (H : Hp) (la : Addr) (fs : List LF) : Prop := ∃ t dx xs, H la = some (.ins (He.ga K "Layout") dx [("all_entries", .ref t)]) ∧ H t = some (.tup xs) ∧ KsAt K H xs (box 1 2 fs)
theorem LyAt.same {K : PySem.W.Frag} {H H' : Hp} {la : Addr} {fs : List LF} (s : Same H H') (h : LyAt K H la fs) : LyAt K H' la fs := let ⟨t, dx, xs, h1, h2, h3⟩ := h; ⟨t, dx, xs, s _ _ h1, s _ _ h2, h3.same s⟩
def spWide (K : PySem.W.Frag) : Sp := fun vs H Q _ => ∃ n o : Nat, vs = [.int n, .int o] ∧ n ≤ 512 ∧ n % 2 = 0 ∧ o ≤ 3 ∧ (n + o ≤ 512) ∧ ∀ la H', Same H H' → LyAt K H' la (wideL n o) → Q (.ref la) H'
theorem sc__law_wide : FnScope ["_law_places", "_law_others", "_law_fields", "_law_left", "_law_many", "_law_more"] ["_law_places", "_law_others"] (defScope (top 81)) := ⟨rfl, rfl, rfl, by decide +kernel, rfl, by decide +kernel, by decide +kernel⟩
theorem ok__law_wide {P : Program} {w : World} {K : PySem.W.Frag} {mg : Str → Option Value} {base : Heap} (T : TT K mg) (D_mk_Field : Li P w K mg base (L2.CX P w) 4 (spIni K)) (D_Layout___init__ : Lm P w K mg base CX0 5 "Layout" "__init__" ["self", "entries"] [] (spLayInit K))   : Ld P w K mg base CX0 7 "_law_wide" ["_law_places", "_law_others"] [] (spWide K) := by
  obtain ⟨fd_Field, F_Field, FD_Field⟩ := D_mk_Field.ex
  obtain ⟨g1_Field, b1_Field⟩ := kb1 T FD_Field
  obtain ⟨g2_Field, b2_Field⟩ := kb2 T FD_Field
  obtain ⟨g3_Field, b3_Field⟩ := kb3 T FD_Field
  obtain ⟨⟨fd_Layout___init__, ds_Layout___init__, F_Layout___init__, b_Layout___init__, v_Layout___init__⟩⟩ := D_Layout___init__
  obtain ⟨fd, F⟩ := T.d__law_wide
  refine ⟨⟨fd, [], F.ok sc__law_wide (fun vs H Q E h => ?_) (fun cdv A outer s H vs Q E hr h => ?_), FunD.bindsN F (fun _ _ _ _ _ _ us hl => match us, hl with | [_, _], _ => rfl), .nil⟩, T.g__law_wide, F.kp⟩
  · obtain ⟨n, o, rfl, _⟩ := h
    rfl
  · obtain ⟨n, o, rfl, hn, hev, ho, hno, q⟩ := h
    have c_F := T.c_Field
    have n_role := T.n_Field_role
    have n_number := T.n_Field_number
    have n_flags := T.n_Field_flags
    have n_size := T.n_Field_size
    have n_amount := T.n_Field_amount
    have n_low := T.n_Field_low
    have n_high := T.n_Field_high
    have n_plow := T.n_Field_plow
    have n_phigh := T.n_Field_phigh
    have n_exponent := T.n_Field_exponent
    have n_unit := T.n_Field_unit
    have n_usages := T.n_Field_usages
    have c_L := T.c_Layout
    have n_all := T.n_Layout_all_entries

    refine ⟨_, PSs.nox ((pss_cons (ps_par (i := 2) (j := 3) (by rfl) sc__law_wide.nd rfl rfl (by decide) rfl rfl (pa_cons (pe_lst pa_nil) (pa_cons (pv 0) pa_nil)) (by rfl)) (pss_cons (ps_while PassesOwn.never (pt_cmpR op_gt (pv 3) pe_int (nomark _)) (pss_cons (ps_set (i := 4) sc__law_wide.nd rfl (by first | exact Or.inl rfl | exact Or.inr rfl) (pe_callB (call_min2 rfl) (by rfl) T.m_min (by decide +kernel) (pa_cons (pv 3) (pa_cons pe_int pa_nil)))) (pss_cons (ps_expr (pe_bm PySem.F.plainAttrs_list PySem.F.slot_list_append PySem.F.type_list_append mt_append (pv 2) (pa_cons (pe_makeK T.mk_Field F_Field (hr.mono (by decide)) (by rfl) T.g_Field b2_Field passF (pa_cons pe_str pa_nil) (pk_cons pe_int (pk_cons (pv 4) (pk_cons pe_int (pk_cons pe_int (pk_cons (pe_op op_repTT (pe_tup (pa_cons pe_int (pa_cons pe_int pa_nil))) (pe_op op_fdivN (pv 4) pe_int)) pk_nil)))))) pa_nil))) (pss_one (ps_set (i := 3) sc__law_wide.nd rfl (by first | exact Or.inl rfl | exact Or.inr rfl) (pe_op op_sub (pv 3) (pv 4))))))) (pss_cons (ps_set (i := 5) sc__law_wide.nd rfl (by first | exact Or.inl rfl | exact Or.inr rfl) (pe_op op_rep (pe_lst (pa_cons (pe_makeK T.mk_Field F_Field (hr.mono (by decide)) (by rfl) T.g_Field b3_Field passF (pa_cons pe_str pa_nil) (pk_cons pe_int (pk_cons pe_int pk_nil))) pa_nil)) (pv 1))) (pss_one (ps_ret (pe_make T.mk_Layout F_Layout___init__ hr (by rfl) T.g_Layout b_Layout___init__ v_Layout___init__ pass0 (pa_cons (pe_op op_cat (pe_op op_cat (pe_op op_cat (pe_lst (pa_cons (pe_tup (pa_cons pe_str (pa_cons pe_int (pa_cons pe_int pa_nil)))) pa_nil)) (pv 2)) (pv 5)) (pe_lst (pa_cons (pe_tup (pa_cons pe_str pa_nil)) pa_nil))) pa_nil)))))))), ?_⟩; rw [start_6_2]; try dsimp only [cxOf]
    walk_at "rl wp"
    rename_i f H1 nf s1 hf
    refine w_wh (fun m σ' H' => Same H H' ∧ ∃ (ls : List LF) (xs : List V) (k : Nat) (y z : Option V), σ' = [some (.int n), some (.int o), some (.ref f), some (.int (m : Nat)), y, z] ∧ H' f = some (.lst xs) ∧ FsAt K H' xs ls ∧ wideFs 3 n = ls ++ wideFs k m ∧ m ≤ 254 * k ∧ ls.length + k = 3 ∧ m % 2 = 0) n ⟨s1, [], [], 3, none, none, rfl, hf, .nil, rfl, by omega, rfl, hev⟩ ?_
    rintro m σ' H' ⟨sm, ls, xs, k, y, z, rfl, hfx, hfs, hw, hm, hk, hme⟩
    have hxl := pr_len hfs
    walk_at "rl wp"
    refine ite_dec (fun c => ?_) (fun c => ?_)
    · refine w_N ?_
      have hm0 : m ≠ 0 := by omega
      obtain ⟨k, rfl⟩ : ∃ j, k = j + 1 := ⟨k - 1, by omega⟩
      rw [wideFs_pos hm0] at hw
      walk_at "rl wp"
      obtain ⟨a, ha⟩ : ∃ a : Nat, a = min m 254 := ⟨_, rfl⟩
      have hai : (if (254 : Int) < (m : Int) then (254 : Int) else (m : Int)) = (a : Int) := by split <;> omega
      rw [hai]
      rw [← ha] at hw
      have hdv : CDivN (a : Int) 2 := ⟨by decide, by decide⟩
      walk_at "rl wp"
      rename_i t0 H2 nt0 s2 ht0
      have e2 : (a : Int).fdiv 2 = ((a / 2 : Nat) : Int) := by rw [Int.fdiv_eq_ediv_of_nonneg _ (by decide)]; omega
      rw [e2]
      refine w_repA (by omega) (by omega) ht0 (fun t H3 s3 ht => ?_)
      walk_at "rl wp"
      refine ⟨rfl, rfl, fun x dx nx ndx ne => ?_⟩
      have aok : (fl1 a).ok := fl1_ok (by omega) (by omega)
      have hv2 : V12 K H3 (fun b => H3 b ≠ none) ((fl1 a).fa t) (fl1 a).da := LF.v12 (p := t) (fl1 a) (.inl ht)
      refine ⟨fun b => H3 b ≠ none, x, dx, (fl1 a).fa t, (fl1 a).da, rfl, upd_same, fun b hb e => hb (by rw [e]; exact nx), V12.made nx ndx hv2, fun _ H4 b fa => ⟨rfl, ?_⟩, fun s hs => by rw [aok.name] at hs; cases hs⟩
      have s4 := make_same nx ndx b
      have hf4 := s4 _ _ (s3 _ _ (s2 _ _ hfx))
      have hfs4 : FsAt K H4 xs ls := ((hfs.same s2).same s3).same s4
      have hxn : xs.length < 100000 := by omega
      walk_at "rl wp"
      refine w_append hf4 hxn ?_
      walk_at "rl wp"
      have em : (m : Int) - (a : Int) = ((m - a : Nat) : Int) := by omega
      rw [em]
      have e3 : m - 254 = m - a := by omega
      refine ⟨m - a, by omega, same_but ((sm.trans s2).trans (s3.trans s4)) nf But.upd, ls ++ [fl1 a], _, k, _, _, rfl, upd_same, FsAt.but But.upd hf4 (Paired.snoc hfs4 ⟨aok, x, t, rfl, fa, .inl (s4 _ _ ht)⟩), ?_, by omega, by rw [List.length_append]; simp only [List.length_singleton]; omega, by omega⟩
      rw [hw, List.append_assoc, e3]
      rfl
    · have hm0 : m = 0 := by omega
      subst hm0
      rw [wideFs_zero, List.append_nil] at hw
      walk_at "rl wp"
      refine ⟨rfl, rfl, fun x dx nx ndx ne => ?_⟩
      have hv2 : V12 K H' (fun b => H' b ≠ none) (out1.fa (kdfAt ("Field", some "__init__") "usages" K)) out1.da := LF.v12 out1 (.inr ⟨rfl, T.t_us0 H'⟩)
      refine ⟨fun b => H' b ≠ none, x, dx, out1.fa (kdfAt ("Field", some "__init__") "usages" K), out1.da, rfl, upd_same, fun b hb e => hb (by rw [e]; exact nx), V12.made nx ndx hv2, fun _ H4 b fa => ⟨rfl, ?_⟩, fun s hs => by rw [out1_ok.name] at hs; cases hs⟩
      have s4 := make_same nx ndx b
      have hf4 := s4 _ _ hfx
      have hfs4 : FsAt K H4 xs ls := hfs.same s4
      walk_at "rl wp"
      rename_i l1 H5 n5 s5 h5
      refine w_rep (n := o) h5 (by omega) (by omega) (by omega) (by show 1 * o ≤ 100000; omega) (fun l2 H6 n6 s6 h6 => ?_)
      have ff := FAt.same (s5.trans s6) ⟨out1_ok, x, _, rfl, fa, .inr ⟨rfl, T.t_us0 H4⟩⟩
      have hf6 := s6 _ _ (s5 _ _ hf4)
      have hfs6 := (hfs4.same s5).same s6
      have hl2 := ks_rep ff o
      have hrl := rep_len (.ref x) o
      have hlm := wide_len 3 n
      rw [hw] at hlm
      walk_at "rl wp"
      rename_i t1 H7 n7 s7 h7 l3 H8 n8 s8 h8
      refine w_cat h8 (s8 _ _ (s7 _ _ hf6)) (by show 1 + xs.length ≤ 100000; omega) (fun l4 H9 n9 s9 h9 => ?_)
      walk_at "rl wp"
      refine w_cat h9 (s9 _ _ (s8 _ _ (s7 _ _ h6))) (by rw [List.length_append, hrl]; show 1 + xs.length + o ≤ 100000; omega) (fun l5 H10 n10 s10 h10 => ?_)
      walk_at "rl wp"
      rename_i t2 H11 n11 s11 h11 l6 H12 n12 s12 h12
      refine w_cat (s12 _ _ (s11 _ _ h10)) h12 (by rw [List.length_append, List.length_append, hrl]; show 1 + xs.length + o + 1 ≤ 100000; omega) (fun l7 H13 n13 s13 h13 => ?_)
      have s613 : Same H6 H13 := s7.trans (s8.trans (s9.trans (s10.trans (s11.trans (s12.trans s13)))))
      have hks : KsAt K H13 (([.ref t1] ++ xs ++ (List.replicate o [V.ref x]).flatten) ++ [.ref t2]) (box 1 2 (wideL n o)) := by
        unfold box wideL
        rw [hw, List.map_append]
        show KsAt K H13 _ ((EK.op 1 2 :: (ls.map EK.fl ++ (List.replicate o out1).map EK.fl)) ++ [EK.cl])
        refine KsAt.snoc (e := .cl) ?_ ⟨t2, rfl, s13 _ _ (s12 _ _ h11)⟩
        refine KsAt.app (es := .op 1 2 :: ls.map EK.fl) ?_ (ksFs (hl2.same s613))
        refine .cons ⟨t1, rfl, s13 _ _ (s12 _ _ (s11 _ _ (s10 _ _ (s9 _ _ (s8 _ _ h7)))))⟩ (ksFs (hfs6.same s613))
      have hlen := pr_len hks
      rw [box_len] at hlen
      have hwl : (wideL n o).length ≤ 6 := by
        unfold wideL
        rw [List.length_append, List.length_replicate]
        have := wide_len 3 n
        omega
      have hwm : ∀ l ∈ wideL n o, 0 ≤ l.m := fun l m => by
        rcases List.mem_append.mp m with m | m
        · exact (wide_ok 3 n hev l m).m.1
        · rw [(List.mem_replicate.mp m).2]; decide
      have hws : sumM (wideL n o) ≤ 512 := by
        have e1 : ∀ (a b : List LF), sumM (a ++ b) = sumM a + sumM b := fun a b => by
          induction a with
          | nil => show sumM b = 0 + sumM b; omega
          | cons x r ih => show x.m + sumM (r ++ b) = x.m + sumM r + sumM b; rw [ih]; omega
        have e2 : ∀ o : Nat, sumM (List.replicate o out1) = o := fun o => by
          induction o with
          | zero => rfl
          | succ k ih => rw [List.replicate_succ]; show (1 : Int) + sumM (List.replicate k out1) = _; rw [ih]; omega
        unfold wideL
        rw [e1, e2, wide_sum 3 n (by omega)]
        omega
      intro x2 dy nx2 ndy nxy
      have s14 : Same H13 (L2.upd (L2.upd H13 dy (.own x2)) x2 (.ins (He.ga K "Layout") dy [])) := fun c o e => by rw [upd_ne (ne_of_none e nx2), upd_ne (ne_of_none e ndy)]; exact e
      refine ⟨_, x2, dy, l7, _, (box 1 2 (wideL n o)).map entD, rfl, upd_same, s14 _ _ h13, by rw [List.length_map, hlen, box_len], by rw [List.length_map, box_len]; omega, (hks.same s14).ents, badE_box (by decide) (by decide) hwm hws, fun H14 t' bt h1 h2 => ⟨rfl, ?_⟩⟩
      walk_at "rl wp"
      have ms := make_same nx2 ndy bt
      exact q x2 _ (sm.trans (s4.trans (s5.trans (s6.trans (s613.trans ms))))) ⟨t', dy, _, h1, h2, hks.same ms⟩
end T61
end
section
set_option Elab.async false
set_option linter.all false
set_option maxRecDepth 100000
set_option maxHeartbeats 1000000
namespace T61
open PySem PySem.Spec PyProof.Rows L2 L2.RL
local macro_rules | `(tactic| walk_at "rl ty") => `(tactic| first
  | assumption
  | exact .base (.int _)
  | exact .base (.str _)
  | exact .base .non
  | exact .base (.bl _)
  | exact ty_sqT (by walk_at "rl hp")
  | exact ty_sqL (by walk_at "rl hp")
  | exact .base (.tup (by walk_at "rl hp"))
  | exact .base (.lst (by walk_at "rl hp"))
  | exact .base (.dK (by walk_at "rl hp")))
local macro_rules | `(tactic| walk_at "rl if") => `(tactic| first
  | with_reducible refine iteT' rfl ?_
  | with_reducible refine iteF' rfl ?_
  | (refine iteT' rfl ?_)
  | (refine iteF' rfl ?_))
local macro_rules | `(tactic| walk_at "rl side") => `(tactic| first | assumption | omega | (constructor <;> omega) | decide)
local macro_rules | `(tactic| walk_at "rl ne") => `(tactic| first
  | assumption
  | exact Ne.symm (by assumption)
  | walk_at "rl ne2"
  | exact ne_of (by assumption) (by walk_at "rl hq") (by intro z; cases z)
  | exact (ne_of (by assumption) (by walk_at "rl hq") (by intro z; cases z)).symm)
local macro_rules | `(tactic| walk_at "rl hq") => `(tactic| first
  | assumption
  | exact upd_same
  | (refine' upd_at ?rlne ?rlhq; (case rlne => walk_at "rl ne"); (case rlhq => walk_at "rl hq"))
  | (refine' Same.at ?rlsa ?rlhq; (case rlsa => assumption); (case rlhq => walk_at "rl hq"))
  | (refine' But.at ?rlbu ?rlne ?rlhq; (case rlbu => assumption); (case rlne => walk_at "rl ne"); (case rlhq => walk_at "rl hq")))
local macro_rules | `(tactic| walk_at "rl hp") => `(tactic| first
  | assumption
  | (refine' SqL.of ?rlhq; (case rlhq => walk_at "rl hq"))
  | (refine' SqT.of ?rlhq; (case rlhq => walk_at "rl hq"))
  | (refine' Same.seq ?rlsa ?rlhp; (case rlsa => assumption); (case rlhp => walk_at "rl hp"))
  | (refine' Same.sqT ?rlsa ?rlhp; (case rlsa => assumption); (case rlhp => walk_at "rl hp"))
  | walk_at "rl hp2"
  | walk_at "rl hq")
local macro_rules | `(tactic| walk_at "rl w1") => `(tactic| first
  | with_reducible refine w_seq ?_
  | ((with_reducible refine' w_var ?rlv ?_); (case rlv => exact rfl))
  | with_reducible refine w_c ?_
  | with_reducible refine w_op ?_
  | with_reducible refine w_I0 ?_
  | with_reducible refine w_asg ?_
  | ((with_reducible refine' w_gName ?_); dsimp only [List.set])
  | ((with_reducible refine' w_nxD ?rle ?_); (case rle => exact rfl))
  | ((with_reducible refine' w_rtD ?rle ?_); (case rle => exact rfl))
  | with_reducible refine w_next ?_
  | with_reducible refine w_ret ?_
  | with_reducible refine w_cons ?_
  | with_reducible refine w_nil ?_
  | with_reducible refine w_ifS ?_
  | with_reducible refine w_test ?_
  | with_reducible refine w_B ?_
  | with_reducible refine w_bl ?_
  | with_reducible refine w_bl1 ?_
  | with_reducible refine w_blR ?_
  | with_reducible refine w_eqI ?_
  | with_reducible refine w_neI ?_
  | with_reducible refine w_eqS ?_
  | with_reducible refine w_neS ?_
  | with_reducible refine w_eqB ?_
  | with_reducible refine w_neB ?_
  | with_reducible refine w_and ?_
  | with_reducible refine w_or ?_
  | with_reducible refine w_not ?_
  | with_reducible refine w_andV ?_
  | with_reducible refine w_orV ?_
  | with_reducible refine w_notV ?_
  | with_reducible refine w_if ?_
  | with_reducible refine w_chain ?_
  | with_reducible refine w_un ?_
  | with_reducible refine w_U ?_
  | ((with_reducible refine' w_I ?rlc ?_); (case rlc => walk_at "rl side"))
  | with_reducible refine w_drop ?_
  | with_reducible refine w_retN ?_
  | with_reducible refine w_par ?_
  | ((with_reducible refine' w_par2 ?_); dsimp only [List.set])
  | ((with_reducible refine' w_aug ?rla ?_); (case rla => exact rfl))
  | with_reducible refine w_ipI ?_
  | with_reducible refine w_break ?_
  | with_reducible refine w_cont ?_
  | ((with_reducible refine' w_bkD ?rle ?_); (case rle => exact rfl))
  | ((with_reducible refine' w_ctD ?rle ?_); (case rle => exact rfl))
  | with_reducible refine w_tup ?_
  | with_reducible refine w_lst ?_
  | ((with_reducible refine' w_newO ?rln ?_); (case rln => exact Nat.le_of_ble_eq_true rfl); intro _ _ _ _ _)
  | ((with_reducible refine' w_new ?rln ?_); (case rln => exact Nat.le_of_ble_eq_true rfl))
  | ((with_reducible refine' w_mk ?_); intro _ _ _ _ _)
  | ((with_reducible refine' w_gTup ?rls ?rll ?_); (case rls => walk_at "rl hp"); (case rll => exact rfl))
  | with_reducible refine w_gCons ?_
  | with_reducible refine w_gNil ?_
  | with_reducible refine w_gSub ?_
  | ((with_reducible refine' w_setL ?rls ?rlj ?_); (case rls => walk_at "rl hp"); (case rlj => exact rfl))
  | ((with_reducible refine' w_ixL ?rls ?rli ?_); (case rls => walk_at "rl hp"); (case rli => exact rfl))
  | ((with_reducible refine' w_ixT ?rls ?rli ?_); (case rls => walk_at "rl hp"); (case rli => exact rfl))
  | with_reducible refine w_call ?_
  | with_reducible refine w_trI ?_
  | with_reducible refine w_yes ?_
  | with_reducible refine w_trB ?_
  | with_reducible refine w_trN ?_
  | with_reducible refine w_cb ?_
  | with_reducible refine w_fld ?_
  | ((with_reducible refine' w_fld1 ?rlo ?rlc ?rln ?rll ?_); (case rlo => walk_at "rl hp"); (case rlc => assumption); (case rln => assumption); (case rll => exact rfl))
  | with_reducible refine w_isiO ?_
  | with_reducible refine w_isiT ?_
  | ((with_reducible refine' w_isi (r := true) ?rlt ?rlk ?_); (case rlt => walk_at "rl ty"); (case rlk => exact rfl))
  | ((with_reducible refine' w_isi (r := false) ?rlt ?rlk ?_); (case rlt => walk_at "rl ty"); (case rlk => exact rfl))
  | ((with_reducible refine' w_isi2 (r := true) ?rlT ?rlt ?rlk ?_); (case rlT => walk_at "rl hp"); (case rlt => walk_at "rl ty"); (case rlk => exact rfl))
  | ((with_reducible refine' w_isi2 (r := false) ?rlT ?rlt ?rlk ?_); (case rlT => walk_at "rl hp"); (case rlt => walk_at "rl ty"); (case rlk => exact rfl))
  | with_reducible refine w_sFld ?_
  | with_reducible refine w_itemsK ?_
  | ((with_reducible refine' w_catT ?rlha ?rlhb ?rln1 ?rln2 ?rlhl ?_); (case rlha => walk_at "rl hp"); (case rlhb => walk_at "rl hp"); (case rln1 => exact (fun z => nomatch z)); (case rln2 => exact (fun z => nomatch z)); (case rlhl => exact Nat.le_trans (Nat.le_of_ble_eq_true rfl) (show 100000 ≤ sizeLine by decide)))
  | ((with_reducible refine' w_newE ?_); intro _ _ _ _ _)
  | with_reducible refine w_makeK ?_
  | ((with_reducible refine' w_sFld1 ?rlc ?rln ?rll ?rle ?_); (case rlc => assumption); (case rln => assumption); (case rll => exact Nat.lt_of_lt_of_le (Nat.lt_succ_self _) (Nat.le_of_ble_eq_true rfl)); (case rle => exact rfl))
  | ((with_reducible refine' w_sFld0 ?rlx ?rlc ?rln ?rll ?rle ?_); (case rlx => walk_at "rl hq"); (case rlc => assumption); (case rln => assumption); (case rll => exact Nat.lt_of_lt_of_le (Nat.lt_succ_self _) (Nat.le_of_ble_eq_true rfl)); (case rle => exact rfl))
  | with_reducible refine w_rflA ?_
  | with_reducible refine w_for ?_
  | with_reducible refine w_iList ?_
  | with_reducible refine w_iTup ?_
  | ((with_reducible refine' w_overL ?rls ?_); (case rls => walk_at "rl hp"))
  | ((with_reducible refine' w_overT ?rls ?_); (case rls => walk_at "rl hp"))
  | with_reducible refine w_rng1 ?_
  | ((with_reducible refine' w_rng1a ?rl1 ?rl2 ?_); (case rl1 => omega); (case rl2 => omega))
  | with_reducible refine w_rng2 ?_
  | ((with_reducible refine' w_rng2a ?rl1 ?_); (case rl1 => omega))
  | with_reducible refine w_zip2 ?_
  | with_reducible refine w_lc ?_
  | with_reducible refine w_enS ?_
  | with_reducible refine w_callSD ?_
  | with_reducible refine w_xf ?_
  | ((with_reducible refine' w_dnew ?_); intro _ _ _ _ _)
  | ((with_reducible refine' w_disp1 ?_); intro _ _ _ _ _)
  | with_reducible refine w_bm ?_
  | ((with_reducible refine' w_tyL ?rls ?_); (case rls => walk_at "rl hp"))
  | ((with_reducible refine' w_append ?rls ?rll ?_); (case rls => walk_at "rl hq"); (case rll => exact Nat.lt_of_lt_of_le (Nat.lt_succ_self _) (Nat.le_of_ble_eq_true rfl)))
  | ((with_reducible refine' w_cat ?rls ?rlt ?rll ?_); (case rls => walk_at "rl hq"); (case rlt => walk_at "rl hq"); (case rll => exact Nat.le_of_ble_eq_true rfl); intro _ _ _ _ _)
  | with_reducible refine w_int1 ?_
  | ((with_reducible refine w_intb ?_); (try dsimp only))
  | with_reducible refine w_one ?_
  | with_reducible refine w_two ?_
  | ((with_reducible refine' w_lenL ?rls ?_); (case rls => walk_at "rl hp"))
  | ((with_reducible refine' w_lenT ?rls ?_); (case rls => walk_at "rl hp"))
  | with_reducible refine w_meth ?_
  | ((with_reducible refine' w_meth1 ?rlo ?rll ?_); (case rlo => walk_at "rl hp"); (case rll => exact rfl)))
local macro_rules | `(tactic| walk_at "rl wp") => `(tactic| (repeat walk_at "rl w1"))
local macro_rules | `(tactic| walk_at "rl but") => `(tactic| first
  | assumption
  | exact But.refl _ _
  | exact But.upd
  | exact But.of_same (by assumption)
  | (refine But.trans ?_ (But.of_same (by assumption)); walk_at "rl but")
  | (refine But.trans ?_ (by assumption : But _ _ _); walk_at "rl but")
  | (refine But.trans ?_ But.upd; walk_at "rl but"))
local macro_rules | `(tactic| walk_at "rl same") => `(tactic| first
  | assumption
  | exact Same.refl _
  | (refine Same.trans ?_ (by assumption : Same _ _); walk_at "rl same"))

local macro_rules | `(tactic| walk_at "rl wi") => `(tactic| (repeat (first
  | walk_at "rl w1"
  | ((with_reducible refine' iteF' ?rlif ?_); (case rlif => exact rfl))
  | ((with_reducible refine' iteT' ?rlif ?_); (case rlif => exact rfl)))))
local macro_rules | `(tactic| walk_at "rl ty") => `(tactic| exact .base (.dK (by assumption)))
local macro_rules | `(tactic| walk_at "rl ty") => `(tactic| exact .base (.lst (by assumption)))
local macro_rules | `(tactic| walk_at "rl ty") => `(tactic| exact .base (.tup (by assumption)))
local macro_rules | `(tactic| walk_at "rl w1") => `(tactic| first
  | with_reducible refine w_par3 ?_
  | ((with_reducible refine' w_par3a ?_); dsimp only [List.set])
  | with_reducible refine w_dget ?_
  | ((with_reducible refine' w_dgetS ?rls ?rlv ?_); (case rls => walk_at "rl hq"); (case rlv => exact rfl))
  | ((with_reducible refine' w_dgetI ?rls ?rlv ?_); (case rls => walk_at "rl hq"); (case rlv => exact rfl))
  | with_reducible refine w_dget2 ?_
  | ((with_reducible refine' w_isD ?rls ?_); (case rls => walk_at "rl hq"))
  | ((with_reducible refine' w_dget2S ?rls ?_); (case rls => walk_at "rl hq"))
  | ((with_reducible refine' w_dget2I ?rls ?_); (case rls => walk_at "rl hq"))
  | ((with_reducible refine' w_setDS ?rls ?rll ?rlm ?_); (case rls => walk_at "rl hq"); (case rll => exact Nat.lt_of_lt_of_le (Nat.lt_succ_self _) (Nat.le_of_ble_eq_true rfl)); (case rlm => exact rfl))
  | ((with_reducible refine' w_tyD ?rls ?_); (case rls => walk_at "rl hq"))
  | with_reducible refine w_jNil ?_
  | with_reducible refine w_jCons ?_
  | with_reducible refine w_prop ?_
  | with_reducible refine w_makeKS ?_
  | with_reducible refine w_pNil ?_
  | with_reducible refine w_pCons ?_
  | ((with_reducible refine' w_dispN ?_); intro _ _ _ _ _))

local macro_rules | `(tactic| walk_at "rl w1") => `(tactic| ((with_reducible refine' w_dispP ?_); intro _ _ _ _ _))
local macro_rules | `(tactic| walk_at "rl w1") => `(tactic| with_reducible refine w_ifT ?_)
local macro_rules | `(tactic| walk_at "rl w1") => `(tactic| ((with_reducible refine' w_dgS ?rls ?rlv ?_); (case rls => walk_at "rl hq"); (case rlv => exact rfl)))

local macro_rules | `(tactic| walk_at "rl w1") => `(tactic| first
  | with_reducible refine w_din ?_
  | ((with_reducible refine' w_dinI ?rls ?_); (case rls => walk_at "rl hq"))
  | ((with_reducible refine' w_dinT ?rls ?rlt ?_); (case rls => walk_at "rl hq"); (case rlt => walk_at "rl hq"))
  | with_reducible refine w_callN ?_)

local macro_rules | `(tactic| walk_at "rl w1") => `(tactic| ((with_reducible refine' w_dnewT ?_); intro _ _ _ _ _))
local macro_rules | `(tactic| walk_at "rl w1") => `(tactic| with_reducible refine w_enm ?_)

local macro_rules | `(tactic| walk_at "rl w1") => `(tactic| with_reducible refine w_makeC ?_)

inductive Told
  | usage (d : PyData)
  | many
  | none
def Told.txt : Told → List V
  | .usage d => [.str "usage", .str d.shown]
  | .many => [.str "many", .str "entries"]
  | .none => []
def cutP (us : List Int) : Int → Bool := keptB (kvsOf us)
def told (fs : List LF) : PyData → Told
  | d => match lookBad d with
    | some d' => .usage d'
    | none => match d with
      | .list ds | .tuple ds => if 400 < wLen (leftF (ctF (cutP (ds.filterMap fun d => match d with | .int i => some i | _ => none)) fs)) then .many else .none
      | _ => .none
def spTold (K : PySem.W.Frag) : Sp := fun vs H Q _ => ∃ (B : Addr → Prop) (la : Addr) (fs : List LF) (u : V) (d : PyData), vs = [.ref la, u] ∧ LyAt K H la fs ∧ fs.length ≤ 398 ∧ Dq H B u d ∧ (∀ m, d ≠ .dict m) ∧
  (∀ d', lookBad d = some d' → d'.showable = true ∧ d'.shown.length ≤ sizeLine ∧ d'.depth ≤ 10 ∧ ∀ p H', Same H H' → H' p = some (.tup [.str "usage", .str d'.shown]) → Q (.ref p) H') ∧
  (lookBad d = none → ∃ us : List Int, (d = .list (us.map PyData.int) ∨ d = .tuple (us.map PyData.int)) ∧ us.length ≤ 100 ∧ (ctF (keptB (kvsOf us)) fs).length ≤ 1000 ∧ (∀ l ∈ ctF (keptB (kvsOf us)) fs, 0 ≤ l.m) ∧ sumM (leftF (ctF (keptB (kvsOf us)) fs)) ≤ 512 ∧
    ∀ p H', Same H H' → H' p = some (.tup (if 400 < wLen (leftF (ctF (keptB (kvsOf us)) fs)) then [.str "many", .str "entries"] else [])) → Q (.ref p) H')
theorem sc__law_told : FnScope ["_law_layout", "_law_uses", "e"] ["_law_layout", "_law_uses"] (defScope (top 80)) := ⟨rfl, rfl, rfl, by decide +kernel, rfl, by decide +kernel, by decide +kernel⟩
theorem ok__law_told {P : Program} {w : World} {K : PySem.W.Frag} {mg : Str → Option Value} {base : Heap} (T : TT K mg) (D_cut : Ld P w K mg base (L2.CX P w) 9 "cut" ["layout", "usages"] [] (spCut K))   : Lg P w K mg base CX0 10 "_law_told" ["_law_layout", "_law_uses"] [] (spTold K) := by
  obtain ⟨⟨fd_cut, ds_cut, F_cut, b_cut, v_cut⟩, g_cut, k_cut⟩ := D_cut
  obtain ⟨fd, F⟩ := T.d__law_told
  refine ⟨⟨fd, [], FunD.okG F sc__law_told (fun vs H Q E h => ?_) (fun cdv A outer s H vs Q E hgd hr h => ?_), FunD.bindsN F (fun _ _ _ _ _ _ us hl => match us, hl with | [_, _], _ => rfl), .nil⟩, T.g__law_told, F.kp⟩
  · obtain ⟨B, la, fs, u, d, rfl, _⟩ := h
    rfl
  · obtain ⟨B, la, fs, u, d, rfl, ⟨t, dx, xs, hla, ht, hks⟩, hfl, hd, hnd, q1, q2⟩ := h
    refine ⟨_, PSs.nox ((pss_cons (ps_try_asM rfl rfl takes0 (fun W pn xe tk _ => (pss_one (ps_expr (pe_callSD F_cut hr (by rfl) g_cut k_cut b_cut v_cut (fun σ => passAt tk σ) (pa_cons (pv 0) (pa_cons (pv 1) pa_nil)))))) (.cons (i := 2) ⟨by rfl, by decide, .inl T.g_NoUsage⟩ sc__law_told.nd rfl rfl (fun a oe cls d pn hz hf => (pss_one (ps_ret (pe_ifExp (PW.pt (pw_and (pt_val (pe_callB (call_isX T.xi_NoUsage hz hf) (by rfl) T.m_isinstance (by decide +kernel) (pa_cons (pv 2) (pa_cons (pe_bltn (v := .ty "TypeError") (by rfl) T.m_TypeError (by decide +kernel) rfl) pa_nil)))) (pw_and1 (pt_not (pt_val (pe_callB (call_isX T.xi_NoUsage hz hf) (by rfl) T.m_isinstance (by decide +kernel) (pa_cons (pv 2) (pa_cons (pe_bltn (v := .ty "ValueError") (by rfl) T.m_ValueError (by decide +kernel) rfl) pa_nil)))))))) (pe_tup (pa_cons pe_str (pa_cons (pe_callB (call_reprD (B := fun _ => True) (by exact hgd) (by have hu := room_un hr; exact hu)) (by rfl) T.m_repr (by decide +kernel) (pa_cons (pe_xf T.xf_NoUsage T.xn_NoUsage_usage hz hf (pv 2)) pa_nil)) pa_nil))) (pe_tup (pa_cons pe_str pa_nil)))))) (.cons (i := 2) ⟨by rfl, by decide, .inl T.g_TooMany⟩ sc__law_told.nd rfl rfl (fun a oe cls d pn hz hf => (pss_one (ps_ret (pe_tup (pa_cons pe_str (pa_cons (pe_xf T.xf_TooMany T.xn_TooMany_what hz hf (pv 2)) pa_nil)))))) .nil))) (pss_one (ps_ret (pe_tup pa_nil))))), ?_⟩; rw [start_3_2]; try dsimp only [cxOf]
    walk_at "rl wp"
    refine ⟨B, la, t, dx, xs, 1, 2, fs, u, d, rfl, hla, ht, hks, hfl, by decide, by decide, hd, hnd, fun d' hl y e H' s hy he => ?_, fun hl => ?_⟩
    · obtain ⟨w1, w2, w3, q⟩ := q1 d' hl
      refine ⟨true, T.em_NoUsage, (fun _ e0 ne => ?_), (fun z => nomatch z)⟩
      walk_at "rl wp"
      have hy2 : Dq H' (fun _ => True) y d' := Dq.keep (fun a o n e => ⟨e, trivial⟩) d' y hy
      refine ⟨_, _, true, e, _, rfl, rfl, rfl, he, fun u r => r, T.ki_NoUsage, ?_⟩
      dsimp only [List.set]
      walk_at "rl wi"
      refine ⟨_, _, false, e, _, rfl, rfl, rfl, he, fun u r => r, T.nkV_NoUsage, ?_⟩
      walk_at "rl wi"
      refine ⟨rfl, e, _, y, rfl, he, rfl, ?_⟩
      walk_at "rl wp"
      refine ⟨y, d', rfl, hy2, w1, w2, w3, ?_⟩
      walk_at "rl wp"
      rename_i p H2 np s2 hp
      exact q p H2 (s.trans s2) hp
    obtain ⟨us, hus, h1, h2, h3, h4, q⟩ := q2 hl
    refine ⟨us, hus, h1, h2, h3, h4, fun c e H' s he => ?_, fun c x H' s => ?_⟩
    · rw [if_pos c] at q
      refine ⟨false, T.nem_TM, (fun z => nomatch z), (fun _ => ?_)⟩
      refine ⟨true, T.em_TooMany, (fun _ e0 ne => ?_), (fun z => nomatch z)⟩
      walk_at "rl wp"
      refine ⟨rfl, e, _, _, rfl, he, rfl, ?_⟩
      walk_at "rl wp"
      rename_i p H2 np s2 hp
      exact q p H2 (s.trans s2) hp
    · rw [if_neg (by omega)] at q
      walk_at "rl wp"
      rename_i p H2 np s2 hp
      exact q p H2 (s.trans s2) hp
end T61
end
section
set_option Elab.async false
set_option linter.all false
set_option maxRecDepth 100000
set_option maxHeartbeats 1000000
namespace T61
open PySem PySem.Spec PyProof.Rows L2 L2.RL

def single (us : List Int) : List (List Int) := us.map fun u => [u]
theorem runs_alt {p : Int → Bool} (h1 : p 65537 = true) (h2 : p 65538 = false) : ∀ (k : Nat) (acc : List (List Int)), (acc = [] ∨ ∃ rs r0 r, acc = rs ++ [r0 :: r] ∧ p r0 = false) → (alt k).foldl (runStep p) acc = acc ++ single (alt k)
  | 0, acc, _ => by simp [alt, single]
  | k + 1, acc, h => by
    have e1 : runStep p acc 65537 = acc ++ [[65537]] := by
      rcases h with rfl | ⟨rs, r0, r, rfl, hr⟩
      · rfl
      · rw [runStep_snoc, if_neg (by show ¬ p r0 = p 65537; rw [hr, h1]; decide)]
    have e2 : runStep p (acc ++ [[65537]]) 65538 = acc ++ [[65537]] ++ [[65538]] := by
      rw [runStep_snoc, if_neg (by show ¬ p 65537 = p 65538; rw [h1, h2]; decide)]
    show (alt k).foldl (runStep p) (runStep p (runStep p acc 65537) 65538) = _
    rw [e1, e2, runs_alt h1 h2 k _ (.inr ⟨acc ++ [[65537]], 65538, [], rfl, h2⟩)]
    show _ = acc ++ ([65537] :: [65538] :: single (alt k))
    simp
theorem runs_none {p : Int → Bool} : ∀ (us r : List Int), p (r.headD 0) = false → (∀ u ∈ us, p u = false) → r ≠ [] → us.foldl (runStep p) [r] = [r ++ us]
  | [], r, _, _, _ => by simp
  | u :: us, r, h, hu, hr => by
    have e1 : runStep p [r] u = [r ++ [u]] := by
      show runStep p ([] ++ [r]) u = _
      rw [runStep_snoc, if_pos (by rw [h, hu u List.mem_cons_self])]
      rfl
    rw [List.foldl_cons, e1, runs_none us (r ++ [u]) (by cases r with | nil => exact absurd rfl hr | cons a r => exact h) (fun v m => hu v (List.mem_cons_of_mem _ m)) (by simp)]
    simp
theorem alt_none {p : Int → Bool} (h1 : p 65537 = false) (h2 : p 65538 = false) {u : Int} : ∀ {k}, u ∈ alt k → p u = false
  | 0, h => by cases h
  | k + 1, h => by
    rcases List.mem_cons.mp h with rfl | h
    · exact h1
    · rcases List.mem_cons.mp h with rfl | h
      · exact h2
      · exact alt_none h1 h2 h
theorem alt_pos {k : Nat} (h : 0 < k) : ∃ j, alt k = 65537 :: 65538 :: alt j := ⟨k - 1, by obtain ⟨j, rfl⟩ : ∃ j, k = j + 1 := ⟨k - 1, by omega⟩; rfl⟩
theorem chunk1 {p : Int → Bool} (h1 : p 65537 = true) (h2 : p 65538 = false) {m : Nat} (hm : 0 < m) (he : m % 2 = 0) : (cutF p (fl1 m)).length = m ∧ (∀ l ∈ cutF p (fl1 m), l.m = 1 ∧ l.r = "input") ∧ ∃ l ∈ cutF p (fl1 m), l.f ≠ 1 := by
  have e : cutF p (fl1 m) = (single (alt (m / 2))).map (cutRun p (fl1 m)) := by
    show (if (2 : Int) = 1 then _ else if ((m : Nat) : Int) = 0 then _ else (runsOf p (alt (m / 2))).map (cutRun p (fl1 m))) = _
    rw [if_neg (by decide), if_neg (by omega)]
    unfold runsOf
    rw [runs_alt h1 h2 _ _ (.inl rfl)]
    rfl
  rw [e]
  refine ⟨by rw [List.length_map]; unfold single; rw [List.length_map, alt_len]; omega, fun l hl => ?_, ?_⟩
  · obtain ⟨r, hr, rfl⟩ := List.mem_map.mp hl
    obtain ⟨u, hu, rfl⟩ := List.mem_map.mp hr
    unfold cutRun
    split <;> exact ⟨rfl, rfl⟩
  · obtain ⟨j, ej⟩ := alt_pos (k := m / 2) (by omega)
    refine ⟨cutRun p (fl1 m) [65537], ?_, ?_⟩
    · rw [ej]
      exact List.mem_cons_self
    · unfold cutRun
      rw [if_pos (show p (([65537] : List Int).headD 0) = true from h1)]
      show (2 : Int) ≠ 1
      decide
theorem chunk0 {p : Int → Bool} (h1 : p 65537 = false) (h2 : p 65538 = false) {m : Nat} (hm : 0 < m) (he : m % 2 = 0) : (cutF p (fl1 m)).length = 1 ∧ ∀ l ∈ cutF p (fl1 m), l.f = 1 ∧ 0 ≤ l.m := by
  obtain ⟨j, ej⟩ := alt_pos (k := m / 2) (by omega)
  have e : cutF p (fl1 m) = [cutRun p (fl1 m) (alt (m / 2))] := by
    show (if (2 : Int) = 1 then _ else if ((m : Nat) : Int) = 0 then _ else (runsOf p (alt (m / 2))).map (cutRun p (fl1 m))) = _
    rw [if_neg (by decide), if_neg (by omega)]
    unfold runsOf
    rw [ej]
    show ((65538 :: alt j).foldl (runStep p) [[65537]]).map (cutRun p (fl1 m)) = _
    rw [runs_none _ [65537] h1 (fun u hu => by
      rcases List.mem_cons.mp hu with rfl | hu
      · exact h2
      · exact alt_none h1 h2 hu) (by simp)]
    rfl
  rw [e]
  refine ⟨rfl, fun l hl => ?_⟩
  rw [List.mem_singleton.mp hl]
  unfold cutRun
  rw [ej, if_neg (by show ¬ p 65537 = true; rw [h1]; decide)]
  exact ⟨rfl, by show (0 : Int) ≤ ((65537 :: 65538 :: alt j : List Int).length : Int); omega⟩
theorem cut_rep {p : Int → Bool} : ∀ o : Nat, ctF p (List.replicate o out1) = List.replicate o out1
  | 0 => rfl
  | o + 1 => by
    show cutF p out1 ++ ctF p (List.replicate o out1) = _
    rw [cut_rep o]
    rfl
theorem ctF_app {p : Int → Bool} {a b : List LF} : ctF p (a ++ b) = ctF p a ++ ctF p b := List.flatMap_append
theorem wide1 {p : Int → Bool} (h1 : p 65537 = true) (h2 : p 65538 = false) : ∀ (k n : Nat), n ≤ 254 * k → n % 2 = 0 → (ctF p (wideFs k n)).length = n ∧ (∀ l ∈ ctF p (wideFs k n), l.m = 1 ∧ l.r = "input") ∧ (0 < n → ∃ l ∈ ctF p (wideFs k n), l.f ≠ 1)
  | 0, n, h, _ => by obtain rfl : n = 0 := by omega
                     exact ⟨rfl, (fun l m => by cases m), (fun z => absurd z (by decide))⟩
  | k + 1, n, h, he => by
    by_cases c : n = 0
    · subst c; exact ⟨rfl, (fun l m => by cases m), (fun z => absurd z (by decide))⟩
    · rw [wideFs_pos c]
      have g1 : 0 < min n 254 := by omega
      have g2 : min n 254 % 2 = 0 := by omega
      have g3 : n - 254 ≤ 254 * k := by omega
      have g5 : min n 254 + (n - 254) = n := by clear h he; omega
      have g4 : (n - 254) % 2 = 0 := by omega
      obtain ⟨a1, a2, a3⟩ := chunk1 h1 h2 g1 g2
      obtain ⟨b1, b2, _⟩ := wide1 h1 h2 k (n - 254) g3 g4
      have e : ctF p (fl1 (min n 254) :: wideFs k (n - 254)) = cutF p (fl1 (min n 254)) ++ ctF p (wideFs k (n - 254)) := rfl
      rw [e]
      refine ⟨by rw [List.length_append, a1, b1]; exact g5, fun l m => (List.mem_append.mp m).elim (a2 l) (b2 l), fun _ => ?_⟩
      obtain ⟨l, m, h⟩ := a3
      exact ⟨l, List.mem_append_left _ m, h⟩
theorem wide0 {p : Int → Bool} (h1 : p 65537 = false) (h2 : p 65538 = false) : ∀ (k n : Nat), n % 2 = 0 → (ctF p (wideFs k n)).length ≤ k ∧ (∀ l ∈ ctF p (wideFs k n), l.f = 1 ∧ 0 ≤ l.m)
  | 0, n, _ => ⟨Nat.le_refl _, fun l m => by cases m⟩
  | k + 1, n, he => by
    by_cases c : n = 0
    · subst c; exact ⟨Nat.zero_le _, (fun l m => by cases m)⟩
    · rw [wideFs_pos c]
      have g1 : 0 < min n 254 := by omega
      have g2 : min n 254 % 2 = 0 := by omega
      have g4 : (n - 254) % 2 = 0 := by omega
      obtain ⟨a1, a2⟩ := chunk0 h1 h2 g1 g2
      obtain ⟨b1, b2⟩ := wide0 h1 h2 k (n - 254) g4
      have e : ctF p (fl1 (min n 254) :: wideFs k (n - 254)) = cutF p (fl1 (min n 254)) ++ ctF p (wideFs k (n - 254)) := rfl
      rw [e]
      exact ⟨by rw [List.length_append, a1]; omega, fun l m => (List.mem_append.mp m).elim (a2 l) (b2 l)⟩
theorem sum_ones : ∀ {ls : List LF}, (∀ l ∈ ls, l.m = 1) → sumM ls = ls.length
  | [], _ => rfl
  | l :: ls, h => by
    have := sum_ones (ls := ls) fun l m => h l (List.mem_cons_of_mem _ m)
    show l.m + sumM ls = _
    rw [this, h l List.mem_cons_self, List.length_cons]
    omega
theorem left_none {cs : List LF} (h : ∀ l ∈ cs, l.f = 1) : leftF cs = [] := by
  unfold leftF
  rw [List.filter_eq_nil_iff]
  intro l _
  unfold usedR
  rw [List.any_eq_true]
  rintro ⟨l', m, e⟩
  rw [decide_eq_false (fun z => z (h l' m))] at e
  cases e
theorem wideA {p : Int → Bool} (h1 : p 65537 = true) (h2 : p 65538 = false) {n o : Nat} (hn : n ≤ 512) (he : n % 2 = 0) (h0 : 0 < n) (ho : o ≤ 3) : (ctF p (wideL n o)).length ≤ 1000 ∧ (∀ l ∈ ctF p (wideL n o), 0 ≤ l.m) ∧ sumM (leftF (ctF p (wideL n o))) = n ∧ wLen (leftF (ctF p (wideL n o))) = n + 2 := by
  obtain ⟨a, b, c⟩ := wide1 h1 h2 3 n (by omega) he
  have e : ctF p (wideL n o) = ctF p (wideFs 3 n) ++ List.replicate o out1 := by unfold wideL; rw [ctF_app, cut_rep]
  obtain ⟨l0, m0, f0⟩ := c h0
  have ui : usedR (ctF p (wideL n o)) "input" = true := by
    rw [e]
    exact List.any_eq_true.mpr ⟨l0, List.mem_append_left _ m0, by rw [decide_eq_true f0, decide_eq_true (b l0 m0).2]; rfl⟩
  have uo : usedR (ctF p (wideL n o)) "output" = false := by
    rw [e]
    refine Bool.eq_false_iff.mpr fun z => ?_
    obtain ⟨l, m, q⟩ := List.any_eq_true.mp z
    obtain ⟨q1, q2⟩ := Bool.and_eq_true_iff.mp q
    rcases List.mem_append.mp m with m | m
    · have := of_decide_eq_true q2
      rw [(b l m).2] at this
      exact absurd this (by decide +kernel)
    · rw [(List.mem_replicate.mp m).2] at q1
      exact of_decide_eq_true q1 rfl
  have lf : leftF (ctF p (wideL n o)) = ctF p (wideFs 3 n) := by
    show (ctF p (wideL n o)).filter (fun l => usedR (ctF p (wideL n o)) l.r) = _
    generalize hu : usedR (ctF p (wideL n o)) = U at ui uo
    rw [e, List.filter_append]
    have f1 : (ctF p (wideFs 3 n)).filter (fun l => U l.r) = ctF p (wideFs 3 n) := List.filter_eq_self.mpr fun l m => by rw [(b l m).2]; exact ui
    have f2 : (List.replicate o out1).filter (fun l => U l.r) = [] := List.filter_eq_nil_iff.mpr fun l m => by rw [(List.mem_replicate.mp m).2]; show ¬ U "output" = true; rw [uo]; decide
    rw [f1, f2, List.append_nil]
  refine ⟨by rw [e, List.length_append, a, List.length_replicate]; omega, fun l m => ?_, by rw [lf, sum_ones fun l m => (b l m).1, a], ?_⟩
  · rw [e] at m
    rcases List.mem_append.mp m with m | m
    · rw [(b l m).1]; decide
    · rw [(List.mem_replicate.mp m).2]; decide
  · rw [lf]
    unfold wLen
    rw [if_neg (fun z => by rw [z] at a; simp at a; omega), a]
theorem wideB {p : Int → Bool} (h1 : p 65537 = false) (h2 : p 65538 = false) {n o : Nat} (he : n % 2 = 0) (ho : o ≤ 3) : (ctF p (wideL n o)).length ≤ 1000 ∧ (∀ l ∈ ctF p (wideL n o), 0 ≤ l.m) ∧ leftF (ctF p (wideL n o)) = [] := by
  obtain ⟨a, b⟩ := wide0 h1 h2 3 n he
  have e : ctF p (wideL n o) = ctF p (wideFs 3 n) ++ List.replicate o out1 := by unfold wideL; rw [ctF_app, cut_rep]
  refine ⟨by rw [e, List.length_append, List.length_replicate]; omega, fun l m => ?_, left_none fun l m => ?_⟩
  · rw [e] at m
    rcases List.mem_append.mp m with m | m
    · exact (b l m).2
    · rw [(List.mem_replicate.mp m).2]; decide
  · rw [e] at m
    rcases List.mem_append.mp m with m | m
    · exact (b l m).1
    · rw [(List.mem_replicate.mp m).2]; rfl
theorem wideL_len {n o : Nat} (ho : o ≤ 3) : (wideL n o).length ≤ 398 := by
  unfold wideL
  rw [List.length_append, List.length_replicate]
  have := wide_len 3 n
  omega
def oddD : List PyData := [.none, .bool true, .int (-1), .int (2 ^ (32 : Int).toNat), .str "1", .tuple [.int 1], .list [], .int (10 ^ (40 : Int).toNat), .bool false]
theorem oddD_ok {d : PyData} (h : d ∈ oddD) : d.showable = true ∧ d.shown.length ≤ sizeLine ∧ d.depth ≤ 10 ∧ inI d 0 4294967295 = false ∧ d.canLay0 = true ∧ (PyData.str d.shown).canLay0 = true ∧ (∀ m, d ≠ .dict m) := by
  have k : ∀ d ∈ oddD, d.showable = true ∧ d.shown.length ≤ 100 ∧ d.depth ≤ 10 ∧ inI d 0 4294967295 = false ∧ d.canLay0 = true ∧ (PyData.str d.shown).canLay0 = true := by decide +kernel
  obtain ⟨h1, h2, h3, h4, h5, h6⟩ := k d h
  refine ⟨h1, Nat.le_trans h2 (by decide), h3, h4, h5, h6, fun m e => ?_⟩
  subst e
  simp [oddD] at h
theorem dq_memD {H : Hp} {B : Addr → Prop} {xs : List V} {ds : List PyData} (h : DqAll H B xs ds) {x : V} (m : x ∈ xs) : ∃ d ∈ ds, Dq H B x d := by
  obtain ⟨i, hi, e⟩ := List.mem_iff_getElem.mp m
  obtain ⟨d, hd, hx⟩ := h.at (i := i) (x := x) (by rw [List.getElem?_eq_getElem hi, e])
  exact ⟨d, List.mem_of_getElem? hd, hx⟩
theorem eqv_strs : ∀ ss : List Str, PyData.eqv (.tuple (ss.map PyData.str)) (.tuple (ss.map PyData.str)) = true
  | [] => rfl
  | s :: ss => by
    have h := eqv_strs ss
    show (PyData.eqv (.str s) (.str s) && PyData.eqv (.tuple (ss.map PyData.str)) (.tuple (ss.map PyData.str))) = true
    rw [h, Bool.and_true]
    show decide (s = s) = true
    exact decide_eq_true rfl
theorem dp_strs {K : PySem.W.Frag} {H : Hp} : ∀ ss : List Str, DpAll K H (ss.map V.str) (ss.map PyData.str)
  | [] => .nil
  | s :: ss => .cons (.str s) (dp_strs ss)
theorem shaped_strs (ss : List Str) (hs : ∀ s ∈ ss, (PyData.str s).canLay0 = true) : SeqAt.shaped (.tuple (ss.map PyData.str)) = true := by
  have k : ∀ ss : List Str, (∀ s ∈ ss, (PyData.str s).canLay0 = true) → PyData.canLayAll0 (ss.map PyData.str) = true ∧ PyData.depthAll (ss.map PyData.str) ≤ 1 := fun ss hs => by
    induction ss with
    | nil => exact ⟨rfl, by decide⟩
    | cons s ss ih =>
      have ih := ih fun s m => hs s (List.mem_cons_of_mem _ m)
      exact ⟨by show ((PyData.str s).canLay0 && PyData.canLayAll0 (ss.map PyData.str)) = true; rw [ih.1, hs s List.mem_cons_self]; rfl, by show max (PyData.str s).depth (PyData.depthAll (ss.map PyData.str)) ≤ 1; exact Nat.max_le.mpr ⟨Nat.le_of_ble_eq_true rfl, ih.2⟩⟩
  exact shaped_tup (k ss hs).1 (Nat.le_trans (k ss hs).2 (by decide))
theorem w_neSS {K : PySem.W.Frag} {H : Hp} {Q : VK} {p q : Addr} (ss : List Str) (hs : ∀ s ∈ ss, (PyData.str s).canLay0 = true) (hp : H p = some (.tup (ss.map V.str))) (hq : H q = some (.tup (ss.map V.str))) (h : Q (.bl false) H) : rNeD K (.ref p) (.ref q) H Q :=
  ⟨_, _, .tup (SqT.of hp) (dp_strs ss), .tup (SqT.of hq) (dp_strs ss), shaped_strs ss hs, shaped_strs ss hs, by rw [eqv_strs]; exact h⟩
theorem w_eqSS {K : PySem.W.Frag} {H : Hp} {Q : VK} {p q : Addr} (ss : List Str) (hs : ∀ s ∈ ss, (PyData.str s).canLay0 = true) (hp : H p = some (.tup (ss.map V.str))) (hq : H q = some (.tup (ss.map V.str))) (h : Q (.bl true) H) : rEqD K (.ref p) (.ref q) H Q :=
  ⟨_, _, .tup (SqT.of hp) (dp_strs ss), .tup (SqT.of hq) (dp_strs ss), shaped_strs ss hs, shaped_strs ss hs, by rw [eqv_strs]; exact h⟩
theorem find_bad {as bs : List PyData} {d : PyData} (ha : ∀ a ∈ as, inI a 0 4294967295 = true) (hd : inI d 0 4294967295 = false) : (as ++ d :: bs).find? (fun d => !inI d 0 4294967295) = some d := by
  rw [List.find?_append, List.find?_eq_none.mpr (fun a m => by rw [ha a m]; decide), List.find?_cons, hd]
  rfl
theorem w_toldU {K : PySem.W.Frag} {H : Hp} {Q : VK} {E : XK} {B : Addr → Prop} {la : Addr} {fs : List LF} {u : V} {d d1 : PyData} (hly : LyAt K H la fs) (hfl : fs.length ≤ 398) (hd : Dq H B u d) (hnd : ∀ m, d ≠ .dict m) (hb : lookBad d = some d1) (hm : d1 ∈ oddD)
    (h : ∀ p H', Same H H' → H' p = some (.tup ((["usage", d1.shown] : List Str).map V.str)) → Q (.ref p) H') : spTold K ([.ref la, u] ++ []) H Q E := by
  obtain ⟨w1, w2, w3, _⟩ := oddD_ok hm
  exact ⟨B, la, fs, u, d, rfl, hly, hfl, hd, hnd, (fun d' e => by rw [hb] at e; cases e; exact ⟨w1, w2, w3, h⟩), (fun e => by rw [hb] at e; cases e)⟩
theorem w_toldI {K : PySem.W.Frag} {H : Hp} {Q : VK} {E : XK} {B : Addr → Prop} {la : Addr} {fs : List LF} {u : V} {d : PyData} (us : List Int) (ss : List Str) (hly : LyAt K H la fs) (hfl : fs.length ≤ 398) (hd : Dq H B u d) (he : d = .list (us.map PyData.int) ∨ d = .tuple (us.map PyData.int)) (hu : ∀ i ∈ us, 0 ≤ i ∧ i ≤ 4294967295) (hl : us.length ≤ 100)
    (h1 : (ctF (keptB (kvsOf us)) fs).length ≤ 1000) (h2 : ∀ l ∈ ctF (keptB (kvsOf us)) fs, 0 ≤ l.m) (h3 : sumM (leftF (ctF (keptB (kvsOf us)) fs)) ≤ 512) (h4 : (if 400 < wLen (leftF (ctF (keptB (kvsOf us)) fs)) then ([.str "many", .str "entries"] : List V) else []) = ss.map V.str)
    (h : ∀ p H', Same H H' → H' p = some (.tup (ss.map V.str)) → Q (.ref p) H') : spTold K ([.ref la, u] ++ []) H Q E := by
  have hb : lookBad d = none := by
    have k : (us.map PyData.int).find? (fun d => !inI d 0 4294967295) = none := List.find?_eq_none.mpr fun a m => by
      obtain ⟨i, hi, rfl⟩ := List.mem_map.mp m
      rw [inI_int, decide_eq_true (hu i hi).1, decide_eq_true (hu i hi).2]
      decide
    rcases he with rfl | rfl
    · exact k
    · exact k
  exact ⟨B, la, fs, u, d, rfl, hly, hfl, hd, (fun m e => by rcases he with rfl | rfl <;> cases e), (fun d' e => by rw [hb] at e; cases e), fun _ => ⟨us, he, hl, h1, h2, h3, fun p H' s hp => h p H' s (by rw [← h4]; exact hp)⟩⟩
end T61
end
section
set_option Elab.async false
set_option linter.all false
set_option maxRecDepth 100000
set_option maxHeartbeats 1000000
namespace T61
open PySem PySem.Spec PyProof.Rows L2 L2.RL
local macro_rules | `(tactic| walk_at "rl ty") => `(tactic| first
  | assumption
  | exact .base (.int _)
  | exact .base (.str _)
  | exact .base .non
  | exact .base (.bl _)
  | exact ty_sqT (by walk_at "rl hp")
  | exact ty_sqL (by walk_at "rl hp")
  | exact .base (.tup (by walk_at "rl hp"))
  | exact .base (.lst (by walk_at "rl hp"))
  | exact .base (.dK (by walk_at "rl hp")))
local macro_rules | `(tactic| walk_at "rl if") => `(tactic| first
  | with_reducible refine iteT' rfl ?_
  | with_reducible refine iteF' rfl ?_
  | (refine iteT' rfl ?_)
  | (refine iteF' rfl ?_))
local macro_rules | `(tactic| walk_at "rl side") => `(tactic| first | assumption | omega | (constructor <;> omega) | decide)
local macro_rules | `(tactic| walk_at "rl ne") => `(tactic| first
  | assumption
  | exact Ne.symm (by assumption)
  | walk_at "rl ne2"
  | exact ne_of (by assumption) (by walk_at "rl hq") (by intro z; cases z)
  | exact (ne_of (by assumption) (by walk_at "rl hq") (by intro z; cases z)).symm)
local macro_rules | `(tactic| walk_at "rl hq") => `(tactic| first
  | assumption
  | exact upd_same
  | (refine' upd_at ?rlne ?rlhq; (case rlne => walk_at "rl ne"); (case rlhq => walk_at "rl hq"))
  | (refine' Same.at ?rlsa ?rlhq; (case rlsa => assumption); (case rlhq => walk_at "rl hq"))
  | (refine' But.at ?rlbu ?rlne ?rlhq; (case rlbu => assumption); (case rlne => walk_at "rl ne"); (case rlhq => walk_at "rl hq")))
local macro_rules | `(tactic| walk_at "rl hp") => `(tactic| first
  | assumption
  | (refine' SqL.of ?rlhq; (case rlhq => walk_at "rl hq"))
  | (refine' SqT.of ?rlhq; (case rlhq => walk_at "rl hq"))
  | (refine' Same.seq ?rlsa ?rlhp; (case rlsa => assumption); (case rlhp => walk_at "rl hp"))
  | (refine' Same.sqT ?rlsa ?rlhp; (case rlsa => assumption); (case rlhp => walk_at "rl hp"))
  | walk_at "rl hp2"
  | walk_at "rl hq")
local macro_rules | `(tactic| walk_at "rl w1") => `(tactic| first
  | with_reducible refine w_seq ?_
  | ((with_reducible refine' w_var ?rlv ?_); (case rlv => exact rfl))
  | with_reducible refine w_c ?_
  | with_reducible refine w_op ?_
  | with_reducible refine w_I0 ?_
  | with_reducible refine w_asg ?_
  | ((with_reducible refine' w_gName ?_); dsimp only [List.set])
  | ((with_reducible refine' w_nxD ?rle ?_); (case rle => exact rfl))
  | ((with_reducible refine' w_rtD ?rle ?_); (case rle => exact rfl))
  | with_reducible refine w_next ?_
  | with_reducible refine w_ret ?_
  | with_reducible refine w_cons ?_
  | with_reducible refine w_nil ?_
  | with_reducible refine w_ifS ?_
  | with_reducible refine w_test ?_
  | with_reducible refine w_B ?_
  | with_reducible refine w_bl ?_
  | with_reducible refine w_bl1 ?_
  | with_reducible refine w_blR ?_
  | with_reducible refine w_eqI ?_
  | with_reducible refine w_neI ?_
  | with_reducible refine w_eqS ?_
  | with_reducible refine w_neS ?_
  | with_reducible refine w_eqB ?_
  | with_reducible refine w_neB ?_
  | with_reducible refine w_and ?_
  | with_reducible refine w_or ?_
  | with_reducible refine w_not ?_
  | with_reducible refine w_andV ?_
  | with_reducible refine w_orV ?_
  | with_reducible refine w_notV ?_
  | with_reducible refine w_if ?_
  | with_reducible refine w_chain ?_
  | with_reducible refine w_un ?_
  | with_reducible refine w_U ?_
  | ((with_reducible refine' w_I ?rlc ?_); (case rlc => walk_at "rl side"))
  | with_reducible refine w_drop ?_
  | with_reducible refine w_retN ?_
  | with_reducible refine w_par ?_
  | ((with_reducible refine' w_par2 ?_); dsimp only [List.set])
  | ((with_reducible refine' w_aug ?rla ?_); (case rla => exact rfl))
  | with_reducible refine w_ipI ?_
  | with_reducible refine w_break ?_
  | with_reducible refine w_cont ?_
  | ((with_reducible refine' w_bkD ?rle ?_); (case rle => exact rfl))
  | ((with_reducible refine' w_ctD ?rle ?_); (case rle => exact rfl))
  | with_reducible refine w_tup ?_
  | with_reducible refine w_lst ?_
  | ((with_reducible refine' w_newO ?rln ?_); (case rln => exact Nat.le_of_ble_eq_true rfl); intro _ _ _ _ _)
  | ((with_reducible refine' w_new ?rln ?_); (case rln => exact Nat.le_of_ble_eq_true rfl))
  | ((with_reducible refine' w_mk ?_); intro _ _ _ _ _)
  | ((with_reducible refine' w_gTup ?rls ?rll ?_); (case rls => walk_at "rl hp"); (case rll => exact rfl))
  | with_reducible refine w_gCons ?_
  | with_reducible refine w_gNil ?_
  | with_reducible refine w_gSub ?_
  | ((with_reducible refine' w_setL ?rls ?rlj ?_); (case rls => walk_at "rl hp"); (case rlj => exact rfl))
  | ((with_reducible refine' w_ixL ?rls ?rli ?_); (case rls => walk_at "rl hp"); (case rli => exact rfl))
  | ((with_reducible refine' w_ixT ?rls ?rli ?_); (case rls => walk_at "rl hp"); (case rli => exact rfl))
  | with_reducible refine w_call ?_
  | with_reducible refine w_trI ?_
  | with_reducible refine w_yes ?_
  | with_reducible refine w_trB ?_
  | with_reducible refine w_trN ?_
  | with_reducible refine w_cb ?_
  | with_reducible refine w_fld ?_
  | ((with_reducible refine' w_fld1 ?rlo ?rlc ?rln ?rll ?_); (case rlo => walk_at "rl hp"); (case rlc => assumption); (case rln => assumption); (case rll => exact rfl))
  | with_reducible refine w_isiO ?_
  | with_reducible refine w_isiT ?_
  | ((with_reducible refine' w_isi (r := true) ?rlt ?rlk ?_); (case rlt => walk_at "rl ty"); (case rlk => exact rfl))
  | ((with_reducible refine' w_isi (r := false) ?rlt ?rlk ?_); (case rlt => walk_at "rl ty"); (case rlk => exact rfl))
  | ((with_reducible refine' w_isi2 (r := true) ?rlT ?rlt ?rlk ?_); (case rlT => walk_at "rl hp"); (case rlt => walk_at "rl ty"); (case rlk => exact rfl))
  | ((with_reducible refine' w_isi2 (r := false) ?rlT ?rlt ?rlk ?_); (case rlT => walk_at "rl hp"); (case rlt => walk_at "rl ty"); (case rlk => exact rfl))
  | with_reducible refine w_sFld ?_
  | with_reducible refine w_itemsK ?_
  | ((with_reducible refine' w_catT ?rlha ?rlhb ?rln1 ?rln2 ?rlhl ?_); (case rlha => walk_at "rl hp"); (case rlhb => walk_at "rl hp"); (case rln1 => exact (fun z => nomatch z)); (case rln2 => exact (fun z => nomatch z)); (case rlhl => exact Nat.le_trans (Nat.le_of_ble_eq_true rfl) (show 100000 ≤ sizeLine by decide)))
  | ((with_reducible refine' w_newE ?_); intro _ _ _ _ _)
  | with_reducible refine w_makeK ?_
  | ((with_reducible refine' w_sFld1 ?rlc ?rln ?rll ?rle ?_); (case rlc => assumption); (case rln => assumption); (case rll => exact Nat.lt_of_lt_of_le (Nat.lt_succ_self _) (Nat.le_of_ble_eq_true rfl)); (case rle => exact rfl))
  | ((with_reducible refine' w_sFld0 ?rlx ?rlc ?rln ?rll ?rle ?_); (case rlx => walk_at "rl hq"); (case rlc => assumption); (case rln => assumption); (case rll => exact Nat.lt_of_lt_of_le (Nat.lt_succ_self _) (Nat.le_of_ble_eq_true rfl)); (case rle => exact rfl))
  | with_reducible refine w_rflA ?_
  | with_reducible refine w_for ?_
  | with_reducible refine w_iList ?_
  | with_reducible refine w_iTup ?_
  | ((with_reducible refine' w_overL ?rls ?_); (case rls => walk_at "rl hp"))
  | ((with_reducible refine' w_overT ?rls ?_); (case rls => walk_at "rl hp"))
  | with_reducible refine w_rng1 ?_
  | ((with_reducible refine' w_rng1a ?rl1 ?rl2 ?_); (case rl1 => omega); (case rl2 => omega))
  | with_reducible refine w_rng2 ?_
  | ((with_reducible refine' w_rng2a ?rl1 ?_); (case rl1 => omega))
  | with_reducible refine w_zip2 ?_
  | with_reducible refine w_lc ?_
  | with_reducible refine w_enS ?_
  | with_reducible refine w_callSD ?_
  | with_reducible refine w_xf ?_
  | ((with_reducible refine' w_dnew ?_); intro _ _ _ _ _)
  | ((with_reducible refine' w_disp1 ?_); intro _ _ _ _ _)
  | with_reducible refine w_bm ?_
  | ((with_reducible refine' w_tyL ?rls ?_); (case rls => walk_at "rl hp"))
  | ((with_reducible refine' w_append ?rls ?rll ?_); (case rls => walk_at "rl hq"); (case rll => exact Nat.lt_of_lt_of_le (Nat.lt_succ_self _) (Nat.le_of_ble_eq_true rfl)))
  | ((with_reducible refine' w_cat ?rls ?rlt ?rll ?_); (case rls => walk_at "rl hq"); (case rlt => walk_at "rl hq"); (case rll => exact Nat.le_of_ble_eq_true rfl); intro _ _ _ _ _)
  | with_reducible refine w_int1 ?_
  | ((with_reducible refine w_intb ?_); (try dsimp only))
  | with_reducible refine w_one ?_
  | with_reducible refine w_two ?_
  | ((with_reducible refine' w_lenL ?rls ?_); (case rls => walk_at "rl hp"))
  | ((with_reducible refine' w_lenT ?rls ?_); (case rls => walk_at "rl hp"))
  | with_reducible refine w_meth ?_
  | ((with_reducible refine' w_meth1 ?rlo ?rll ?_); (case rlo => walk_at "rl hp"); (case rll => exact rfl)))
local macro_rules | `(tactic| walk_at "rl wp") => `(tactic| (repeat walk_at "rl w1"))
local macro_rules | `(tactic| walk_at "rl but") => `(tactic| first
  | assumption
  | exact But.refl _ _
  | exact But.upd
  | exact But.of_same (by assumption)
  | (refine But.trans ?_ (But.of_same (by assumption)); walk_at "rl but")
  | (refine But.trans ?_ (by assumption : But _ _ _); walk_at "rl but")
  | (refine But.trans ?_ But.upd; walk_at "rl but"))
local macro_rules | `(tactic| walk_at "rl same") => `(tactic| first
  | assumption
  | exact Same.refl _
  | (refine Same.trans ?_ (by assumption : Same _ _); walk_at "rl same"))

local macro_rules | `(tactic| walk_at "rl wi") => `(tactic| (repeat (first
  | walk_at "rl w1"
  | ((with_reducible refine' iteF' ?rlif ?_); (case rlif => exact rfl))
  | ((with_reducible refine' iteT' ?rlif ?_); (case rlif => exact rfl)))))

def Bag (H : Hp) (a : Addr) (n : Int) : Prop := ∃ b0 b1 b2 : Int, H a = some (.lst [.int b0, .int b1, .int b2]) ∧ 0 ≤ b0 ∧ 0 ≤ b1 ∧ b1 < 2 ^ 61 ∧ 0 ≤ b2 ∧ b2 ≤ n
def spTake : Sp := fun vs H Q _ => ∃ (a : Addr) (many n : Int), vs = [.ref a, .int many] ∧ Bag H a n ∧ n < 2 ^ 40 ∧ 0 < many ∧ many < 2 ^ 64 ∧
  ∀ (r : Int) (H' : Hp), But a H H' → Bag H' a (n + 1) → 0 ≤ r → r < many → Q (.int r) H'
theorem Bag.same {H H' : Hp} {a : Addr} {n : Int} (s : Same H H') (b : Bag H a n) : Bag H' a n := by
  obtain ⟨b0, b1, b2, h, r⟩ := b
  exact ⟨b0, b1, b2, s _ _ h, r⟩
theorem Bag.le {H : Hp} {a : Addr} {n m : Int} (b : Bag H a n) (h : n ≤ m) : Bag H a m := by
  obtain ⟨b0, b1, b2, h1, h2, h3, h4, h5, h6⟩ := b
  exact ⟨b0, b1, b2, h1, h2, h3, h4, h5, by omega⟩
theorem Bag.ne {H : Hp} {a b : Addr} {n : Int} (h : Bag H a n) {o : HO} (e : H b = some o) (d : ∀ xs, o ≠ .lst xs) : b ≠ a := by
  obtain ⟨b0, b1, b2, h1, _⟩ := h
  exact ne_of e h1 (d _)
theorem w_take {H : Hp} {Q : VK} {E : XK} {a : Addr} {many n : Int} (b : Bag H a n) (hn : n < 2 ^ 40) (h0 : 0 < many) (h1 : many < 2 ^ 64)
    (h : ∀ (r : Int) (H' : Hp), But a H H' → Bag H' a (n + 1) → 0 ≤ r → r < many → Q (.int r) H') : spTake ([.ref a, .int many] ++ []) H Q E := ⟨a, many, n, rfl, b, hn, h0, h1, h⟩
theorem Bag.neN {H : Hp} {a p : Addr} {n : Int} (e : H p = none) (h : Bag H a n) : p ≠ a := by
  obtain ⟨b0, b1, b2, h1, _⟩ := h
  intro z
  rw [z, h1] at e
  cases e
theorem pickI {P : Int → Prop} {ns : List Int} {i : Int} (h0 : 0 ≤ i) (h1 : i < ns.length) (h : ∀ n ∈ ns, P n) : ∃ n, atI (ns.map V.int) i = some (.int n) ∧ P n := by
  obtain ⟨k, rfl⟩ : ∃ k : Nat, i = k := ⟨i.toNat, by omega⟩
  have hk : k < ns.length := by omega
  exact ⟨ns[k], atI_nat (by rw [List.getElem?_map, List.getElem?_eq_getElem hk]; rfl), h _ (List.getElem_mem hk)⟩
def spOf (K : PySem.W.Frag) : Sp := fun vs H Q _ => ∃ (a p : Addr) (xs : List V) (n : Int), vs = [.ref a, .ref p] ∧ Bag H a n ∧ n < 2 ^ 40 ∧ p ≠ a ∧ SqL K H p xs ∧ 0 < xs.length ∧ xs.length < 1000 ∧ ∀ x H', But a H H' → Bag H' a (n + 1) → x ∈ xs → Q x H'
def spBag (K : PySem.W.Frag) : Sp := fun vs H Q _ => ∃ (sc : Addr) (ns : List Int) (i : Int), vs = [.ref sc, .int i] ∧ SqL K H sc (ns.map V.int) ∧ 0 ≤ i ∧ i < 1000 ∧ ∀ p H', H p = none → Same H H' → Bag H' p 0 → Q (.ref p) H'
theorem sc__law_draw : FnScope ["_law_source_here", "_law_many", "_law_digit", "_law_turn"] ["_law_source_here", "_law_many"] (defScope (top 78)) := ⟨rfl, rfl, rfl, by decide +kernel, rfl, by decide +kernel, by decide +kernel⟩
theorem ok__law_draw {P : Program} {w : World} {K : PySem.W.Frag} {mg : Str → Option Value} {base : Heap} (T : TT K mg)    : Ld P w K mg base CX0 1 "_law_draw" ["_law_source_here", "_law_many"] [] (spTake) := by
  obtain ⟨fd, F⟩ := T.d__law_draw
  refine ⟨⟨fd, [], F.ok sc__law_draw (fun vs H Q E h => ?_) (fun cdv A outer s H vs Q E hr h => ?_), FunD.bindsN F (fun _ _ _ _ _ _ us hl => match us, hl with | [_, _], _ => rfl), .nil⟩, T.g__law_draw, F.kp⟩
  · obtain ⟨a, many, n, rfl, _⟩ := h
    rfl
  · obtain ⟨a, many, n, rfl, ⟨b0, b1, b2, ha, h0, h1, h1', h2, h2'⟩, hn, hm, hm', q⟩ := h
    refine ⟨_, PSs.nox ((pss_cons (ps_if (pt_cmpR op_gt (pe_ix ix_list (pv 0) pe_int (fun _ _ => rfl)) pe_int (nomark _)) (pss_cons (ps_set (i := 2) sc__law_draw.nd rfl (by first | exact Or.inl rfl | exact Or.inr rfl) (pe_op op_modN (pe_ix ix_list (pv 0) pe_int (fun _ _ => rfl)) (pv 1))) (pss_cons (ps_asg (pe_op op_fdivW (pe_ix ix_list (pv 0) pe_int (fun _ _ => rfl)) (pv 1)) (pg_sub (pv 0) pe_int set_list)) (pss_one (ps_ret (pv 2))))) pss_nil) (pss_cons (ps_asg (pe_op op_add (pe_ix ix_list (pv 0) pe_int (fun _ _ => rfl)) pe_int) (pg_sub (pv 0) pe_int set_list)) (pss_cons (ps_set (i := 3) sc__law_draw.nd rfl (by first | exact Or.inl rfl | exact Or.inr rfl) (pe_ix ix_list (pv 0) pe_int (fun _ _ => rfl))) (pss_cons (ps_asg (pe_op op_modN (pe_op op_add (pe_op op_add (pe_op op_mulW (pe_ix ix_list (pv 0) pe_int (fun _ _ => rfl)) pe_int) (pe_op op_mulW (pe_op op_mulW pe_int (pv 3)) (pv 3))) pe_int) pe_int) (pg_sub (pv 0) pe_int set_list)) (pss_one (ps_ret (pe_op op_modN (pe_op op_modN (pe_op op_powG (pe_op op_fdivW (pe_ix ix_list (pv 0) pe_int (fun _ _ => rfl)) pe_int) pe_int) pe_int) (pv 1))))))))), ?_⟩; rw [start_4_2]; try dsimp only [cxOf]
    walk_at "rl wp"
    have hne : many ≠ 0 := by omega
    refine ite_dec (fun c => ?_) (fun c => ?_)
    · have cd : CDivW b0 many := cd_of 64 hm (by omega) (by decide) (by decide)
      walk_at "rl wp"
      refine q _ _ But.upd ⟨b0 / many, b1, b2, upd_same, ?_, h1, h1', h2, by omega⟩ (fmod_lo hm) (fmod_hi hm)
      exact Int.ediv_nonneg h0 (by omega)
    obtain ⟨x, hx⟩ : ∃ x, x = b2 + 1 := ⟨_, rfl⟩
    have x0 : 0 ≤ x := by omega
    have x1 : x < 2 ^ 41 := by omega
    have k1 : CMulW b1 48889 := cm_of 64 (by omega) (by decide) (by decide) (by decide)
    have k3 : CMulW 20011 x := cm_of 64 (by decide) (by omega) (by decide) (by decide)
    have k4 : CMulW (20011 * x) x := cm_of 64 (by omega) (by omega) (by decide) (by decide)
    obtain ⟨m, hm3⟩ : ∃ m, m = (b1 * 48889 + 20011 * x * x + 7).fmod 2147483563 := ⟨_, rfl⟩
    have m0 : 0 ≤ m := by rw [hm3]; exact fmod_lo (by decide)
    have m1 : m < 2147483563 := by rw [hm3]; exact fmod_hi (by decide)
    have k6 : CDivW m 64 := cd_of 64 (by decide) (by decide) (by decide) (by decide)
    obtain ⟨d, hd⟩ : ∃ d, d = m / 64 := ⟨_, rfl⟩
    have hd2 : d.natAbs < 2 ^ 32 := by omega
    have k5 : CPowW d 3 := ⟨Nat.lt_of_lt_of_le (PySem.Flt.log2_lt_of (by decide) hd2) (by decide), by decide, by decide⟩
    walk_at "rl wp"
    rw [← hx]
    walk_at "rl wp"
    rw [← hm3]
    walk_at "rl wp"
    rw [← hd]
    walk_at "rl wp"
    refine q _ _ (by walk_at "rl but") ⟨b0, m, x, upd_same, h0, m0, by omega, x0, by omega⟩ (fmod_lo hm) (fmod_hi hm)
end T61
end
section
set_option Elab.async false
set_option linter.all false
set_option maxRecDepth 100000
set_option maxHeartbeats 1000000
namespace T61
open PySem PySem.Spec PyProof.Rows L2 L2.RL
local macro_rules | `(tactic| walk_at "rl ty") => `(tactic| first
  | assumption
  | exact .base (.int _)
  | exact .base (.str _)
  | exact .base .non
  | exact .base (.bl _)
  | exact ty_sqT (by walk_at "rl hp")
  | exact ty_sqL (by walk_at "rl hp")
  | exact .base (.tup (by walk_at "rl hp"))
  | exact .base (.lst (by walk_at "rl hp"))
  | exact .base (.dK (by walk_at "rl hp")))
local macro_rules | `(tactic| walk_at "rl if") => `(tactic| first
  | with_reducible refine iteT' rfl ?_
  | with_reducible refine iteF' rfl ?_
  | (refine iteT' rfl ?_)
  | (refine iteF' rfl ?_))
local macro_rules | `(tactic| walk_at "rl side") => `(tactic| first | assumption | omega | (constructor <;> omega) | decide)
local macro_rules | `(tactic| walk_at "rl ne") => `(tactic| first
  | assumption
  | exact Ne.symm (by assumption)
  | walk_at "rl ne2"
  | exact ne_of (by assumption) (by walk_at "rl hq") (by intro z; cases z)
  | exact (ne_of (by assumption) (by walk_at "rl hq") (by intro z; cases z)).symm)
local macro_rules | `(tactic| walk_at "rl hq") => `(tactic| first
  | assumption
  | exact upd_same
  | (refine' upd_at ?rlne ?rlhq; (case rlne => walk_at "rl ne"); (case rlhq => walk_at "rl hq"))
  | (refine' Same.at ?rlsa ?rlhq; (case rlsa => assumption); (case rlhq => walk_at "rl hq"))
  | (refine' But.at ?rlbu ?rlne ?rlhq; (case rlbu => assumption); (case rlne => walk_at "rl ne"); (case rlhq => walk_at "rl hq")))
local macro_rules | `(tactic| walk_at "rl hp") => `(tactic| first
  | assumption
  | (refine' SqL.of ?rlhq; (case rlhq => walk_at "rl hq"))
  | (refine' SqT.of ?rlhq; (case rlhq => walk_at "rl hq"))
  | (refine' Same.seq ?rlsa ?rlhp; (case rlsa => assumption); (case rlhp => walk_at "rl hp"))
  | (refine' Same.sqT ?rlsa ?rlhp; (case rlsa => assumption); (case rlhp => walk_at "rl hp"))
  | walk_at "rl hp2"
  | walk_at "rl hq")
local macro_rules | `(tactic| walk_at "rl w1") => `(tactic| first
  | with_reducible refine w_seq ?_
  | ((with_reducible refine' w_var ?rlv ?_); (case rlv => exact rfl))
  | with_reducible refine w_c ?_
  | with_reducible refine w_op ?_
  | with_reducible refine w_I0 ?_
  | with_reducible refine w_asg ?_
  | ((with_reducible refine' w_gName ?_); dsimp only [List.set])
  | ((with_reducible refine' w_nxD ?rle ?_); (case rle => exact rfl))
  | ((with_reducible refine' w_rtD ?rle ?_); (case rle => exact rfl))
  | with_reducible refine w_next ?_
  | with_reducible refine w_ret ?_
  | with_reducible refine w_cons ?_
  | with_reducible refine w_nil ?_
  | with_reducible refine w_ifS ?_
  | with_reducible refine w_test ?_
  | with_reducible refine w_B ?_
  | with_reducible refine w_bl ?_
  | with_reducible refine w_bl1 ?_
  | with_reducible refine w_blR ?_
  | with_reducible refine w_eqI ?_
  | with_reducible refine w_neI ?_
  | with_reducible refine w_eqS ?_
  | with_reducible refine w_neS ?_
  | with_reducible refine w_eqB ?_
  | with_reducible refine w_neB ?_
  | with_reducible refine w_and ?_
  | with_reducible refine w_or ?_
  | with_reducible refine w_not ?_
  | with_reducible refine w_andV ?_
  | with_reducible refine w_orV ?_
  | with_reducible refine w_notV ?_
  | with_reducible refine w_if ?_
  | with_reducible refine w_chain ?_
  | with_reducible refine w_un ?_
  | with_reducible refine w_U ?_
  | ((with_reducible refine' w_I ?rlc ?_); (case rlc => walk_at "rl side"))
  | with_reducible refine w_drop ?_
  | with_reducible refine w_retN ?_
  | with_reducible refine w_par ?_
  | ((with_reducible refine' w_par2 ?_); dsimp only [List.set])
  | ((with_reducible refine' w_aug ?rla ?_); (case rla => exact rfl))
  | with_reducible refine w_ipI ?_
  | with_reducible refine w_break ?_
  | with_reducible refine w_cont ?_
  | ((with_reducible refine' w_bkD ?rle ?_); (case rle => exact rfl))
  | ((with_reducible refine' w_ctD ?rle ?_); (case rle => exact rfl))
  | with_reducible refine w_tup ?_
  | with_reducible refine w_lst ?_
  | ((with_reducible refine' w_newO ?rln ?_); (case rln => exact Nat.le_of_ble_eq_true rfl); intro _ _ _ _ _)
  | ((with_reducible refine' w_new ?rln ?_); (case rln => exact Nat.le_of_ble_eq_true rfl))
  | ((with_reducible refine' w_mk ?_); intro _ _ _ _ _)
  | ((with_reducible refine' w_gTup ?rls ?rll ?_); (case rls => walk_at "rl hp"); (case rll => exact rfl))
  | with_reducible refine w_gCons ?_
  | with_reducible refine w_gNil ?_
  | with_reducible refine w_gSub ?_
  | ((with_reducible refine' w_setL ?rls ?rlj ?_); (case rls => walk_at "rl hp"); (case rlj => exact rfl))
  | ((with_reducible refine' w_ixL ?rls ?rli ?_); (case rls => walk_at "rl hp"); (case rli => exact rfl))
  | ((with_reducible refine' w_ixT ?rls ?rli ?_); (case rls => walk_at "rl hp"); (case rli => exact rfl))
  | with_reducible refine w_call ?_
  | with_reducible refine w_trI ?_
  | with_reducible refine w_yes ?_
  | with_reducible refine w_trB ?_
  | with_reducible refine w_trN ?_
  | with_reducible refine w_cb ?_
  | with_reducible refine w_fld ?_
  | ((with_reducible refine' w_fld1 ?rlo ?rlc ?rln ?rll ?_); (case rlo => walk_at "rl hp"); (case rlc => assumption); (case rln => assumption); (case rll => exact rfl))
  | with_reducible refine w_isiO ?_
  | with_reducible refine w_isiT ?_
  | ((with_reducible refine' w_isi (r := true) ?rlt ?rlk ?_); (case rlt => walk_at "rl ty"); (case rlk => exact rfl))
  | ((with_reducible refine' w_isi (r := false) ?rlt ?rlk ?_); (case rlt => walk_at "rl ty"); (case rlk => exact rfl))
  | ((with_reducible refine' w_isi2 (r := true) ?rlT ?rlt ?rlk ?_); (case rlT => walk_at "rl hp"); (case rlt => walk_at "rl ty"); (case rlk => exact rfl))
  | ((with_reducible refine' w_isi2 (r := false) ?rlT ?rlt ?rlk ?_); (case rlT => walk_at "rl hp"); (case rlt => walk_at "rl ty"); (case rlk => exact rfl))
  | with_reducible refine w_sFld ?_
  | with_reducible refine w_itemsK ?_
  | ((with_reducible refine' w_catT ?rlha ?rlhb ?rln1 ?rln2 ?rlhl ?_); (case rlha => walk_at "rl hp"); (case rlhb => walk_at "rl hp"); (case rln1 => exact (fun z => nomatch z)); (case rln2 => exact (fun z => nomatch z)); (case rlhl => exact Nat.le_trans (Nat.le_of_ble_eq_true rfl) (show 100000 ≤ sizeLine by decide)))
  | ((with_reducible refine' w_newE ?_); intro _ _ _ _ _)
  | with_reducible refine w_makeK ?_
  | ((with_reducible refine' w_sFld1 ?rlc ?rln ?rll ?rle ?_); (case rlc => assumption); (case rln => assumption); (case rll => exact Nat.lt_of_lt_of_le (Nat.lt_succ_self _) (Nat.le_of_ble_eq_true rfl)); (case rle => exact rfl))
  | ((with_reducible refine' w_sFld0 ?rlx ?rlc ?rln ?rll ?rle ?_); (case rlx => walk_at "rl hq"); (case rlc => assumption); (case rln => assumption); (case rll => exact Nat.lt_of_lt_of_le (Nat.lt_succ_self _) (Nat.le_of_ble_eq_true rfl)); (case rle => exact rfl))
  | with_reducible refine w_rflA ?_
  | with_reducible refine w_for ?_
  | with_reducible refine w_iList ?_
  | with_reducible refine w_iTup ?_
  | ((with_reducible refine' w_overL ?rls ?_); (case rls => walk_at "rl hp"))
  | ((with_reducible refine' w_overT ?rls ?_); (case rls => walk_at "rl hp"))
  | with_reducible refine w_rng1 ?_
  | ((with_reducible refine' w_rng1a ?rl1 ?rl2 ?_); (case rl1 => omega); (case rl2 => omega))
  | with_reducible refine w_rng2 ?_
  | ((with_reducible refine' w_rng2a ?rl1 ?_); (case rl1 => omega))
  | with_reducible refine w_zip2 ?_
  | with_reducible refine w_lc ?_
  | with_reducible refine w_enS ?_
  | with_reducible refine w_callSD ?_
  | with_reducible refine w_xf ?_
  | ((with_reducible refine' w_dnew ?_); intro _ _ _ _ _)
  | ((with_reducible refine' w_disp1 ?_); intro _ _ _ _ _)
  | with_reducible refine w_bm ?_
  | ((with_reducible refine' w_tyL ?rls ?_); (case rls => walk_at "rl hp"))
  | ((with_reducible refine' w_append ?rls ?rll ?_); (case rls => walk_at "rl hq"); (case rll => exact Nat.lt_of_lt_of_le (Nat.lt_succ_self _) (Nat.le_of_ble_eq_true rfl)))
  | ((with_reducible refine' w_cat ?rls ?rlt ?rll ?_); (case rls => walk_at "rl hq"); (case rlt => walk_at "rl hq"); (case rll => exact Nat.le_of_ble_eq_true rfl); intro _ _ _ _ _)
  | with_reducible refine w_int1 ?_
  | ((with_reducible refine w_intb ?_); (try dsimp only))
  | with_reducible refine w_one ?_
  | with_reducible refine w_two ?_
  | ((with_reducible refine' w_lenL ?rls ?_); (case rls => walk_at "rl hp"))
  | ((with_reducible refine' w_lenT ?rls ?_); (case rls => walk_at "rl hp"))
  | with_reducible refine w_meth ?_
  | ((with_reducible refine' w_meth1 ?rlo ?rll ?_); (case rlo => walk_at "rl hp"); (case rll => exact rfl)))
local macro_rules | `(tactic| walk_at "rl wp") => `(tactic| (repeat walk_at "rl w1"))
local macro_rules | `(tactic| walk_at "rl but") => `(tactic| first
  | assumption
  | exact But.refl _ _
  | exact But.upd
  | exact But.of_same (by assumption)
  | (refine But.trans ?_ (But.of_same (by assumption)); walk_at "rl but")
  | (refine But.trans ?_ (by assumption : But _ _ _); walk_at "rl but")
  | (refine But.trans ?_ But.upd; walk_at "rl but"))
local macro_rules | `(tactic| walk_at "rl same") => `(tactic| first
  | assumption
  | exact Same.refl _
  | (refine Same.trans ?_ (by assumption : Same _ _); walk_at "rl same"))

local macro_rules | `(tactic| walk_at "rl wi") => `(tactic| (repeat (first
  | walk_at "rl w1"
  | ((with_reducible refine' iteF' ?rlif ?_); (case rlif => exact rfl))
  | ((with_reducible refine' iteT' ?rlif ?_); (case rlif => exact rfl)))))

theorem pow_src (z : Int) {i : Int} (h0 : 0 ≤ i) (h1 : i < 1000) : CPowW (z.fmod 2147483563 + 4409 * i * i + 307 * i + 19) 3 := by
  have a0 : 0 ≤ z.fmod 2147483563 := fmod_lo (by decide)
  have a1 : z.fmod 2147483563 < 2147483563 := fmod_hi (by decide)
  have e : 4409 * i * i ≤ 4409 * 1000 * 1000 := by
    have h2 : i * i ≤ 1000 * 1000 := Int.mul_le_mul (by omega) (by omega) h0 (by decide)
    rw [Int.mul_assoc]
    omega
  have e0 : 0 ≤ 4409 * i * i := by
    have := Int.mul_nonneg h0 h0
    rw [Int.mul_assoc]
    omega
  have hd : (z.fmod 2147483563 + 4409 * i * i + 307 * i + 19).natAbs < 2 ^ 40 := by omega
  exact ⟨Nat.lt_of_lt_of_le (PySem.Flt.log2_lt_of (by decide) hd) (by decide), by decide, by decide⟩
theorem sc__law_source : FnScope ["_law_script", "_law_place", "_law_cell", "_law_large", "_law_mixed"] ["_law_script", "_law_place"] (defScope (top 77)) := ⟨rfl, rfl, rfl, by decide +kernel, rfl, by decide +kernel, by decide +kernel⟩
theorem ok__law_source {P : Program} {w : World} {K : PySem.W.Frag} {mg : Str → Option Value} {base : Heap} (T : TT K mg)    : Ld P w K mg base CX0 1 "_law_source" ["_law_script", "_law_place"] [] (spBag K) := by
  obtain ⟨fd, F⟩ := T.d__law_source
  refine ⟨⟨fd, [], F.ok sc__law_source (fun vs H Q E h => ?_) (fun cdv A outer s H vs Q E hr h => ?_), FunD.bindsN F (fun _ _ _ _ _ _ us hl => match us, hl with | [_, _], _ => rfl), .nil⟩, T.g__law_source, F.kp⟩
  · obtain ⟨sc, ns, i, rfl, _⟩ := h
    rfl
  · obtain ⟨sc, ns, i, rfl, hs, hi, hi2, q⟩ := h
    refine ⟨_, PSs.nox ((pss_cons (ps_set (i := 2) sc__law_source.nd rfl (by first | exact Or.inl rfl | exact Or.inr rfl) (pe_ifExp (pt_cmpR op_lt (pv 1) (pe_callB call_len_seq (by rfl) T.m_len PySem.boot_len (pa_cons (pv 0) pa_nil)) (nomark _)) (pe_ix ix_list (pv 0) (pv 1) (fun _ _ => rfl)) pe_int)) (pss_cons (ps_set (i := 3) sc__law_source.nd rfl (by first | exact Or.inl rfl | exact Or.inr rfl) (pe_ifExp (pt_cmpR op_ge (pe_callB call_abs (by rfl) T.m_abs (by decide +kernel) (pa_cons (pv 2) pa_nil)) (pe_op op_powG pe_int pe_int) (nomark _)) (pe_callB call_abs (by rfl) T.m_abs (by decide +kernel) (pa_cons (pv 2) pa_nil)) pe_int)) (pss_cons (ps_set (i := 4) sc__law_source.nd rfl (by first | exact Or.inl rfl | exact Or.inr rfl) (pe_op op_add (pe_op op_add (pe_op op_add (pe_op op_modN (pv 2) pe_int) (pe_op op_mul (pe_op op_mul pe_int (pv 1)) (pv 1))) (pe_op op_mul pe_int (pv 1))) pe_int)) (pss_one (ps_ret (pe_lst (pa_cons (pv 3) (pa_cons (pe_op op_modN (pe_op op_powG (pv 4) pe_int) pe_int) (pa_cons pe_int pa_nil)))))))))), ?_⟩; rw [start_5_2]; try dsimp only [cxOf]
    have k3 : CPowW 10 18 := ⟨by decide, by decide, by decide⟩
    have k2 : CMul 4409 i := .inl ⟨by decide, by decide⟩
    have k4 : CMul (4409 * i) i := .inr ⟨by omega, by omega⟩
    have k5 : CMul 307 i := .inl ⟨by decide, by decide⟩
    walk_at "rl wp"
    refine ite_dec (fun c => ?bra) (fun c => ?brb)
    case' bra =>
      obtain ⟨j, hj⟩ : ∃ j : Nat, i = (j : Int) := ⟨i.toNat, by omega⟩
      subst hj
      have hl : j < ns.length := by
        rw [List.length_map] at c
        omega
      have hv : atI (ns.map V.int) (j : Int) = some (.int ns[j]) := atI_nat (by rw [List.getElem?_map, List.getElem?_eq_getElem hl]; rfl)
      walk_at "rl wp"
      refine w_ixL (by walk_at "rl hp") hv ?_
      obtain ⟨z, hz⟩ : ∃ z, z = ns[j] := ⟨_, rfl⟩
      rw [← hz]
      have tail : ∀ z : Int, CPowW (z.fmod 2147483563 + 4409 * (j : Int) * (j : Int) + 307 * (j : Int) + 19) 3 := fun z => pow_src z hi hi2
    case' brb =>
      obtain ⟨z, hz⟩ : ∃ z : Int, z = 0 := ⟨_, rfl⟩
      have tail : ∀ z : Int, CPowW (z.fmod 2147483563 + 4409 * i * i + 307 * i + 19) 3 := fun z => pow_src z hi hi2
    all_goals have tz := tail z
    all_goals have tz0 := tail 0
    all_goals walk_at "rl wp"
    all_goals try refine ite_dec (fun c1 => ?_) (fun c1 => ?_)
    all_goals walk_at "rl wi"
    all_goals refine q _ _ (by assumption) (by assumption) ⟨_, _, _, by assumption, ?_, ?_, ?_, by decide, by decide⟩
    all_goals
      first
      | exact fmod_lo (by decide)
      | decide
      | (split <;> omega)
      | (refine Int.lt_of_lt_of_le (fmod_hi (by decide)) (by decide))
end T61
end
section
set_option Elab.async false
set_option linter.all false
set_option maxRecDepth 100000
set_option maxHeartbeats 1000000
namespace T61
open PySem PySem.Spec PyProof.Rows L2 L2.RL
local macro_rules | `(tactic| walk_at "rl ty") => `(tactic| first
  | assumption
  | exact .base (.int _)
  | exact .base (.str _)
  | exact .base .non
  | exact .base (.bl _)
  | exact ty_sqT (by walk_at "rl hp")
  | exact ty_sqL (by walk_at "rl hp")
  | exact .base (.tup (by walk_at "rl hp"))
  | exact .base (.lst (by walk_at "rl hp"))
  | exact .base (.dK (by walk_at "rl hp")))
local macro_rules | `(tactic| walk_at "rl if") => `(tactic| first
  | with_reducible refine iteT' rfl ?_
  | with_reducible refine iteF' rfl ?_
  | (refine iteT' rfl ?_)
  | (refine iteF' rfl ?_))
local macro_rules | `(tactic| walk_at "rl side") => `(tactic| first | assumption | omega | (constructor <;> omega) | decide)
local macro_rules | `(tactic| walk_at "rl ne") => `(tactic| first
  | assumption
  | exact Ne.symm (by assumption)
  | walk_at "rl ne2"
  | exact ne_of (by assumption) (by walk_at "rl hq") (by intro z; cases z)
  | exact (ne_of (by assumption) (by walk_at "rl hq") (by intro z; cases z)).symm)
local macro_rules | `(tactic| walk_at "rl hq") => `(tactic| first
  | assumption
  | exact upd_same
  | (refine' upd_at ?rlne ?rlhq; (case rlne => walk_at "rl ne"); (case rlhq => walk_at "rl hq"))
  | (refine' Same.at ?rlsa ?rlhq; (case rlsa => assumption); (case rlhq => walk_at "rl hq"))
  | (refine' But.at ?rlbu ?rlne ?rlhq; (case rlbu => assumption); (case rlne => walk_at "rl ne"); (case rlhq => walk_at "rl hq")))
local macro_rules | `(tactic| walk_at "rl hp") => `(tactic| first
  | assumption
  | (refine' SqL.of ?rlhq; (case rlhq => walk_at "rl hq"))
  | (refine' SqT.of ?rlhq; (case rlhq => walk_at "rl hq"))
  | (refine' Same.seq ?rlsa ?rlhp; (case rlsa => assumption); (case rlhp => walk_at "rl hp"))
  | (refine' Same.sqT ?rlsa ?rlhp; (case rlsa => assumption); (case rlhp => walk_at "rl hp"))
  | walk_at "rl hp2"
  | walk_at "rl hq")
local macro_rules | `(tactic| walk_at "rl w1") => `(tactic| first
  | with_reducible refine w_seq ?_
  | ((with_reducible refine' w_var ?rlv ?_); (case rlv => exact rfl))
  | with_reducible refine w_c ?_
  | with_reducible refine w_op ?_
  | with_reducible refine w_I0 ?_
  | with_reducible refine w_asg ?_
  | ((with_reducible refine' w_gName ?_); dsimp only [List.set])
  | ((with_reducible refine' w_nxD ?rle ?_); (case rle => exact rfl))
  | ((with_reducible refine' w_rtD ?rle ?_); (case rle => exact rfl))
  | with_reducible refine w_next ?_
  | with_reducible refine w_ret ?_
  | with_reducible refine w_cons ?_
  | with_reducible refine w_nil ?_
  | with_reducible refine w_ifS ?_
  | with_reducible refine w_test ?_
  | with_reducible refine w_B ?_
  | with_reducible refine w_bl ?_
  | with_reducible refine w_bl1 ?_
  | with_reducible refine w_blR ?_
  | with_reducible refine w_eqI ?_
  | with_reducible refine w_neI ?_
  | with_reducible refine w_eqS ?_
  | with_reducible refine w_neS ?_
  | with_reducible refine w_eqB ?_
  | with_reducible refine w_neB ?_
  | with_reducible refine w_and ?_
  | with_reducible refine w_or ?_
  | with_reducible refine w_not ?_
  | with_reducible refine w_andV ?_
  | with_reducible refine w_orV ?_
  | with_reducible refine w_notV ?_
  | with_reducible refine w_if ?_
  | with_reducible refine w_chain ?_
  | with_reducible refine w_un ?_
  | with_reducible refine w_U ?_
  | ((with_reducible refine' w_I ?rlc ?_); (case rlc => walk_at "rl side"))
  | with_reducible refine w_drop ?_
  | with_reducible refine w_retN ?_
  | with_reducible refine w_par ?_
  | ((with_reducible refine' w_par2 ?_); dsimp only [List.set])
  | ((with_reducible refine' w_aug ?rla ?_); (case rla => exact rfl))
  | with_reducible refine w_ipI ?_
  | with_reducible refine w_break ?_
  | with_reducible refine w_cont ?_
  | ((with_reducible refine' w_bkD ?rle ?_); (case rle => exact rfl))
  | ((with_reducible refine' w_ctD ?rle ?_); (case rle => exact rfl))
  | with_reducible refine w_tup ?_
  | with_reducible refine w_lst ?_
  | ((with_reducible refine' w_newO ?rln ?_); (case rln => exact Nat.le_of_ble_eq_true rfl); intro _ _ _ _ _)
  | ((with_reducible refine' w_new ?rln ?_); (case rln => exact Nat.le_of_ble_eq_true rfl))
  | ((with_reducible refine' w_mk ?_); intro _ _ _ _ _)
  | ((with_reducible refine' w_gTup ?rls ?rll ?_); (case rls => walk_at "rl hp"); (case rll => exact rfl))
  | with_reducible refine w_gCons ?_
  | with_reducible refine w_gNil ?_
  | with_reducible refine w_gSub ?_
  | ((with_reducible refine' w_setL ?rls ?rlj ?_); (case rls => walk_at "rl hp"); (case rlj => exact rfl))
  | ((with_reducible refine' w_ixL ?rls ?rli ?_); (case rls => walk_at "rl hp"); (case rli => exact rfl))
  | ((with_reducible refine' w_ixT ?rls ?rli ?_); (case rls => walk_at "rl hp"); (case rli => exact rfl))
  | with_reducible refine w_call ?_
  | with_reducible refine w_trI ?_
  | with_reducible refine w_yes ?_
  | with_reducible refine w_trB ?_
  | with_reducible refine w_trN ?_
  | with_reducible refine w_cb ?_
  | with_reducible refine w_fld ?_
  | ((with_reducible refine' w_fld1 ?rlo ?rlc ?rln ?rll ?_); (case rlo => walk_at "rl hp"); (case rlc => assumption); (case rln => assumption); (case rll => exact rfl))
  | with_reducible refine w_isiO ?_
  | with_reducible refine w_isiT ?_
  | ((with_reducible refine' w_isi (r := true) ?rlt ?rlk ?_); (case rlt => walk_at "rl ty"); (case rlk => exact rfl))
  | ((with_reducible refine' w_isi (r := false) ?rlt ?rlk ?_); (case rlt => walk_at "rl ty"); (case rlk => exact rfl))
  | ((with_reducible refine' w_isi2 (r := true) ?rlT ?rlt ?rlk ?_); (case rlT => walk_at "rl hp"); (case rlt => walk_at "rl ty"); (case rlk => exact rfl))
  | ((with_reducible refine' w_isi2 (r := false) ?rlT ?rlt ?rlk ?_); (case rlT => walk_at "rl hp"); (case rlt => walk_at "rl ty"); (case rlk => exact rfl))
  | with_reducible refine w_sFld ?_
  | with_reducible refine w_itemsK ?_
  | ((with_reducible refine' w_catT ?rlha ?rlhb ?rln1 ?rln2 ?rlhl ?_); (case rlha => walk_at "rl hp"); (case rlhb => walk_at "rl hp"); (case rln1 => exact (fun z => nomatch z)); (case rln2 => exact (fun z => nomatch z)); (case rlhl => exact Nat.le_trans (Nat.le_of_ble_eq_true rfl) (show 100000 ≤ sizeLine by decide)))
  | ((with_reducible refine' w_newE ?_); intro _ _ _ _ _)
  | with_reducible refine w_makeK ?_
  | ((with_reducible refine' w_sFld1 ?rlc ?rln ?rll ?rle ?_); (case rlc => assumption); (case rln => assumption); (case rll => exact Nat.lt_of_lt_of_le (Nat.lt_succ_self _) (Nat.le_of_ble_eq_true rfl)); (case rle => exact rfl))
  | ((with_reducible refine' w_sFld0 ?rlx ?rlc ?rln ?rll ?rle ?_); (case rlx => walk_at "rl hq"); (case rlc => assumption); (case rln => assumption); (case rll => exact Nat.lt_of_lt_of_le (Nat.lt_succ_self _) (Nat.le_of_ble_eq_true rfl)); (case rle => exact rfl))
  | with_reducible refine w_rflA ?_
  | with_reducible refine w_for ?_
  | with_reducible refine w_iList ?_
  | with_reducible refine w_iTup ?_
  | ((with_reducible refine' w_overL ?rls ?_); (case rls => walk_at "rl hp"))
  | ((with_reducible refine' w_overT ?rls ?_); (case rls => walk_at "rl hp"))
  | with_reducible refine w_rng1 ?_
  | ((with_reducible refine' w_rng1a ?rl1 ?rl2 ?_); (case rl1 => omega); (case rl2 => omega))
  | with_reducible refine w_rng2 ?_
  | ((with_reducible refine' w_rng2a ?rl1 ?_); (case rl1 => omega))
  | with_reducible refine w_zip2 ?_
  | with_reducible refine w_lc ?_
  | with_reducible refine w_enS ?_
  | with_reducible refine w_callSD ?_
  | with_reducible refine w_xf ?_
  | ((with_reducible refine' w_dnew ?_); intro _ _ _ _ _)
  | ((with_reducible refine' w_disp1 ?_); intro _ _ _ _ _)
  | with_reducible refine w_bm ?_
  | ((with_reducible refine' w_tyL ?rls ?_); (case rls => walk_at "rl hp"))
  | ((with_reducible refine' w_append ?rls ?rll ?_); (case rls => walk_at "rl hq"); (case rll => exact Nat.lt_of_lt_of_le (Nat.lt_succ_self _) (Nat.le_of_ble_eq_true rfl)))
  | ((with_reducible refine' w_cat ?rls ?rlt ?rll ?_); (case rls => walk_at "rl hq"); (case rlt => walk_at "rl hq"); (case rll => exact Nat.le_of_ble_eq_true rfl); intro _ _ _ _ _)
  | with_reducible refine w_int1 ?_
  | ((with_reducible refine w_intb ?_); (try dsimp only))
  | with_reducible refine w_one ?_
  | with_reducible refine w_two ?_
  | ((with_reducible refine' w_lenL ?rls ?_); (case rls => walk_at "rl hp"))
  | ((with_reducible refine' w_lenT ?rls ?_); (case rls => walk_at "rl hp"))
  | with_reducible refine w_meth ?_
  | ((with_reducible refine' w_meth1 ?rlo ?rll ?_); (case rlo => walk_at "rl hp"); (case rll => exact rfl)))
local macro_rules | `(tactic| walk_at "rl wp") => `(tactic| (repeat walk_at "rl w1"))
local macro_rules | `(tactic| walk_at "rl but") => `(tactic| first
  | assumption
  | exact But.refl _ _
  | exact But.upd
  | exact But.of_same (by assumption)
  | (refine But.trans ?_ (But.of_same (by assumption)); walk_at "rl but")
  | (refine But.trans ?_ (by assumption : But _ _ _); walk_at "rl but")
  | (refine But.trans ?_ But.upd; walk_at "rl but"))
local macro_rules | `(tactic| walk_at "rl same") => `(tactic| first
  | assumption
  | exact Same.refl _
  | (refine Same.trans ?_ (by assumption : Same _ _); walk_at "rl same"))

local macro_rules | `(tactic| walk_at "rl wi") => `(tactic| (repeat (first
  | walk_at "rl w1"
  | ((with_reducible refine' iteF' ?rlif ?_); (case rlif => exact rfl))
  | ((with_reducible refine' iteT' ?rlif ?_); (case rlif => exact rfl)))))
theorem sc__law_of : FnScope ["_law_source_here", "_law_some"] ["_law_source_here", "_law_some"] (defScope (top 79)) := ⟨rfl, rfl, rfl, by decide +kernel, rfl, by decide +kernel, by decide +kernel⟩
theorem ok__law_of {P : Program} {w : World} {K : PySem.W.Frag} {mg : Str → Option Value} {base : Heap} (T : TT K mg) (D__law_draw : Ld P w K mg base CX0 1 "_law_draw" ["_law_source_here", "_law_many"] [] (spTake))   : Ld P w K mg base CX0 2 "_law_of" ["_law_source_here", "_law_some"] [] (spOf K) := by
  obtain ⟨⟨fd__law_draw, ds__law_draw, F__law_draw, b__law_draw, v__law_draw⟩, g__law_draw, k__law_draw⟩ := D__law_draw
  obtain ⟨fd, F⟩ := T.d__law_of
  refine ⟨⟨fd, [], F.ok sc__law_of (fun vs H Q E h => ?_) (fun cdv A outer s H vs Q E hr h => ?_), FunD.bindsN F (fun _ _ _ _ _ _ us hl => match us, hl with | [_, _], _ => rfl), .nil⟩, T.g__law_of, F.kp⟩
  · obtain ⟨a, p, xs, n, rfl, _⟩ := h
    rfl
  · obtain ⟨a, p, xs, n, rfl, hb, hn, ne, hp, l0, l1, q⟩ := h
    refine ⟨_, PSs.nox ((pss_one (ps_ret (pe_ix ix_list (pv 1) (pe_call F__law_draw hr (by rfl) g__law_draw k__law_draw b__law_draw v__law_draw pass0 (pa_cons (pv 0) (pa_cons (pe_callB call_len_seq (by rfl) T.m_len PySem.boot_len (pa_cons (pv 1) pa_nil)) pa_nil))) (fun _ _ => rfl))))), ?_⟩; rw [start_2_2]; try dsimp only [cxOf]
    walk_at "rl wp"
    refine w_take hb (by omega) (by omega) (by omega) ?_
    intro r H' bt bg r0 r1
    walk_at "rl wp"
    have hr : r.toNat < xs.length := by omega
    refine w_ixL (SqL.but bt ne hp) (show atI xs r = some xs[r.toNat] from ?_) ?_
    · have e : ((r.toNat : Nat) : Int) = r := by omega
      have h := atI_nat (xs := xs) (j := r.toNat) (v := xs[r.toNat]) (List.getElem?_eq_getElem hr)
      rw [e] at h
      exact h
    · exact q _ _ bt bg (List.getElem_mem hr)
end T61
end
section
set_option Elab.async false
set_option linter.all false
set_option maxRecDepth 100000
set_option maxHeartbeats 0
namespace T61
open PySem PySem.Spec PyProof.Rows L2 L2.RL
local macro_rules | `(tactic| walk_at "rl ty") => `(tactic| first
  | assumption
  | exact .base (.int _)
  | exact .base (.str _)
  | exact .base .non
  | exact .base (.bl _)
  | exact ty_sqT (by walk_at "rl hp")
  | exact ty_sqL (by walk_at "rl hp")
  | exact .base (.tup (by walk_at "rl hp"))
  | exact .base (.lst (by walk_at "rl hp"))
  | exact .base (.dK (by walk_at "rl hp")))
local macro_rules | `(tactic| walk_at "rl if") => `(tactic| first
  | with_reducible refine iteT' rfl ?_
  | with_reducible refine iteF' rfl ?_
  | (refine iteT' rfl ?_)
  | (refine iteF' rfl ?_))
local macro_rules | `(tactic| walk_at "rl side") => `(tactic| first | assumption | omega | (constructor <;> omega) | decide)
local macro_rules | `(tactic| walk_at "rl ne") => `(tactic| first
  | assumption
  | exact Ne.symm (by assumption)
  | walk_at "rl ne2"
  | exact ne_of (by assumption) (by walk_at "rl hq") (by intro z; cases z)
  | exact (ne_of (by assumption) (by walk_at "rl hq") (by intro z; cases z)).symm)
local macro_rules | `(tactic| walk_at "rl hq") => `(tactic| first
  | assumption
  | exact upd_same
  | (refine' upd_at ?rlne ?rlhq; (case rlne => walk_at "rl ne"); (case rlhq => walk_at "rl hq"))
  | (refine' Same.at ?rlsa ?rlhq; (case rlsa => assumption); (case rlhq => walk_at "rl hq"))
  | (refine' But.at ?rlbu ?rlne ?rlhq; (case rlbu => assumption); (case rlne => walk_at "rl ne"); (case rlhq => walk_at "rl hq")))
local macro_rules | `(tactic| walk_at "rl hp") => `(tactic| first
  | assumption
  | (refine' SqL.of ?rlhq; (case rlhq => walk_at "rl hq"))
  | (refine' SqT.of ?rlhq; (case rlhq => walk_at "rl hq"))
  | (refine' Same.seq ?rlsa ?rlhp; (case rlsa => assumption); (case rlhp => walk_at "rl hp"))
  | (refine' Same.sqT ?rlsa ?rlhp; (case rlsa => assumption); (case rlhp => walk_at "rl hp"))
  | walk_at "rl hp2"
  | walk_at "rl hq")
local macro_rules | `(tactic| walk_at "rl w1") => `(tactic| first
  | with_reducible refine w_seq ?_
  | ((with_reducible refine' w_var ?rlv ?_); (case rlv => exact rfl))
  | with_reducible refine w_c ?_
  | with_reducible refine w_op ?_
  | with_reducible refine w_I0 ?_
  | with_reducible refine w_asg ?_
  | ((with_reducible refine' w_gName ?_); dsimp only [List.set])
  | ((with_reducible refine' w_nxD ?rle ?_); (case rle => exact rfl))
  | ((with_reducible refine' w_rtD ?rle ?_); (case rle => exact rfl))
  | with_reducible refine w_next ?_
  | with_reducible refine w_ret ?_
  | with_reducible refine w_cons ?_
  | with_reducible refine w_nil ?_
  | with_reducible refine w_ifS ?_
  | with_reducible refine w_test ?_
  | with_reducible refine w_B ?_
  | with_reducible refine w_bl ?_
  | with_reducible refine w_bl1 ?_
  | with_reducible refine w_blR ?_
  | with_reducible refine w_eqI ?_
  | with_reducible refine w_neI ?_
  | with_reducible refine w_eqS ?_
  | with_reducible refine w_neS ?_
  | with_reducible refine w_eqB ?_
  | with_reducible refine w_neB ?_
  | with_reducible refine w_and ?_
  | with_reducible refine w_or ?_
  | with_reducible refine w_not ?_
  | with_reducible refine w_andV ?_
  | with_reducible refine w_orV ?_
  | with_reducible refine w_notV ?_
  | with_reducible refine w_if ?_
  | with_reducible refine w_chain ?_
  | with_reducible refine w_un ?_
  | with_reducible refine w_U ?_
  | ((with_reducible refine' w_I ?rlc ?_); (case rlc => walk_at "rl side"))
  | with_reducible refine w_drop ?_
  | with_reducible refine w_retN ?_
  | with_reducible refine w_par ?_
  | ((with_reducible refine' w_par2 ?_); dsimp only [List.set])
  | ((with_reducible refine' w_aug ?rla ?_); (case rla => exact rfl))
  | with_reducible refine w_ipI ?_
  | with_reducible refine w_break ?_
  | with_reducible refine w_cont ?_
  | ((with_reducible refine' w_bkD ?rle ?_); (case rle => exact rfl))
  | ((with_reducible refine' w_ctD ?rle ?_); (case rle => exact rfl))
  | with_reducible refine w_tup ?_
  | with_reducible refine w_lst ?_
  | ((with_reducible refine' w_newO ?rln ?_); (case rln => exact Nat.le_of_ble_eq_true rfl); intro _ _ _ _ _)
  | ((with_reducible refine' w_new ?rln ?_); (case rln => exact Nat.le_of_ble_eq_true rfl))
  | ((with_reducible refine' w_mk ?_); intro _ _ _ _ _)
  | ((with_reducible refine' w_gTup ?rls ?rll ?_); (case rls => walk_at "rl hp"); (case rll => exact rfl))
  | with_reducible refine w_gCons ?_
  | with_reducible refine w_gNil ?_
  | with_reducible refine w_gSub ?_
  | ((with_reducible refine' w_setL ?rls ?rlj ?_); (case rls => walk_at "rl hp"); (case rlj => exact rfl))
  | ((with_reducible refine' w_ixL ?rls ?rli ?_); (case rls => walk_at "rl hp"); (case rli => exact rfl))
  | ((with_reducible refine' w_ixT ?rls ?rli ?_); (case rls => walk_at "rl hp"); (case rli => exact rfl))
  | with_reducible refine w_call ?_
  | with_reducible refine w_trI ?_
  | with_reducible refine w_yes ?_
  | with_reducible refine w_trB ?_
  | with_reducible refine w_trN ?_
  | with_reducible refine w_cb ?_
  | with_reducible refine w_fld ?_
  | ((with_reducible refine' w_fld1 ?rlo ?rlc ?rln ?rll ?_); (case rlo => walk_at "rl hp"); (case rlc => assumption); (case rln => assumption); (case rll => exact rfl))
  | with_reducible refine w_isiO ?_
  | with_reducible refine w_isiT ?_
  | ((with_reducible refine' w_isi (r := true) ?rlt ?rlk ?_); (case rlt => walk_at "rl ty"); (case rlk => exact rfl))
  | ((with_reducible refine' w_isi (r := false) ?rlt ?rlk ?_); (case rlt => walk_at "rl ty"); (case rlk => exact rfl))
  | ((with_reducible refine' w_isi2 (r := true) ?rlT ?rlt ?rlk ?_); (case rlT => walk_at "rl hp"); (case rlt => walk_at "rl ty"); (case rlk => exact rfl))
  | ((with_reducible refine' w_isi2 (r := false) ?rlT ?rlt ?rlk ?_); (case rlT => walk_at "rl hp"); (case rlt => walk_at "rl ty"); (case rlk => exact rfl))
  | with_reducible refine w_sFld ?_
  | with_reducible refine w_itemsK ?_
  | ((with_reducible refine' w_catT ?rlha ?rlhb ?rln1 ?rln2 ?rlhl ?_); (case rlha => walk_at "rl hp"); (case rlhb => walk_at "rl hp"); (case rln1 => exact (fun z => nomatch z)); (case rln2 => exact (fun z => nomatch z)); (case rlhl => exact Nat.le_trans (Nat.le_of_ble_eq_true rfl) (show 100000 ≤ sizeLine by decide)))
  | ((with_reducible refine' w_newE ?_); intro _ _ _ _ _)
  | with_reducible refine w_makeK ?_
  | ((with_reducible refine' w_sFld1 ?rlc ?rln ?rll ?rle ?_); (case rlc => assumption); (case rln => assumption); (case rll => exact Nat.lt_of_lt_of_le (Nat.lt_succ_self _) (Nat.le_of_ble_eq_true rfl)); (case rle => exact rfl))
  | ((with_reducible refine' w_sFld0 ?rlx ?rlc ?rln ?rll ?rle ?_); (case rlx => walk_at "rl hq"); (case rlc => assumption); (case rln => assumption); (case rll => exact Nat.lt_of_lt_of_le (Nat.lt_succ_self _) (Nat.le_of_ble_eq_true rfl)); (case rle => exact rfl))
  | with_reducible refine w_rflA ?_
  | with_reducible refine w_for ?_
  | with_reducible refine w_iList ?_
  | with_reducible refine w_iTup ?_
  | ((with_reducible refine' w_overL ?rls ?_); (case rls => walk_at "rl hp"))
  | ((with_reducible refine' w_overT ?rls ?_); (case rls => walk_at "rl hp"))
  | with_reducible refine w_rng1 ?_
  | ((with_reducible refine' w_rng1a ?rl1 ?rl2 ?_); (case rl1 => omega); (case rl2 => omega))
  | with_reducible refine w_rng2 ?_
  | ((with_reducible refine' w_rng2a ?rl1 ?_); (case rl1 => omega))
  | with_reducible refine w_zip2 ?_
  | with_reducible refine w_lc ?_
  | with_reducible refine w_enS ?_
  | with_reducible refine w_callSD ?_
  | with_reducible refine w_xf ?_
  | ((with_reducible refine' w_dnew ?_); intro _ _ _ _ _)
  | ((with_reducible refine' w_disp1 ?_); intro _ _ _ _ _)
  | with_reducible refine w_bm ?_
  | ((with_reducible refine' w_tyL ?rls ?_); (case rls => walk_at "rl hp"))
  | ((with_reducible refine' w_append ?rls ?rll ?_); (case rls => walk_at "rl hq"); (case rll => exact Nat.lt_of_lt_of_le (Nat.lt_succ_self _) (Nat.le_of_ble_eq_true rfl)))
  | ((with_reducible refine' w_cat ?rls ?rlt ?rll ?_); (case rls => walk_at "rl hq"); (case rlt => walk_at "rl hq"); (case rll => exact Nat.le_of_ble_eq_true rfl); intro _ _ _ _ _)
  | with_reducible refine w_int1 ?_
  | ((with_reducible refine w_intb ?_); (try dsimp only))
  | with_reducible refine w_one ?_
  | with_reducible refine w_two ?_
  | ((with_reducible refine' w_lenL ?rls ?_); (case rls => walk_at "rl hp"))
  | ((with_reducible refine' w_lenT ?rls ?_); (case rls => walk_at "rl hp"))
  | with_reducible refine w_meth ?_
  | ((with_reducible refine' w_meth1 ?rlo ?rll ?_); (case rlo => walk_at "rl hp"); (case rll => exact rfl)))
local macro_rules | `(tactic| walk_at "rl wp") => `(tactic| (repeat walk_at "rl w1"))
local macro_rules | `(tactic| walk_at "rl but") => `(tactic| first
  | assumption
  | exact But.refl _ _
  | exact But.upd
  | exact But.of_same (by assumption)
  | (refine But.trans ?_ (But.of_same (by assumption)); walk_at "rl but")
  | (refine But.trans ?_ (by assumption : But _ _ _); walk_at "rl but")
  | (refine But.trans ?_ But.upd; walk_at "rl but"))
local macro_rules | `(tactic| walk_at "rl same") => `(tactic| first
  | assumption
  | exact Same.refl _
  | (refine Same.trans ?_ (by assumption : Same _ _); walk_at "rl same"))

local macro_rules | `(tactic| walk_at "rl wi") => `(tactic| (repeat (first
  | walk_at "rl w1"
  | ((with_reducible refine' iteF' ?rlif ?_); (case rlif => exact rfl))
  | ((with_reducible refine' iteT' ?rlif ?_); (case rlif => exact rfl)))))
local macro_rules | `(tactic| walk_at "rl ty") => `(tactic| exact .base (.dK (by assumption)))
local macro_rules | `(tactic| walk_at "rl ty") => `(tactic| exact .base (.lst (by assumption)))
local macro_rules | `(tactic| walk_at "rl ty") => `(tactic| exact .base (.tup (by assumption)))
local macro_rules | `(tactic| walk_at "rl w1") => `(tactic| first
  | with_reducible refine w_par3 ?_
  | ((with_reducible refine' w_par3a ?_); dsimp only [List.set])
  | with_reducible refine w_dget ?_
  | ((with_reducible refine' w_dgetS ?rls ?rlv ?_); (case rls => walk_at "rl hq"); (case rlv => exact rfl))
  | ((with_reducible refine' w_dgetI ?rls ?rlv ?_); (case rls => walk_at "rl hq"); (case rlv => exact rfl))
  | with_reducible refine w_dget2 ?_
  | ((with_reducible refine' w_isD ?rls ?_); (case rls => walk_at "rl hq"))
  | ((with_reducible refine' w_dget2S ?rls ?_); (case rls => walk_at "rl hq"))
  | ((with_reducible refine' w_dget2I ?rls ?_); (case rls => walk_at "rl hq"))
  | ((with_reducible refine' w_setDS ?rls ?rll ?rlm ?_); (case rls => walk_at "rl hq"); (case rll => exact Nat.lt_of_lt_of_le (Nat.lt_succ_self _) (Nat.le_of_ble_eq_true rfl)); (case rlm => exact rfl))
  | ((with_reducible refine' w_tyD ?rls ?_); (case rls => walk_at "rl hq"))
  | with_reducible refine w_jNil ?_
  | with_reducible refine w_jCons ?_
  | with_reducible refine w_prop ?_
  | with_reducible refine w_makeKS ?_
  | with_reducible refine w_pNil ?_
  | with_reducible refine w_pCons ?_
  | ((with_reducible refine' w_dispN ?_); intro _ _ _ _ _))

local macro_rules | `(tactic| walk_at "rl w1") => `(tactic| ((with_reducible refine' w_dispP ?_); intro _ _ _ _ _))
local macro_rules | `(tactic| walk_at "rl w1") => `(tactic| with_reducible refine w_ifT ?_)
local macro_rules | `(tactic| walk_at "rl w1") => `(tactic| ((with_reducible refine' w_dgS ?rls ?rlv ?_); (case rls => walk_at "rl hq"); (case rlv => exact rfl)))

local macro_rules | `(tactic| walk_at "rl w1") => `(tactic| first
  | with_reducible refine w_din ?_
  | ((with_reducible refine' w_dinI ?rls ?_); (case rls => walk_at "rl hq"))
  | ((with_reducible refine' w_dinT ?rls ?rlt ?_); (case rls => walk_at "rl hq"); (case rlt => walk_at "rl hq"))
  | with_reducible refine w_callN ?_)

theorem w_dropd {A : Prop} (h : A) : A := h
theorem w_sl1 {K : PySem.W.Frag} {H : Hp} {Q : VK} {a : Addr} {xs : List V} {lo hi : Option Int} (hs : SqL K H a xs) (h : ∀ p H', H p = none → Same H H' → H' p = some (.lst (cutV xs lo hi)) → Q (.ref p) H') : rSlL K (.ref a) lo hi H Q := ⟨a, xs, rfl, hs, fun p n => h p _ n (same_upd n) upd_same⟩
theorem w_part1 {i : Int} {R : Int → Prop} (h : R i) : ∃ i', V.int i = .int i' ∧ R i' := ⟨i, rfl, h⟩
theorem sl4 {z : Int} {j : Int} (h0 : 0 ≤ j) (h1 : j < 5) : ∃ as bs : List Int, cutV [.int 1, .int 65537, .int z, .int 0] none (some j) = as.map V.int ∧ cutV [.int 1, .int 65537, .int z, .int 0] (some j) none = bs.map V.int ∧ as.length ≤ 4 ∧ bs.length ≤ 4 ∧ (∀ a ∈ as, a ∈ [1, 65537, z, 0]) ∧ (∀ b ∈ bs, b ∈ [1, 65537, z, 0]) := by
  rcases (show j = 0 ∨ j = 1 ∨ j = 2 ∨ j = 3 ∨ j = 4 by omega) with rfl | rfl | rfl | rfl | rfl
  · exact ⟨[], [1, 65537, z, 0], rfl, rfl, Nat.le_of_ble_eq_true rfl, Nat.le_of_ble_eq_true rfl, by simp, by simp⟩
  · exact ⟨[1], [65537, z, 0], rfl, rfl, Nat.le_of_ble_eq_true rfl, Nat.le_of_ble_eq_true rfl, by simp, by simp⟩
  · exact ⟨[1, 65537], [z, 0], rfl, rfl, Nat.le_of_ble_eq_true rfl, Nat.le_of_ble_eq_true rfl, by simp, by simp⟩
  · exact ⟨[1, 65537, z], [0], rfl, rfl, Nat.le_of_ble_eq_true rfl, Nat.le_of_ble_eq_true rfl, by simp, by simp⟩
  · exact ⟨[1, 65537, z, 0], [], rfl, rfl, Nat.le_of_ble_eq_true rfl, Nat.le_of_ble_eq_true rfl, by simp, by simp⟩
theorem in4 {as : List Int} (h : ∀ a ∈ as, a ∈ [1, 65537, (2 : Int) ^ (32 : Int).toNat - 1, 0]) : ∀ d ∈ as.map PyData.int, inI d 0 4294967295 = true := fun d m => by
  obtain ⟨a, ha, rfl⟩ := List.mem_map.mp m
  have k : ∀ a ∈ [1, 65537, (2 : Int) ^ (32 : Int).toNat - 1, 0], inI (.int a) 0 4294967295 = true := by decide +kernel
  exact k a (h a ha)
def spLaw (K : PySem.W.Frag) : Sp := fun vs H Q _ => ∃ (a : Addr) (ns : List Int), vs = [.ref a] ∧ SqL K H a (ns.map V.int) ∧ ns.length ≤ 63 ∧ ∀ H', Q (.bl true) H'
theorem usag_ok {d : PyData} (h : d ∈ oddD) : ∀ s ∈ (["usage", d.shown] : List Str), (PyData.str s).canLay0 = true := fun s m => by
  rcases List.mem_cons.mp m with rfl | m
  · decide +kernel
  · rw [List.mem_singleton.mp m]
    exact (oddD_ok h).2.2.2.2.2.1
theorem w_repr1 {B : Addr → Prop} {H : Hp} {Q : VK} {x : V} {d : PyData} (hd : Dq H B x d) (hm : d ∈ oddD) (h : Q (.str d.shown) H) : rReprD (fun _ => True) [x] H Q := by
  obtain ⟨w1, w2, w3, _⟩ := oddD_ok hm
  exact ⟨x, d, rfl, Dq.keep (fun a o n e => ⟨e, trivial⟩) d x hd, w1, w2, w3, h⟩

local macro_rules | `(tactic| walk_at "rl w1") => `(tactic| first
  | with_reducible refine w_slL ?_
  | with_reducible refine w_noPart ?_
  | with_reducible refine w_part ?_
  | with_reducible refine w_part1 ?_
  | ((with_reducible refine' w_sl1 ?rls ?_); (case rls => walk_at "rl hp"); intro _ _ _ _ _))
theorem sc_law : FnScope ["_law_script", "_law_odd", "_law_small", "_law_place", "_law_source_here", "_law_turn", "_law_some", "_law_at", "_law_one", "_law_other", "_law_uses", "_law_places", "_law_others", "_law_due"] ["_law_script"] (defScope (top 82)) := ⟨rfl, rfl, rfl, by decide +kernel, rfl, by decide +kernel, by decide +kernel⟩
theorem ok_law {P : Program} {w : World} {K : PySem.W.Frag} {mg : Str → Option Value} {base : Heap} (T : TT K mg) (D__law_wide : Ld P w K mg base CX0 7 "_law_wide" ["_law_places", "_law_others"] [] (spWide K)) (D__law_source : Ld P w K mg base CX0 1 "_law_source" ["_law_script", "_law_place"] [] (spBag K)) (D__law_draw : Ld P w K mg base CX0 1 "_law_draw" ["_law_source_here", "_law_many"] [] (spTake)) (D__law_of : Ld P w K mg base CX0 2 "_law_of" ["_law_source_here", "_law_some"] [] (spOf K)) (D__law_told : Lg P w K mg base CX0 10 "_law_told" ["_law_layout", "_law_uses"] [] (spTold K)) {fd : FuncData} (F : FunD K "law" "law" (defArgs (top 82)) (defBody (top 82)) (defScope (top 82)) (([] : List He.Dv).map (He.Dv.v K)) (([] : List (Str × He.Dv)).map fun q => (q.1, q.2.v K)) (He.ga K "law") fd) : FnG P w K mg base CX0 11 (He.ga K "law") fd ["_law_script"] (spLaw K) := by
  obtain ⟨⟨fd__law_wide, ds__law_wide, F__law_wide, b__law_wide, v__law_wide⟩, g__law_wide, k__law_wide⟩ := D__law_wide
  obtain ⟨⟨fd__law_source, ds__law_source, F__law_source, b__law_source, v__law_source⟩, g__law_source, k__law_source⟩ := D__law_source
  obtain ⟨⟨fd__law_draw, ds__law_draw, F__law_draw, b__law_draw, v__law_draw⟩, g__law_draw, k__law_draw⟩ := D__law_draw
  obtain ⟨⟨fd__law_of, ds__law_of, F__law_of, b__law_of, v__law_of⟩, g__law_of, k__law_of⟩ := D__law_of
  obtain ⟨⟨fd__law_told, ds__law_told, F__law_told, b__law_told, v__law_told⟩, g__law_told, k__law_told⟩ := D__law_told
  refine FunD.okG F sc_law (fun vs H Q E h => ?_) (fun cdv A outer s H vs Q E hgd hr h => ?_)
  · obtain ⟨sc, ns, rfl, _⟩ := h
    rfl
  · obtain ⟨sc, ns, rfl, hs, hl, q⟩ := h
    refine ⟨_, PSs.nox ((pss_cons (ps_set (i := 1) sc_law.nd rfl (by first | exact Or.inl rfl | exact Or.inr rfl) (pe_lst (pa_cons pe_non (pa_cons pe_bl (pa_cons (pe_un un_neg pe_int) (pa_cons (pe_op op_powG pe_int pe_int) (pa_cons pe_str (pa_cons (pe_tup (pa_cons pe_int pa_nil)) (pa_cons (pe_lst pa_nil) (pa_cons (pe_op op_powG pe_int pe_int) (pa_cons pe_bl pa_nil))))))))))) (pss_cons (ps_set (i := 2) sc_law.nd rfl (by first | exact Or.inl rfl | exact Or.inr rfl) (pe_call F__law_wide (hr.mono (by decide)) (by rfl) g__law_wide k__law_wide b__law_wide v__law_wide pass0 (pa_cons pe_int (pa_cons pe_int pa_nil)))) (pss_cons (ps_for PassesOwn.never rfl (pi_range1 rfl T.m_range (pa_cons (pe_callB (call_max2 rfl) (by rfl) T.m_max (by decide +kernel) (pa_cons pe_int (pa_cons (pe_callB (call_min2 rfl) (by rfl) T.m_min (by decide +kernel) (pa_cons pe_int (pa_cons (pe_callB call_len_seq (by rfl) T.m_len PySem.boot_len (pa_cons (pv 0) pa_nil)) pa_nil))) pa_nil))) pa_nil)) (pg_name (i := 3) sc_law.nd rfl (by first | exact Or.inl rfl | exact Or.inr rfl)) (pss_cons (ps_set (i := 4) sc_law.nd rfl (by first | exact Or.inl rfl | exact Or.inr rfl) (pe_call F__law_source (hr.mono (by decide)) (by rfl) g__law_source k__law_source b__law_source v__law_source pass0 (pa_cons (pv 0) (pa_cons (pv 3) pa_nil)))) (pss_cons (ps_for PassesOwn.never rfl (pi_range1 rfl T.m_range (pa_cons pe_int pa_nil)) (pg_name (i := 5) sc_law.nd rfl (by first | exact Or.inl rfl | exact Or.inr rfl)) (pss_cons (ps_par (i := 6) (j := 7) (by rfl) sc_law.nd rfl rfl (by decide) rfl rfl (pa_cons (pe_lst (pa_cons pe_int (pa_cons pe_int (pa_cons (pe_op op_sub (pe_op op_powG pe_int pe_int) pe_int) (pa_cons pe_int pa_nil))))) (pa_cons (pe_call F__law_draw (hr.mono (by decide)) (by rfl) g__law_draw k__law_draw b__law_draw v__law_draw pass0 (pa_cons (pv 4) (pa_cons pe_int pa_nil))) pa_nil)) (by rfl)) (pss_cons (ps_par (i := 8) (j := 9) (by rfl) sc_law.nd rfl rfl (by decide) rfl rfl (pa_cons (pe_call F__law_of (hr.mono (by decide)) (by rfl) g__law_of k__law_of b__law_of v__law_of pass0 (pa_cons (pv 4) (pa_cons (pv 1) pa_nil))) (pa_cons (pe_call F__law_of (hr.mono (by decide)) (by rfl) g__law_of k__law_of b__law_of v__law_of pass0 (pa_cons (pv 4) (pa_cons (pv 1) pa_nil))) pa_nil)) (by rfl)) (pss_cons (ps_for PassesOwn.never rfl (pi_tup (pe_tup (pa_cons (pe_op op_cat (pe_op op_cat (pe_op op_cat (pe_slice sl_list (pv 6) po_none (po_some (pv 7))) (pe_lst (pa_cons (pv 8) pa_nil))) (pe_slice sl_list (pv 6) (po_some (pv 7)) po_none)) (pe_lst (pa_cons (pv 9) pa_nil))) (pa_cons (pe_callTy call_tuple_of (by rfl) T.m_tuple (by decide +kernel) (pa_cons (pe_op op_cat (pe_slice sl_list (pv 6) po_none (po_some (pv 7))) (pe_lst (pa_cons (pv 8) pa_nil))) pa_nil)) pa_nil)))) (pg_name (i := 10) sc_law.nd rfl (by first | exact Or.inl rfl | exact Or.inr rfl)) (pss_one (ps_if (pt_cmpR (op_neD hr.units) (pe_callG F__law_told hgd hr (by rfl) g__law_told k__law_told b__law_told v__law_told pass0 (pa_cons (pv 2) (pa_cons (pv 10) pa_nil))) (pe_tup (pa_cons pe_str (pa_cons (pe_callB (call_reprD (B := fun _ => True) (by exact hgd) (by have hu := room_un hr; exact hu)) (by rfl) T.m_repr (by decide +kernel) (pa_cons (pv 8) pa_nil)) pa_nil))) (nomark _)) (pss_one (ps_ret pe_bl)) pss_nil))) (pss_cons (ps_if (PW.pt (pw_and (pt_cmpR (op_neD hr.units) (pv 8) (pe_lst pa_nil) (nomark _)) (pw_and (pt_not (pt_val (pe_callB call_isi (by rfl) T.m_isinstance (by decide +kernel) (pa_cons (pv 8) (pa_cons (pe_bltn (v := .ty "tuple") (by rfl) T.m_tuple (by decide +kernel) rfl) pa_nil))))) (pw_and1 (pt_cmpR (op_neD hr.units) (pe_callG F__law_told hgd hr (by rfl) g__law_told k__law_told b__law_told v__law_told pass0 (pa_cons (pv 2) (pa_cons (pv 8) pa_nil))) (pe_tup (pa_cons pe_str (pa_cons (pe_callB (call_reprD (B := fun _ => True) (by exact hgd) (by have hu := room_un hr; exact hu)) (by rfl) T.m_repr (by decide +kernel) (pa_cons (pv 8) pa_nil)) pa_nil))) (nomark _)))))) (pss_one (ps_ret pe_bl)) pss_nil) (pss_one (ps_if (pt_cmpR (op_neD hr.units) (pe_callG F__law_told hgd hr (by rfl) g__law_told k__law_told b__law_told v__law_told pass0 (pa_cons (pe_call F__law_wide (hr.mono (by decide)) (by rfl) g__law_wide k__law_wide b__law_wide v__law_wide pass0 (pa_cons pe_int (pa_cons pe_int pa_nil))) (pa_cons (pe_lst (pa_cons (pv 8) pa_nil)) pa_nil))) (pe_tup (pa_cons pe_str (pa_cons (pe_callB (call_reprD (B := fun _ => True) (by exact hgd) (by have hu := room_un hr; exact hu)) (by rfl) T.m_repr (by decide +kernel) (pa_cons (pv 8) pa_nil)) pa_nil))) (nomark _)) (pss_one (ps_ret pe_bl)) pss_nil))))))) (pss_cons (ps_par (i := 11) (j := 12) (by rfl) sc_law.nd rfl rfl (by decide) rfl rfl (pa_cons (pe_op op_mul pe_int (pe_op op_add pe_int (pe_call F__law_draw (hr.mono (by decide)) (by rfl) g__law_draw k__law_draw b__law_draw v__law_draw pass0 (pa_cons (pv 4) (pa_cons pe_int pa_nil))))) (pa_cons (pe_call F__law_draw (hr.mono (by decide)) (by rfl) g__law_draw k__law_draw b__law_draw v__law_draw pass0 (pa_cons (pv 4) (pa_cons pe_int pa_nil))) pa_nil)) (by rfl)) (pss_cons (ps_set (i := 13) sc_law.nd rfl (by first | exact Or.inl rfl | exact Or.inr rfl) (pe_ifExp (pt_cmpR op_gt (pe_op op_add pe_int (pv 11)) pe_int (nomark _)) (pe_tup (pa_cons pe_str (pa_cons pe_str pa_nil))) (pe_tup pa_nil))) (pss_one (ps_if (PW.pt (pw_or (pt_cmpR (op_neD hr.units) (pe_callG F__law_told hgd hr (by rfl) g__law_told k__law_told b__law_told v__law_told pass0 (pa_cons (pe_call F__law_wide (hr.mono (by decide)) (by rfl) g__law_wide k__law_wide b__law_wide v__law_wide pass0 (pa_cons (pv 11) (pa_cons (pv 12) pa_nil))) (pa_cons (pe_lst (pa_cons pe_int pa_nil)) pa_nil))) (pv 13) (nomark _)) (pw_or1 (pt_cmpR (op_neD hr.units) (pe_callG F__law_told hgd hr (by rfl) g__law_told k__law_told b__law_told v__law_told pass0 (pa_cons (pe_call F__law_wide (hr.mono (by decide)) (by rfl) g__law_wide k__law_wide b__law_wide v__law_wide pass0 (pa_cons (pv 11) (pa_cons (pv 12) pa_nil))) (pa_cons (pe_lst pa_nil) pa_nil))) (pe_tup pa_nil) (nomark _))))) (pss_one (ps_ret pe_bl)) pss_nil))))))) (pss_one (ps_ret (pe_and (pe_cmpR (op_eqD hr.units) (pe_callG F__law_told hgd hr (by rfl) g__law_told k__law_told b__law_told v__law_told pass0 (pa_cons (pv 2) (pa_cons (pe_lst pa_nil) pa_nil))) (pe_tup pa_nil) (nomark _)) (pe_one (pe_cmpR (op_eqD hr.units) (pe_callG F__law_told hgd hr (by rfl) g__law_told k__law_told b__law_told v__law_told pass0 (pa_cons (pv 2) (pa_cons (pe_tup (pa_cons pe_int (pa_cons (pe_op op_sub (pe_op op_powG pe_int pe_int) pe_int) pa_nil))) pa_nil))) (pe_tup pa_nil) (nomark _)))))))))), ?_⟩; rw [start_14_1]; try dsimp only [cxOf]
    have kp1 : CPowW 2 32 := ⟨by decide, by decide, by decide⟩
    have kp2 : CPowW 10 40 := ⟨by decide, by decide, by decide⟩
    walk_at "rl wp"
    rename_i t1 H1 n1 s1 h1 l0 H2 n2 s2 h2 po H3 n3 s3 h3
    refine ⟨6, 1, rfl, by decide, by decide, by decide, by decide, fun la H0 s0 hly => ?_⟩
    have hs0 := Same.seq s0 (Same.seq s3 (Same.seq s2 (Same.seq s1 hs)))
    have ht0 := s0 _ _ (s3 _ _ (s2 _ _ h1))
    have hl0 := s0 _ _ (s3 _ _ h2)
    have hpo := s0 _ _ h3
    have hodd : DqAll H0 (fun b => H0 b ≠ none) [.non, .bl true, .int (-1), .int (2 ^ (32 : Int).toNat), .str "1", .ref t1, .ref l0, .int (10 ^ (40 : Int).toNat), .bl false] oddD :=
      .cons .non (.cons (.bl _) (.cons (.int _) (.cons (.int _) (.cons (.str _) (.cons (.tup ht0 (by rw [ht0]; exact fun z => nomatch z) (.cons (.int _) .nil)) (.cons (.lst hl0 (by rw [hl0]; exact fun z => nomatch z) .nil) (.cons (.int _) (.cons (.bl _) .nil))))))))
    generalize hox : [V.non, .bl true, .int (-1), .int (2 ^ (32 : Int).toNat), .str "1", .ref t1, .ref l0, .int (10 ^ (40 : Int).toNat), .bl false] = ox at hpo hodd
    have hoxl : ox.length = 9 := by rw [← hox]; rfl
    clear hox h1 h2 h3 s1 s2 s3 n1 n2 n3 hs ht0 hl0 s0
    have hwl6 : (wideL 6 1).length ≤ 398 := wideL_len (by decide)
    walk_at "rl wp"
    have hJ3 : (if (if (((ns.map V.int).length : Nat) : Int) < 3 then (((ns.map V.int).length : Nat) : Int) else 3) > 1 then (if (((ns.map V.int).length : Nat) : Int) < 3 then (((ns.map V.int).length : Nat) : Int) else 3) else 1) ≤ (3 : Int) := by (repeat' split) <;> omega
    refine w_forR (fun i σ' H' => Same H0 H' ∧ ∃ z3 z4 z5 z6 z7 z8 z9 z10 z11 z12 z13, σ' = [some (.ref sc), some (.ref po), some (.ref la), z3, z4, z5, z6, z7, z8, z9, z10, z11, z12, z13]) ⟨Same.refl _, _, _, _, _, _, _, _, _, _, _, _, rfl⟩ ?_ ?_
    rotate_left
    · rintro σ' H' ⟨sm, z3, z4, z5, z6, z7, z8, z9, z10, z11, z12, z13, rfl⟩
      walk_at "rl wp"
      rename_i e1 H1 n1 s1 h1
      have p1 : keptB (kvsOf []) 65537 = false := rfl
      have p2 : keptB (kvsOf []) 65538 = false := rfl
      obtain ⟨b1, b2, b3⟩ := wideB p1 p2 (n := 6) (o := 1) (by decide) (by decide)
      refine w_toldI (B := fun _ => True) (d := .list []) [] [] (hly.same (sm.trans s1)) hwl6 (.lst h1 trivial .nil) (.inl rfl) (fun _ z => by cases z) (by decide) b1 b2 (by rw [b3]; decide) (by rw [b3]; rfl) (fun p H2 s2 hp => ?_)
      walk_at "rl wp"
      rename_i e2 H3 n3 s3 h3
      refine w_eqSS [] (fun _ z => by cases z) (s3 _ _ hp) h3 ?_
      walk_at "rl wi"
      rename_i e4 H4 n4 s4 h4
      have p3 : keptB (kvsOf [0, 2 ^ (32 : Int).toNat - 1]) 65537 = false := by decide +kernel
      have p4 : keptB (kvsOf [0, 2 ^ (32 : Int).toNat - 1]) 65538 = false := by decide +kernel
      obtain ⟨c1, c2, c3⟩ := wideB p3 p4 (n := 6) (o := 1) (by decide) (by decide)
      refine w_toldI (B := fun _ => True) (d := .tuple [.int 0, .int (2 ^ (32 : Int).toNat - 1)]) [0, 2 ^ (32 : Int).toNat - 1] [] (hly.same (sm.trans (s1.trans (s2.trans (s3.trans s4))))) hwl6 (.tup h4 trivial (.cons (.int _) (.cons (.int _) .nil))) (.inr rfl) (by decide +kernel) (by decide) c1 c2 (by rw [c3]; decide) (by rw [c3]; rfl) (fun p5 H5 s5 hp5 => ?_)
      walk_at "rl wp"
      rename_i e6 H6 n6 s6 h6
      refine w_eqSS [] (fun _ z => by cases z) (s6 _ _ hp5) h6 ?_
      walk_at "rl wi"
      exact q _
    rintro i σ' H1 hi ⟨sm1, z3, z4, z5, z6, z7, z8, z9, z10, z11, z12, z13, rfl⟩
    have hi3 : i < 3 := by omega
    clear hi hJ3
    walk_at "rl wp"
    refine ⟨sc, ns, _, rfl, Same.seq sm1 hs0, by omega, by omega, fun bag H2 nb s2 hb => ?_⟩
    have nb0 : H0 bag = none := fresh_same sm1 nb
    have sm2 := sm1.trans s2
    clear s2 nb sm1
    walk_at "rl wp"
    refine w_forR (fun t σ' H' => Same H0 H' ∧ Bag H' bag (3 * t) ∧ ∃ z5 z6 z7 z8 z9 z10 z11 z12 z13, σ' = [some (.ref sc), some (.ref po), some (.ref la), some (.int (0 + i)), some (.ref bag), z5, z6, z7, z8, z9, z10, z11, z12, z13]) ⟨sm2, Bag.le hb (by omega), _, _, _, _, _, _, _, _, _, rfl⟩ ?_ ?_
    rotate_left
    · rintro σ' H' ⟨sm, bg, z5, z6, z7, z8, z9, z10, z11, z12, z13, rfl⟩
      walk_at "rl wp"
      refine w_take bg (by omega) (by decide) (by decide) ?_
      intro r1 H3 bt3 bg3 r10 r11
      have sm3 := same_but sm nb0 bt3
      have cm : CMul 2 (196 + r1) := .inl ⟨by decide, by decide⟩
      walk_at "rl wp"
      refine w_take bg3 (by omega) (by decide) (by decide) ?_
      intro r2 H4 bt4 bg4 r20 r21
      have sm4 := same_but sm3 nb0 bt4
      clear sm sm3 bt3 bt4 bg3 bg4 bg
      obtain ⟨n, hn⟩ : ∃ n : Nat, 2 * (196 + r1) = (n : Int) := ⟨(2 * (196 + r1)).toNat, by omega⟩
      obtain ⟨o, ho⟩ : ∃ o : Nat, r2 = (o : Int) := ⟨r2.toNat, by omega⟩
      have hn1 : n ≤ 402 := by omega
      have hn0 : 0 < n := by omega
      have hn2 : n % 2 = 0 := by omega
      have ho3 : o ≤ 3 := by omega
      subst ho
      rw [hn]
      clear hn r20 r21 r10 r11 cm
      obtain ⟨ss, hss⟩ : ∃ ss : List Str, ss = if 400 < n + 2 then (["many", "entries"] : List Str) else [] := ⟨_, rfl⟩
      have hsc : ∀ s ∈ ss, (PyData.str s).canLay0 = true := fun s m => by
        rw [hss] at m
        split at m
        · have k : ∀ s ∈ (["many", "entries"] : List Str), (PyData.str s).canLay0 = true := by decide +kernel
          exact k s m
        · cases m
      with_reducible refine w_nil ?_
      (with_reducible refine w_par2 ?_); dsimp only [List.set]
      (first | with_reducible refine w_nxD rfl ?_ | skip)
      refine w_cut (fun σ' H' => Same H0 H' ∧ ∃ pd z5 z6 z7 z8 z9 z10, σ' = [some (.ref sc), some (.ref po), some (.ref la), some (.int (0 + i)), some (.ref bag), z5, z6, z7, z8, z9, z10, some (.int (n : Nat)), some (.int (o : Nat)), some (.ref pd)] ∧ H' pd = some (.tup (ss.map V.str))) (fun N hN => ?_) ?_
      · walk_at "rl wp"
        refine ite_dec (fun c => ?_) (fun c => ?_)
        · rw [if_pos (by omega)] at hss
          walk_at "rl wp"
          rename_i pd H5 n5 s5 h5
          exact hN _ _ ⟨sm4.trans s5, pd, _, _, _, _, _, _, rfl, by rw [hss]; exact h5⟩
        · rw [if_neg (by omega)] at hss
          walk_at "rl wp"
          rename_i pd H5 n5 s5 h5
          exact hN _ _ ⟨sm4.trans s5, pd, _, _, _, _, _, _, rfl, by rw [hss]; exact h5⟩
      rintro σ' H5 ⟨sm5, pd, z5, z6, z7, z8, z9, z10, rfl, hpd⟩
      walk_at "rl wp"
      refine ⟨n, o, rfl, by omega, hn2, ho3, by omega, fun lb H6 s6 hlb => ?_⟩
      walk_at "rl wp"
      rename_i pu H7 n7 s7 h7
      have p1 : keptB (kvsOf [65537]) 65537 = true := by decide +kernel
      have p2 : keptB (kvsOf [65537]) 65538 = false := by decide +kernel
      obtain ⟨a1, a2, a3, a4⟩ := wideA p1 p2 (n := n) (o := o) (by omega) hn2 hn0 ho3
      refine w_toldI (B := fun _ => True) (d := .list [.int 65537]) [65537] ss (hlb.same s7) (wideL_len ho3) (.lst h7 trivial (.cons (.int _) .nil)) (.inl rfl) (by decide +kernel) (by decide) a1 a2 (by rw [a3]; omega) (by rw [a4, hss]; split <;> rfl) (fun p8 H8 s8 hp8 => ?_)
      walk_at "rl wp"
      refine w_neSS ss hsc hp8 (s8 _ _ (s7 _ _ (s6 _ _ hpd))) ?_
      walk_at "rl wi"
      refine ⟨n, o, rfl, by omega, hn2, ho3, by omega, fun lc H9 s9 hlc => ?_⟩
      walk_at "rl wp"
      rename_i pv H10 n10 s10 h10
      have p3 : keptB (kvsOf []) 65537 = false := rfl
      have p4 : keptB (kvsOf []) 65538 = false := rfl
      obtain ⟨b1, b2, b3⟩ := wideB p3 p4 (n := n) (o := o) hn2 ho3
      refine w_toldI (B := fun _ => True) (d := .list []) [] [] (hlc.same s10) (wideL_len ho3) (.lst h10 trivial .nil) (.inl rfl) (fun _ z => by cases z) (by decide) b1 b2 (by rw [b3]; decide) (by rw [b3]; rfl) (fun p11 H11 s11 hp11 => ?_)
      walk_at "rl wp"
      rename_i pe H12 n12 s12 h12
      refine w_neSS [] (fun _ z => by cases z) (s12 _ _ hp11) h12 ?_
      walk_at "rl wi"
      exact ⟨sm5.trans (s6.trans (s7.trans (s8.trans (s9.trans (s10.trans (s11.trans s12)))))), _, _, _, _, _, _, _, _, _, _, _, rfl⟩
    rintro t σ' H3 ht ⟨sm3, bg3, z5, z6, z7, z8, z9, z10, z11, z12, z13, rfl⟩
    have ht5 : t < 5 := by omega
    clear ht hb sm2
    walk_at "rl wp"
    rename_i ps H4 n4 s4 h4
    refine w_take (Bag.same s4 bg3) (by omega) (by decide) (by decide) ?_
    intro at' H5 bt5 bg5 at0 at1
    have nps : ps ≠ bag := Bag.neN n4 bg3
    have hps := bt5 _ _ nps h4
    have sm5 := same_but (sm3.trans s4) nb0 bt5
    have npo : po ≠ bag := ne_of_none hpo nb0
    walk_at "rl wp"
    refine ⟨bag, po, ox, _, rfl, bg5, by omega, npo, SqL.of (sm5 _ _ hpo), by omega, by omega, fun x1 H6 bt6 bg6 m1 => ?_⟩
    obtain ⟨d1, hm1, hq1⟩ := dq_memD hodd m1
    have sm6 := same_but sm5 nb0 bt6
    walk_at "rl wp"
    refine ⟨bag, po, ox, _, rfl, bg6, by omega, npo, SqL.of (sm6 _ _ hpo), by omega, by omega, fun x2 H7 bt7 bg7 m2 => ?_⟩
    obtain ⟨d2, hm2, hq2⟩ := dq_memD hodd m2
    have sm7 := same_but sm6 nb0 bt7
    have hps7 := bt7 _ _ nps (bt6 _ _ nps hps)
    have bg7 := Bag.le bg7 (show _ ≤ (3 : Int) * (t + 1 : Nat) by omega)
    clear bg6 bg5 bg3 bt7 bt6 bt5 hps sm6 sm5 h4 s4 sm3 m1 m2
    obtain ⟨u1, u2, u3, u4, u5, u6, u7⟩ := oddD_ok hm1
    have dq1 : ∀ {H' : Hp}, Same H0 H' → Dq H' (fun _ => True) x1 d1 := fun s => Dq.keep (fun a o n e => ⟨s _ _ e, trivial⟩) d1 x1 hq1
    have dq2 : ∀ {H' : Hp}, Same H0 H' → Dq H' (fun _ => True) x2 d2 := fun s => Dq.keep (fun a o n e => ⟨s _ _ e, trivial⟩) d2 x2 hq2
    with_reducible refine w_nil ?_
    (with_reducible refine w_par2 ?_); dsimp only [List.set]
    (first | with_reducible refine w_nxD rfl ?_ | skip)
    refine w_cut (fun σ' H' => Same H7 H' ∧ ∃ z10, σ' = [some (.ref sc), some (.ref po), some (.ref la), some (.int (0 + i)), some (.ref bag), some (.int (0 + t)), some (.ref ps), some (.int at'), some x1, some x2, z10, z11, z12, z13]) (fun N hN => ?_) ?_
    · obtain ⟨as, bs, e1, e2, al, bl, am, bm⟩ := sl4 (z := 2 ^ (32 : Int).toNat - 1) at0 at1
      walk_at "rl wp"
      rename_i c1 H8 n8 s8 h8 c2 H9 n9 s9 h9
      rw [e1] at h8
      refine w_cat (s9 _ _ h8) h9 (by rw [List.length_map]; show as.length + 1 ≤ 100000; omega) (fun c3 H10 n10 s10 h10 => ?_)
      have hps10 := s10 _ _ (s9 _ _ (s8 _ _ hps7))
      walk_at "rl wp"
      rename_i c4 H11 n11 s11 h11
      rw [e2] at h11
      refine w_cat (s11 _ _ h10) h11 (by rw [List.length_append, List.length_map, List.length_map]; show as.length + 1 + bs.length ≤ 100000; omega) (fun c5 H12 n12 s12 h12 => ?_)
      walk_at "rl wp"
      rename_i c6 H13 n13 s13 h13
      refine w_cat (s13 _ _ h12) h13 (by rw [List.length_append, List.length_append, List.length_map, List.length_map]; show as.length + 1 + bs.length + 1 ≤ 100000; omega) (fun c7 H14 n14 s14 h14 => ?_)
      have hps14 := s14 _ _ (s13 _ _ (s12 _ _ (s11 _ _ hps10)))
      walk_at "rl wp"
      rename_i c8 H15 n15 s15 h15 c9 H16 n16 s16 h16
      rw [e1] at h15
      refine w_cat (s16 _ _ h15) h16 (by rw [List.length_map]; show as.length + 1 ≤ 100000; omega) (fun c10 H17 n17 s17 h17 => ?_)
      walk_at "rl wp"
      refine ⟨c10, _, rfl, .inl ⟨SqL.of h17, fun c11 n18 => ?_⟩⟩
      obtain ⟨H18, e18⟩ : ∃ H18, H18 = L2.upd H17 c11 (.tup (as.map V.int ++ [x1])) := ⟨_, rfl⟩
      have s18 : Same H17 H18 := by rw [e18]; exact same_upd n18
      have h18 : H18 c11 = some (.tup (as.map V.int ++ [x1])) := by rw [e18]; exact upd_same
      rw [← e18]
      try dsimp only
      clear e18
      have h14' := s18 _ _ (s17 _ _ (s16 _ _ (s15 _ _ h14)))
      have s718 : Same H7 H18 := s8.trans (s9.trans (s10.trans (s11.trans (s12.trans (s13.trans (s14.trans (s15.trans (s16.trans (s17.trans s18)))))))))
      clear s8 s9 s10 s11 s12 s13 s14 s15 s16 s17 s18 n8 n9 n10 n11 n12 n13 n14 n15 n16 n17 n18 h8 h9 h10 h11 h12 h13 h14 h15 h16 h17 hps10 hps14
      walk_at "rl wp"
      rename_i c12 H19 n19 s19 h19
      have h14 := s19 _ _ h14'
      have h18 := s19 _ _ h18
      have s719 := s718.trans s19
      have s019 := sm7.trans s719
      clear h14' s718 s19
      refine w_forS (D := { nx := N, rt := Q, bk := N, ct := N }) (xs := [.ref c7, .ref c11]) (fun k σ' H' => Same H19 H' ∧ ∃ z10, σ' = [some (.ref sc), some (.ref po), some (.ref la), some (.int (0 + i)), some (.ref bag), some (.int (0 + t)), some (.ref ps), some (.int at'), some x1, some x2, z10, z11, z12, z13]) (fun k σ' H' ⟨sm, _⟩ => seqT (SqT.of (sm _ _ h19))) ⟨Same.refl _, _, rfl⟩ ?_ ?_
      · rintro k x σ' H' hx ⟨sm, z10, rfl⟩
        have s0' := s019.trans sm
        have fin : ∀ (d : PyData), Dq H' (fun _ => True) x d → (∀ m, d ≠ .dict m) → lookBad d = some d1 → True := fun _ _ _ _ => trivial
        obtain ⟨d, hdx, hnd, hlb⟩ : ∃ d, Dq H' (fun _ => True) x d ∧ (∀ m, d ≠ .dict m) ∧ lookBad d = some d1 := by
          have k2 : k = 0 ∨ k = 1 := by
            have := (List.getElem?_eq_some_iff.mp hx).1
            simp at this
            omega
          rcases k2 with rfl | rfl
          · cases hx
            refine ⟨.list (as.map PyData.int ++ d1 :: (bs.map PyData.int ++ [d2])), .lst (sm _ _ h14) trivial ?_, (fun m e => nomatch e), find_bad (in4 am) u4⟩
            rw [show as.map V.int ++ [x1] ++ bs.map V.int ++ [x2] = as.map V.int ++ (x1 :: (bs.map V.int ++ [x2])) by simp]
            exact DqAll.app (dqInts as) (.cons (dq1 s0') (DqAll.app (dqInts bs) (.cons (dq2 s0') .nil)))
          · cases hx
            refine ⟨.tuple (as.map PyData.int ++ d1 :: []), .tup (sm _ _ h18) trivial (DqAll.app (dqInts as) (.cons (dq1 s0') .nil)), (fun m e => nomatch e), find_bad (in4 am) u4⟩
        walk_at "rl wp"
        refine w_toldU (hly.same s0') hwl6 hdx hnd hlb hm1 (fun p H20 s20 hp => ?_)
        walk_at "rl wp"
        refine w_repr1 (dq1 (s0'.trans s20)) hm1 ?_
        walk_at "rl wp"
        rename_i p2 H21 n21 s21 h21
        refine w_neSS ["usage", d1.shown] (usag_ok hm1) (s21 _ _ hp) h21 ?_
        walk_at "rl wi"
        exact ⟨sm.trans (s20.trans s21), _, rfl⟩
      · rintro σ' H' ⟨sm, z10, rfl⟩
        exact hN _ _ ⟨s719.trans sm, _, rfl⟩
    rintro σ' H8 ⟨s78, z10, rfl⟩
    have sm8 := sm7.trans s78
    have bg8 := Bag.same s78 bg7
    clear sm7 s78 bg7 hps7
    refine w_cut (fun σ' H' => Same H8 H' ∧ σ' = [some (.ref sc), some (.ref po), some (.ref la), some (.int (0 + i)), some (.ref bag), some (.int (0 + t)), some (.ref ps), some (.int at'), some x1, some x2, z10, z11, z12, z13]) (fun N hN => ?_) ?_
    · walk_at "rl wp"
      rename_i e1 H9 n9 s9 h9
      have hx9 := dq1 (sm8.trans s9)
      refine ⟨d1, .list [], dp_of d1 x1 u5 hx9, .lst (SqL.of h9) .nil, ?_, by rfl, ?_⟩
      · have e2 : SeqAt.shaped d1 = (d1.canLay0 && decide (d1.depth ≤ 64)) := rfl
        rw [e2, u5, decide_eq_true (by omega)]
        rfl
      have told : ∀ {A B : Prop}, True := trivial
      cases hx9 with
      | @lst a9 xs9 ds9 e nb ha =>
        obtain rfl : ds9 = [] := by
          have hm1 := hm1
          simp only [oddD, List.mem_cons, List.not_mem_nil, or_false] at hm1
          rcases hm1 with h | h | h | h | h | h | h | h | h <;> first | (cases h; done) | (injection h)
        walk_at "rl wi"
        exact hN _ _ ⟨s9, rfl⟩
      | @tup a9 xs9 ds9 e nb ha =>
        walk_at "rl wi"
        exact hN _ _ ⟨s9, rfl⟩
      | dk0 e nb => exact absurd rfl (u7 _)
      | dk1 e nb => exact absurd rfl (u7 _)
      | _ =>
        walk_at "rl wi"
        refine w_toldU (hly.same (sm8.trans s9)) hwl6 (dq1 (sm8.trans s9)) u7 rfl hm1 (fun p H12 s12 hp => ?_)
        walk_at "rl wp"
        refine w_repr1 (dq1 (sm8.trans (s9.trans s12))) hm1 ?_
        walk_at "rl wp"
        rename_i p2 H13 n13 s13 h13
        refine w_neSS _ (usag_ok hm1) (s13 _ _ hp) h13 ?_
        walk_at "rl wi"
        exact hN _ _ ⟨s9.trans (s12.trans s13), rfl⟩
    rintro σ' H9 ⟨s89, rfl⟩
    have sm9 := sm8.trans s89
    have bg9 := Bag.same s89 bg8
    clear sm8 s89 bg8
    walk_at "rl wp"
    refine ⟨512, 0, rfl, by decide, by decide, by decide, by decide, fun lb H10 s10 hlb => ?_⟩
    walk_at "rl wp"
    rename_i pu H11 n11 s11 h11
    have hx11 := dq1 (sm9.trans (s10.trans s11))
    refine w_toldU (B := fun _ => True) (d := .list [d1]) (hlb.same s11) (wideL_len (by decide)) (.lst h11 trivial (.cons hx11 .nil)) (fun m e => nomatch e) (find_bad (as := []) (fun _ z => by cases z) u4) hm1 (fun p H12 s12 hp => ?_)
    walk_at "rl wp"
    refine w_repr1 (dq1 (sm9.trans (s10.trans (s11.trans s12)))) hm1 ?_
    walk_at "rl wp"
    rename_i p2 H13 n13 s13 h13
    refine w_neSS ["usage", d1.shown] (usag_ok hm1) (s13 _ _ hp) h13 ?_
    walk_at "rl wi"
    exact ⟨sm9.trans (s10.trans (s11.trans (s12.trans s13))), Bag.same (s10.trans (s11.trans (s12.trans s13))) bg9, _, _, _, _, _, _, _, _, _, rfl⟩
end T61
end
section
set_option Elab.async false
set_option linter.all false
set_option maxRecDepth 100000
set_option maxHeartbeats 1000000
namespace T61
open PySem PySem.Spec PyProof.Rows L2 L2.RL
theorem all_law {P : Program} {w : World} {K : PySem.W.Frag} {mg : Str → Option Value} {base : Heap} (T : TT K mg) {fd : FuncData} (F : FunD K "law" "law" (defArgs (top 82)) (defBody (top 82)) (defScope (top 82)) (([] : List He.Dv).map (He.Dv.v K)) (([] : List (Str × He.Dv)).map fun q => (q.1, q.2.v K)) (He.ga K "law") fd) : FnG P w K mg base CX0 11 (He.ga K "law") fd ["_law_script"] (spLaw K) := by
  have D_is_integer := ok_is_integer (P := P) (w := w) (base := base) T
  have D_is_usage := ok_is_usage (P := P) (w := w) (base := base) T D_is_integer
  have D_fits := ok_fits (P := P) (w := w) (base := base) T
  have D_bad_range := ok_bad_range (P := P) (w := w) (base := base) T D_fits
  have D_are_usages := ok_are_usages (P := P) (w := w) (base := base) T
  have D_Field_numbers := ok_Field_numbers (P := P) (w := w) (base := base) T
  have D_Field_bad_name := ok_Field_bad_name (P := P) (w := w) (base := base) T D_is_integer D_is_usage D_bad_range D_are_usages D_Field_numbers
  have D_BadField___init__ := ok_BadField___init__ (P := P) (w := w) (base := base) T
  have D_mk_Field := ok_Field___init__ (P := P) (w := w) (base := base) T D_Field_bad_name D_BadField___init__
  have D_Field_style := ok_Field_style (P := P) (w := w) (base := base) T
  have D_Field_total_bits := ok_Field_total_bits (P := P) (w := w) (base := base) T
  have D_is_opening := ok_is_opening (P := P) (w := w) (base := base) T D_is_integer D_is_usage
  have D_bad_entry := ok_bad_entry (P := P) (w := w) (base := base) T D_is_opening D_Field_total_bits
  have D_Layout___init__ := ok_Layout___init__ (P := P) (w := w) (base := base) T D_bad_entry
  have D_Layout_entries := ok_Layout_entries (P := P) (w := w) (base := base) T
  have D_Layout_fields := ok_Layout_fields (P := P) (w := w) (base := base) T
  have D_NoUsage___init__ := ok_NoUsage___init__ (P := P) (w := w) (base := base) T
  have D_look_usages := ok_look_usages (P := P) (w := w) (base := base) T D_NoUsage___init__
  have D_field_like := ok_field_like (P := P) (w := w) (base := base) T D_mk_Field
  have D_runs_of := ok_runs_of (P := P) (w := w) (base := base) T
  have D_cut_variable := ok_cut_variable (P := P) (w := w) (base := base) T D_runs_of D_field_like
  have D_cut_field := ok_cut_field (P := P) (w := w) (base := base) T D_Field_style D_cut_variable
  have D__law_draw := ok__law_draw (P := P) (w := w) (base := base) T
  have D__law_source := ok__law_source (P := P) (w := w) (base := base) T
  have D__law_of := ok__law_of (P := P) (w := w) (base := base) T D__law_draw
  have D_Field___eq__ := ok_Field___eq__ (P := P) (w := w) (base := base) T
  have D_without_empty := ok_without_empty (P := P) (w := w) (base := base) T D_Field___eq__
  have D_TooMany___init__ := ok_TooMany___init__ (P := P) (w := w) (base := base) T
  have D_cut := ok_cut (P := P) (w := w) (base := base) T D_look_usages D_cut_field D_Field_style D_Layout_entries D_without_empty D_TooMany___init__ D_Layout___init__
  have D__law_wide := ok__law_wide (P := P) (w := w) (base := base) T D_mk_Field D_Layout___init__
  have D__law_told := ok__law_told (P := P) (w := w) (base := base) T D_cut
  exact ok_law T D__law_wide D__law_source D__law_draw D__law_of D__law_told F
end T61
end
section
open PySem PySem.W PyProof.Rows
set_option Elab.async false
set_option maxRecDepth 100000
set_option maxHeartbeats 0
open_top hd61 for PySem.Challenge.rw_reportlays_k61_cut_refused
end
set_option Elab.async false
set_option linter.all false
set_option maxRecDepth 100000
set_option maxHeartbeats 0
open PySem PySem.W PyProof.Rows
theorem PySem.Challenge.cw_reportlays_k61_cut_refused_holds : PySem.Challenge.rw_reportlays_k61_cut_refused.Holds := by
  refine hd61 ?_
  refine L2.RL.walk_ofG (l := PySem.Challenge.rw_reportlays_k61_cut_refused) (n := 63) (k := 11) (x := "_law_script") (sp := fun w => T61.spLaw (hd61.heap_39 w.params)) rfl (by decide) rfl ⟨rfl, by decide, by decide⟩ (fun w h Y => PySem.W.kIn_of Y) ?F (fun _ _ a ns hl _ hS => ⟨a, ns, rfl, hS, hl, fun _ => rfl⟩)
  case F =>
    intro w mg fa h KX G hmg
    have c : He.obsD T61.fa T61.fn (hd61.heap_39 w.params) = He.valD T61.fn := by kernel_rfl
    have c1 : (T61.exs.all fun f => f (hd61.heap_39 w.params)) = true := by kernel_rfl
    have c2 : L2.RL.SaysP T61.prs (hd61.heap_39 w.params) := by unfold L2.RL.SaysP; kernel_rfl
    have T : T61.TT (hd61.heap_39 w.params) mg := ⟨⟨c, c1, h, KX, G⟩, c2⟩
    obtain ⟨fd, F⟩ := T.d_law
    have e := hmg.symm.trans T.g_law
    cases e
    exact ⟨fd, fun s v => L2.FunD.bindsA (ps := ["_law_script"]) F (fun _ _ _ _ _ _ us hl => match us, hl with | [_], _ => rfl) s [v] rfl, fun base _ _ => T61.all_law T F⟩
