import PyProof.Rows.All
import Wide.All
import OpenK.AllK
import HandS.Zip
import HandS.Deep
import KE.KDictZip
import HandS.Iter
import KE.GoesMore
import PyProof.Draws
import PyProof.EnumMake
import HandS.Style
import HandS.TupAny
import KE.KRevSl
import PyProof.Rows.SetFrom
import PyProof.Rows.StrInSeq
import HandS.Strs
import Wide.FinOn
import KE.KIsAll
import KE.KTryMore
import HandS.ForMost
import HandS.ExcInit
import HandS.ExcIs
import HandS.ExcField
import HandS.ExcValue
import HandS.ExcOwn
import HandS.Words
import HandS.Small
import HandS.IsInst
import HandS.Star
import HandS.TupMul
import HandS.TupLe
import HandS.Flow
import HandS.Wide
import HandS.NoneIn
import PyProof.SeqIndex
import HandS.Text
import PyProof.FString5
import HandS.RaiseMore
import HandS.More
import HandS.FStr
import KE.KDictList
import HandS.DictComp
import PyProof.Rows.ReprOcc
import PyProof.StrLawsRepr
import PyProof.P3Eq
import PySem.Challenge.RW_latemirror_k92_errors_made_by_hand
set_option Elab.async false
set_option linter.all false
set_option maxRecDepth 100000
set_option maxHeartbeats 8000000
set_option exponentiation.threshold 5000
/-! Z1: dict(zip(xs, ys)) of two tuples. -/
namespace Ev2
open PySem L2 PyProof.Rows

section
variable {prog : Program} {w : World} {A : Around} {E : Value → Shared → Prop} {s : Shared}

theorem ztItem {z u t T j1 j2 p1 p2 : Addr} {f : Bool} {oT : Obj} {n1 n2 : Nat} {us vs : Array Value} {x y : Value} {Q : Value → Shared → Prop} (Ap : ZipApart z u t j1 j2 p1 p2)
    (gz : IsZipHeld s.heap z u t T f) (gT : s.heap.get? T = some oT) (gu : IsPair s.heap u (.ref j1) (.ref j2)) (g1 : s.heap.IsTupleIter j1 p1 n1) (g2 : s.heap.IsTupleIter j2 p2 n2)
    (m1 : s.heap.IsTuple p1 us) (m2 : s.heap.IsTuple p2 vs) (ex : us[n1]? = some x) (ey : vs[n2]? = some y)
    (q : ∀ h', IsZipHeld h' z u t T true → h'.IsTupleIter j1 p1 (n1 + 1) → h'.IsTupleIter j2 p2 (n2 + 1) → IsPair h' s.heap.objs.size x y → h'.objs.size = s.heap.objs.size + 1 →
      (∀ c o, c ≠ z → c ≠ j1 → c ≠ j2 → s.heap.get? c = some o → h'.get? c = some o) → Q (.ref s.heap.objs.size) { s with heap := h' }) :
    wpAny (model prog w) A (Builtin.«zip.__next__» ⟨[.ref z], []⟩) (fun r s' => ∃ v, r = .done (.ret v) ∧ Q v s') E s := by
  show wpAny _ A (field (.ref z) 2 >>= _) _ E s
  refine wpAny_bind (wpAny_field gz rfl (x := .bool false) rfl ?_)
  show wpAny _ A (field (.ref z) 3 >>= _) _ E s
  refine wpAny_bind (wpAny_field gz rfl (x := .ref u) rfl ?_)
  refine wpAny_bind (wpAny_seqItems gu rfl ?_)
  show wpAny _ A (Builtin.SmallTypes.ownedTupleIsFree (.ref z) >>= _) _ E s
  refine wpAny_bind (wpAny_tupleHeld_zip gz gT fun k1 z1 b1 => ?_)
  simp only [if_false, Bool.false_eq_true]
  refine wpAny_bind ?_
  rw [← Array.forIn_toList]
  simp only [List.forIn_nil, List.forIn_cons]
  refine wpAny_bind (wpAny_bind (wpAny_holding (?_)))
  show wpAny _ _ (Builtin.SmallTypes.nextOf (.ref j1) >>= _) _ E _
  refine wpAny_bind (RZ.nextOf_tuple_item (s := { s with heap := k1 }) (g1.extBut b1.extBut Ap.i1z) (m1.extBut b1.extBut Ap.l1z) ex fun k2 a2 b2 => wpAny_pure ?_)
  refine wpAny_pure ?_
  refine wpAny_bind (wpAny_bind (wpAny_holding (?_)))
  show wpAny _ _ (Builtin.SmallTypes.nextOf (.ref j2) >>= _) _ E _
  refine wpAny_bind (RZ.nextOf_tuple_item (s := { s with heap := k2 }) ((g2.extBut b1.extBut Ap.i2z).extBut b2.extBut Ap.i12.symm) ((m2.extBut b1.extBut Ap.l2z).extBut b2.extBut Ap.l2i1) ey fun k3 a3 b3 => wpAny_pure ?_)
  refine wpAny_pure (wpAny_pure ?_)
  show wpAny _ A (newTuple [x, y] >>= _) _ E _
  refine wpAny_bind (wpAny_newTuple ?_)
  have sz : k3.objs.size = s.heap.objs.size := by rw [b3.1, b2.1, b1.1]
  have z3 : IsZipHeld k3 z u t T true := b3.extBut _ _ Ap.i2z.symm (b2.extBut _ _ Ap.i1z.symm z1)
  have up : ∀ c o, c ≠ z → c ≠ j1 → c ≠ j2 → s.heap.get? c = some o → k3.get? c = some o := fun c o c1 c2 c3 e => b3.extBut _ _ c3 (b2.extBut _ _ c2 (b1.extBut _ _ c1 e))
  have a2' : k3.IsTupleIter j1 p1 (n1 + 1) := a2.extBut b3.extBut Ap.i12
  refine wpAny_pure ⟨_, rfl, ?_⟩
  show Q (.ref k3.objs.size) _
  have hp : IsPair (k3.push { cls := .type "tuple", data := .seq #[x, y] }) k3.objs.size x y := Heap.get?_push_size _ rfl
  have sz4 : (k3.push { cls := .type "tuple", data := .seq #[x, y] }).objs.size = k3.objs.size + 1 := Heap.size_push ..
  rw [sz] at hp sz4 ⊢
  exact q _ (Heap.get?_push_of_some _ z3) (a2'.at fun o e => Heap.get?_push_of_some _ e) (a3.at fun o e => Heap.get?_push_of_some _ e) hp sz4 fun c o c1 c2 c3 e => Heap.get?_push_of_some _ (up c o c1 c2 c3 e)

theorem ztEnd {z u t T j1 j2 p1 p2 : Addr} {f : Bool} {oT : Obj} {n1 n2 : Nat} {us vs : Array Value} {Q : PySem.Fin → Shared → Prop} (hh : A.handled = none) (Ap : ZipApart z u t j1 j2 p1 p2)
    (gz : IsZipHeld s.heap z u t T f) (gT : s.heap.get? T = some oT) (gu : IsPair s.heap u (.ref j1) (.ref j2)) (g1 : s.heap.IsTupleIter j1 p1 n1) (g2 : s.heap.IsTupleIter j2 p2 n2)
    (m1 : s.heap.IsTuple p1 us) (m2 : s.heap.IsTuple p2 vs) (hend : us[n1]? = none ∨ vs[n2]? = none)
    (q : ∀ h' e, (∀ c o, c ≠ z → c ≠ j1 → c ≠ j2 → s.heap.get? c = some o → h'.get? c = some o) → (∃ o, h'.get? e = some o ∧ o.cls = .type "StopIteration") → E (.ref e) { s with heap := h' }) :
    wpAny (model prog w) A (Builtin.«zip.__next__» ⟨[.ref z], []⟩) Q E s := by
  show wpAny _ A (field (.ref z) 2 >>= _) Q E s
  refine wpAny_bind (wpAny_field gz rfl (x := .bool false) rfl ?_)
  show wpAny _ A (field (.ref z) 3 >>= _) Q E s
  refine wpAny_bind (wpAny_field gz rfl (x := .ref u) rfl ?_)
  refine wpAny_bind (wpAny_seqItems gu rfl ?_)
  show wpAny _ A (Builtin.SmallTypes.ownedTupleIsFree (.ref z) >>= _) Q E s
  refine wpAny_bind (wpAny_tupleHeld_zip gz gT fun k1 z1 b1 => ?_)
  simp only [if_false, Bool.false_eq_true]
  refine wpAny_bind ?_
  rw [← Array.forIn_toList]
  simp only [List.forIn_nil, List.forIn_cons]
  refine wpAny_bind (wpAny_bind (wpAny_holding (?_)))
  show wpAny _ _ (Builtin.SmallTypes.nextOf (.ref j1) >>= _) _ E _
  cases ex : us[n1]? with
  | none =>
    refine wpAny_bind (RZ.nextOf_tuple_end (s := { s with heap := k1 }) hh (g1.extBut b1.extBut Ap.i1z) (m1.extBut b1.extBut Ap.l1z) ex fun k2 e b2 he => ?_)
    exact q k2 e (fun c o c1 c2 _ x => b2 _ _ c2 (b1.extBut _ _ c1 x)) he
  | some x =>
    have ey : vs[n2]? = none := by rcases hend with h | h; rw [ex] at h; cases h; exact h
    refine wpAny_bind (RZ.nextOf_tuple_item (s := { s with heap := k1 }) (g1.extBut b1.extBut Ap.i1z) (m1.extBut b1.extBut Ap.l1z) ex fun k2 a2 b2 => wpAny_pure ?_)
    refine wpAny_pure ?_
    refine wpAny_bind (wpAny_bind (wpAny_holding (?_)))
    show wpAny _ _ (Builtin.SmallTypes.nextOf (.ref j2) >>= _) _ E _
    refine wpAny_bind (RZ.nextOf_tuple_end (s := { s with heap := k2 }) hh ((g2.extBut b1.extBut Ap.i2z).extBut b2.extBut Ap.i12.symm) ((m2.extBut b1.extBut Ap.l2z).extBut b2.extBut Ap.l2i1) ey fun k3 e b3 he => ?_)
    exact q k3 e (fun c o c1 c2 c3 x => b3 _ _ c3 (b2.extBut _ _ c2 (b1.extBut _ _ c1 x))) he

theorem ztNext {z u t T j1 j2 p1 p2 : Addr} {f : Bool} {oT : Obj} {n1 n2 : Nat} {us vs : Array Value} {x y : Value} {Q : Option Value → Shared → Prop} (Ap : ZipApart z u t j1 j2 p1 p2)
    (gz : IsZipHeld s.heap z u t T f) (gT : s.heap.get? T = some oT) (gu : IsPair s.heap u (.ref j1) (.ref j2)) (g1 : s.heap.IsTupleIter j1 p1 n1) (g2 : s.heap.IsTupleIter j2 p2 n2)
    (m1 : s.heap.IsTuple p1 us) (m2 : s.heap.IsTuple p2 vs) (ex : us[n1]? = some x) (ey : vs[n2]? = some y)
    (q : ∀ h', IsZipHeld h' z u t T true → h'.IsTupleIter j1 p1 (n1 + 1) → h'.IsTupleIter j2 p2 (n2 + 1) → IsPair h' s.heap.objs.size x y → h'.objs.size = s.heap.objs.size + 1 →
      (∀ c o, c ≠ z → c ≠ j1 → c ≠ j2 → s.heap.get? c = some o → h'.get? c = some o) → Q (some (.ref s.heap.objs.size)) { s with heap := h' }) :
    wpAny (model prog w) A (pyNext (.ref z)) Q E s := by
  have ty : s.TypeIs (.ref z) "zip" := ⟨_, gz, rfl⟩
  unfold pyNext
  exact wpAny_bind (wpAny_attempt (wpAny_callSpecial?_slot (name := Str.ofString "__next__") ty F.slot_zip_next
    (wpAny_call_entry F.slot_zip_next ty F.entry_zip_next (ztItem Ap gz gT gu g1 g2 m1 m2 ex ey fun h' a1 a3 a4 a5 a6 a7 => wpAny_pure (q h' a1 a3 a4 a5 a6 a7)) (F.args_zip_next_1 _))))
theorem ztStop {z u t T j1 j2 p1 p2 : Addr} {f : Bool} {oT : Obj} {n1 n2 : Nat} {us vs : Array Value} {Q : Option Value → Shared → Prop} (hh : A.handled = none) (Ap : ZipApart z u t j1 j2 p1 p2)
    (gz : IsZipHeld s.heap z u t T f) (gT : s.heap.get? T = some oT) (gu : IsPair s.heap u (.ref j1) (.ref j2)) (g1 : s.heap.IsTupleIter j1 p1 n1) (g2 : s.heap.IsTupleIter j2 p2 n2)
    (m1 : s.heap.IsTuple p1 us) (m2 : s.heap.IsTuple p2 vs) (hend : us[n1]? = none ∨ vs[n2]? = none)
    (q : ∀ h', (∀ c o, c ≠ z → c ≠ j1 → c ≠ j2 → s.heap.get? c = some o → h'.get? c = some o) → Q none { s with heap := h' }) : wpAny (model prog w) A (pyNext (.ref z)) Q E s := by
  have ty : s.TypeIs (.ref z) "zip" := ⟨_, gz, rfl⟩
  unfold pyNext
  refine wpAny_bind (wpAny_attempt (wpAny_callSpecial?_slot (name := Str.ofString "__next__") ty F.slot_zip_next
    (wpAny_call_entry F.slot_zip_next ty F.entry_zip_next (ztEnd hh Ap gz gT gu g1 g2 m1 m2 hend fun h' e hk he => ?_) (F.args_zip_next_1 _))))
  obtain ⟨o, ho, hc⟩ := he
  refine wpAny_bind (wpAny_isInstance (T := "StopIteration") (b := true) ⟨o, ho, hc⟩ isSubtype_stop ?_)
  exact wpAny_pure (q _ hk)
end
end Ev2
namespace Ev2
open PySem L2 PyProof.Rows
section
variable {prog : Program} {w : World}
theorem ztArg (z u t j1 j2 p1 p2 : Addr) (Ap : ZipApart z u t j1 j2 p1 p2) (us vs : Array Value) :
    PairArg prog w "zip" z [z, u, t, j1, j2, p1, p2] [z, t, j1, j2] (min us.size vs.size) (fun i k v => us[i]? = some k ∧ vs[i]? = some v)
      (fun h => IsZip h z u t .none ∧ IsPair h u (.ref j1) (.ref j2) ∧ (∃ a b, IsPair h t a b) ∧ h.IsTupleIter j1 p1 0 ∧ h.IsTupleIter j2 p2 0 ∧ h.IsTuple p1 us ∧ h.IsTuple p2 vs) where
  type := fun s ok => ⟨_, ok.1, rfl⟩
  notDict := by decide
  keep := fun h h' ok hk => by
    obtain ⟨gz, gu, ⟨a, b, gt⟩, g1, g2, m1, m2⟩ := ok
    exact ⟨hk _ _ gz, hk _ _ gu, ⟨a, b, hk _ _ gt⟩, g1.at fun o e => hk _ o e, g2.at fun o e => hk _ o e, m1.at fun o e => hk _ o e, m2.at fun o e => hk _ o e⟩
  there := fun h ok b hb => by
    obtain ⟨gz, gu, ⟨a, c, gt⟩, ⟨o1, g1, _⟩, ⟨o2, g2, _⟩, ⟨o3, m1, _⟩, ⟨o4, m2, _⟩⟩ := ok
    simp only [List.not_mem_nil, List.mem_cons, or_false] at hb
    rcases hb with e | e | e | e | e | e | e <;> subst e
    all_goals first | exact ⟨_, gz⟩ | exact ⟨_, gu⟩ | exact ⟨_, gt⟩ | exact ⟨_, g1⟩ | exact ⟨_, g2⟩ | exact ⟨_, m1⟩ | exact ⟨_, m2⟩
  sub := fun b hb => by
    simp only [List.not_mem_nil, List.mem_cons, or_false] at hb ⊢
    rcases hb with e | e | e | e <;> simp [e]
  noKeys := fun A s Q E hA ok h => getAttrOr_miss_zip ok.1 rfl rfl rfl zip_no_keys (by decide +kernel) hA h
  iter := fun A s d Q E hA ok hd hdf h => by
    obtain ⟨gz, gu, ⟨a, b, gt⟩, g1, g2, m1, m2⟩ := ok
    simp only [List.not_mem_nil, List.mem_cons, or_false, not_or] at hdf
    obtain ⟨nz, nu, nt, n1, n2, np1, np2⟩ := hdf
    refine wpAny_pyIter_zip gz (h z [z, t, j1, j2] (fun i h => IsPair h u (.ref j1) (.ref j2) ∧ h.IsTupleIter j1 p1 i ∧ h.IsTupleIter j2 p2 i ∧ h.IsTuple p1 us ∧ h.IsTuple p2 vs ∧
      ((IsZip h z u t .none ∧ ∃ a b, IsPair h t a b) ∨ ∃ T f oT, IsZipHeld h z u t T f ∧ h.get? T = some oT ∧ T ≠ z ∧ T ≠ j1 ∧ T ≠ j2 ∧ T ≠ d)) s.heap s.toks ?_
      ⟨gu, g1, g2, m1, m2, .inl ⟨gz, a, b, gt⟩⟩ (fun _ _ e => e) fun b hb => .inl hb)
    exact {
      off := fun hm => by
        simp only [List.not_mem_nil, List.mem_cons, or_false] at hm
        rcases hm with e | e | e | e
        · exact nz e
        · exact nt e
        · exact n1 e
        · exact n2 e
      frame := fun i k1 k2 st hk => by
        obtain ⟨gu, g1, g2, m1, m2, gz⟩ := st
        refine ⟨hk _ _ (Ne.symm nu) gu, g1.at fun o e => hk _ o (Ne.symm n1) e, g2.at fun o e => hk _ o (Ne.symm n2) e, m1.at fun o e => hk _ o (Ne.symm np1) e, m2.at fun o e => hk _ o (Ne.symm np2) e, ?_⟩
        rcases gz with ⟨gz, a, b, gt⟩ | ⟨T, f, oT, gz, gT, r1, r2, r3, r4⟩
        · exact .inl ⟨hk _ _ (Ne.symm nz) gz, a, b, hk _ _ (Ne.symm nt) gt⟩
        · exact .inr ⟨T, f, oT, hk _ _ (Ne.symm nz) gz, hk _ _ r4 gT, r1, r2, r3, r4⟩
      item := fun i s1 Q1 E1 hi st hds hQ => by
        obtain ⟨gu, g1, g2, m1, m2, gz⟩ := st
        have ex := Array.getElem?_eq_getElem (Nat.lt_of_lt_of_le hi (Nat.min_le_left us.size vs.size))
        have ey := Array.getElem?_eq_getElem (Nat.lt_of_lt_of_le hi (Nat.min_le_right us.size vs.size))
        have lt : ∀ {c o}, s1.heap.get? c = some o → s1.heap.objs.size ≠ c := fun e => Nat.ne_of_gt (Heap.lt_size e)
        have l1 : s1.heap.objs.size ≠ j1 := let ⟨_, e, _⟩ := g1; lt e
        have l2 : s1.heap.objs.size ≠ j2 := let ⟨_, e, _⟩ := g2; lt e
        rcases gz with ⟨gz, a, b, gt⟩ | ⟨T, f, oT, gz, gT, r1, r2, r3, r4⟩
        · refine RZ.pyNext_zipT_item Ap gz gu gt g1 g2 m1 m2 ex ey fun h' a1 a2 a3 a4 a5 a6 hk => ?_
          exact hQ s1.heap.objs.size _ _ h' s1.toks ⟨ex, ey⟩ (.inl ⟨_, a5, rfl, _, rfl⟩)
            ⟨hk _ _ Ap.TIz Ap.TITO Ap.TIi1 Ap.TIi2 gu, a3, a4, m1.at fun o e => hk _ o Ap.l1z Ap.l1TO Ap.l1i1 Ap.l1i2 e, m2.at fun o e => hk _ o Ap.l2z Ap.l2TO Ap.l2i1 Ap.l2i2 e,
              .inr ⟨s1.heap.objs.size, false, _, a1, a5, lt gz, l1, l2, Nat.ne_of_gt hds⟩⟩
            fun c o hc e => hk c o (fun y => hc (by simp [y])) (fun y => hc (by simp [y])) (fun y => hc (by simp [y])) (fun y => hc (by simp [y])) e
        · refine ztNext Ap gz gT gu g1 g2 m1 m2 ex ey fun h' a1 a3 a4 a5 a6 hk => ?_
          exact hQ s1.heap.objs.size _ _ h' s1.toks ⟨ex, ey⟩ (.inl ⟨_, a5, rfl, _, rfl⟩)
            ⟨hk _ _ Ap.TIz Ap.TIi1 Ap.TIi2 gu, a3, a4, m1.at fun o e => hk _ o Ap.l1z Ap.l1i1 Ap.l1i2 e, m2.at fun o e => hk _ o Ap.l2z Ap.l2i1 Ap.l2i2 e,
              .inr ⟨T, true, oT, a1, hk _ _ r1 r2 r3 gT, r1, r2, r3, r4⟩⟩
            fun c o hc e => hk c o (fun y => hc (by simp [y])) (fun y => hc (by simp [y])) (fun y => hc (by simp [y])) e
      done := fun s1 Q1 E1 st hQ => by
        obtain ⟨gu, g1, g2, m1, m2, gz⟩ := st
        have hend : us[min us.size vs.size]? = none ∨ vs[min us.size vs.size]? = none := by
          rcases Nat.le_total us.size vs.size with h | h
          · exact .inl (Array.getElem?_eq_none (by rw [Nat.min_eq_left h]; exact Nat.le_refl us.size))
          · exact .inr (Array.getElem?_eq_none (by rw [Nat.min_eq_right h]; exact Nat.le_refl vs.size))
        rcases gz with ⟨gz, a, b, gt⟩ | ⟨T, f, oT, gz, gT, r1, r2, r3, r4⟩
        · exact RZ.pyNext_zipT_end hA Ap gz gu gt g1 g2 m1 m2 hend fun h' hk => hQ h' s1.toks fun c o hc e => hk c o (fun y => hc (by simp [y])) (fun y => hc (by simp [y])) (fun y => hc (by simp [y])) (fun y => hc (by simp [y])) e
        · exact ztStop hA Ap gz gT gu g1 g2 m1 m2 hend fun h' hk => hQ h' s1.toks fun c o hc e => hk c o (fun y => hc (by simp [y])) (fun y => hc (by simp [y])) (fun y => hc (by simp [y])) e }
end

section
variable {X : Cx}
theorem zipPrs (X : Cx) : ∀ {xs ys : List V} {us vs : List Value} {kvs : List (Key × V)}, Vals xs us → Vals ys vs → List.zip xs ys = kvs.map (fun kv => (kV kv.1, kv.2)) →
    ∃ prs : List (Key × Value), KV kvs prs ∧ prs.length = min us.length vs.length ∧ ∀ (i : Nat) (u v : Value), us[i]? = some u → vs[i]? = some v → ∃ k, prs[i]? = some (k, v) ∧ keyIs k u = true
  | _, _, _, _, kvs, .nil, r2, e => by
    have : kvs = [] := by simpa using e.symm
    subst this
    exact ⟨[], .nil, by simp, fun i u v h => by simp at h⟩
  | _, _, _, _, kvs, .cons h t, .nil, e => by
    have : kvs = [] := by simpa using e.symm
    subst this
    exact ⟨[], .nil, by simp, fun i u v _ h => by simp at h⟩
  | _, _, _, _, [], .cons h t, .cons h2 t2, e => by simp at e
  | _, _, _, _, kv :: kvs, .cons (b := u) h t, .cons (b := v) h2 t2, e => by
    simp only [List.zip_cons_cons, List.map_cons, List.cons.injEq, Prod.mk.injEq] at e
    obtain ⟨⟨e1, e2⟩, e3⟩ := e
    obtain ⟨prs, p1, p2, p3⟩ := zipPrs X t t2 e3
    refine ⟨(kv.1, v) :: prs, .cons ⟨rfl, e2 ▸ h2⟩ p1, by simp [p2], fun i u' v' q1 q2 => ?_⟩
    cases i with
    | zero =>
      simp at q1 q2
      subst q1 q2
      exact ⟨kv.1, rfl, kV_is (P := X.prog) (w := X.w) (e1 ▸ h)⟩
    | succ i =>
      obtain ⟨k, z1, z2⟩ := p3 i u' v' (by simpa using q1) (by simpa using q2)
      exact ⟨k, by simpa using z1, z2⟩

theorem offNew {c n : Nat} (h : c < n) (e : c = n + 4 ∨ c = n + 3 ∨ c = n ∨ c = n + 1) : False := by omega
def tDz (K : PySem.W.Frag) (ta : TA) : TE := fun σ H Q => ta σ H fun vs H1 => ∃ a b xs ys kvs, vs = [.ref a, .ref b] ∧ SqT K H1 a xs ∧ SqT K H1 b ys ∧ List.zip xs ys = kvs.map (fun kv => (kV kv.1, kv.2)) ∧
  ∀ p, H1 p = none → Q (.ref p) (upd H1 p (.dK (mergeK [] kvs)))
theorem pe_dictZip {e e2 : Expr} {ta : TA} {p p2 pos pos2 : Pos} (hc : X.calm = true) (hg : Gl X "dict") (hm : X.mg "dict" = none) (hg2 : Gl X "zip") (hm2 : X.mg "zip" = none) (ha : PA X [e, e2] ta)
    (hs : starEach [e, e2] X.env = (false, eval e X.env) :: starEach [e2] X.env) (hpl : (backTo pos2 (starEach [e2] X.env)).any (·.1) = false) :
    PE X (.Call (.Name "dict" p) [.Call (.Name "zip" p2) [e, e2] [] pos2] [] pos) (tDz X.K ta) := by
  refine ⟨fun pins s σ H Q I h => ?_⟩
  refine Call_ (ld_blt I hg hm boot_dict (PyProof.Rows.callWith_type1 (args_cons ?_ rfl) rfl))
  refine Call_ (ld_blt I hg2 hm2 PyProof.Rows.boot_zip (PyProof.Rows.callWith_type1 (thn (ha.run pos2 pins s σ H _ I h) fun us s1 ⟨vs, H1, I1, r1, q1⟩ => ?_) hs hpl))
  obtain ⟨a, b, xs, ys, kvs, rfl, hx, hy, ez, q⟩ := q1
  cases r1 with
  | cons r rr =>
    cases rr with
    | cons r' rr =>
      cases rr
      cases r
      cases r'
      obtain ⟨its, rv, d1, z1⟩ := I1.tuple hx
      obtain ⟨its2, rv2, d2, z2⟩ := I1.tuple hy
      obtain ⟨o1, ho1, _⟩ := id d1
      obtain ⟨o2, ho2, _⟩ := id d2
      obtain ⟨prs, k1, k2, k3⟩ := zipPrs X rv rv2 ez
      refine RZ.call_zipT (show s1.heap.IsTuple a its.toArray from d1) (show s1.heap.IsTuple b its2.toArray from d2) fun h' gz gu gt g1 g2 hsz hk => ?_
      refine args_nil ?_
      have I2 : Inv X pins σ H1 { s1 with heap := h' } := I1.kept (t' := s1.toks) hk
      have lenP : prs.length = min its.toArray.size its2.toArray.size := by simpa using k2
      have lz : min its.toArray.size its2.toArray.size ≤ sizeLine := by
        refine Nat.le_trans (Nat.min_le_left ..) ?_
        rw [List.size_toArray, ← rv.length]
        exact z1
      refine PySem.call_dict_pairs (knd := mixKind X.prog X.w) (kvs := prs) (ztArg (s1.heap.objs.size + 4) (s1.heap.objs.size + 2) (s1.heap.objs.size + 3) s1.heap.objs.size (s1.heap.objs.size + 1) a b (PySem.W.ktu_apart s1.heap.objs.size a b (Heap.lt_size ho1) (Heap.lt_size ho2)) its.toArray its2.toArray)
        (I2.ok.hd hc) ⟨gz, gu, ⟨_, _, gt⟩, g1, g2, (show s1.heap.IsTuple a its.toArray from d1).at fun o z => hk _ o z, (show s1.heap.IsTuple b its2.toArray from d2).at fun o z => hk _ o z⟩ ⟨lenP, fun i u v huv => k3 i u v (by simpa using huv.1) (by simpa using huv.2)⟩ lz fun h2 tk hd' hk2 => ?_
      have hbig : s1.heap.objs.size ≤ h'.objs.size := by omega
      have hm' : (h'.objs.size == sysModules) = false := beq_eq_false_iff_ne.mpr (Nat.ne_of_gt (Nat.lt_of_lt_of_le I1.big hbig))
      have hlen : (mergeK [] kvs).length ≤ sizeLine := by
        refine Nat.le_trans (length_mergeK kvs []) ?_
        rw [List.length_nil, Nat.zero_add, k1.length, lenP]
        exact lz
      have all : ∀ c o, s1.heap.get? c = some o → h2.get? c = some o := fun c o z => hk2 c o (fun hm => by
        have hc : c < s1.heap.objs.size := Heap.lt_size z
        have hm : c = s1.heap.objs.size + 4 ∨ c = s1.heap.objs.size + 3 ∨ c = s1.heap.objs.size ∨ c = s1.heap.objs.size + 1 := by simpa using hm
        exact offNew hc hm) (hk c o z)
      exact ⟨.ref h'.objs.size, upd H1 h'.objs.size (.dK (mergeK [] kvs)), I1.laid (t' := tk) all hbig (show ObjOk X.prog X.w _ _ _ (.dK (mergeK [] kvs)) from ⟨hlen, hm', merged [] prs, KV.merge k1 .nil, hd'⟩), rfl, q _ (I1.hok.fresh hbig)⟩
end
end Ev2
/-! Z2: enumerate(tuple). -/
namespace Ev2
open PySem L2 PyProof.Rows
open AutoSeq1 (wpAny_loadPart')

theorem meets_enumT (l : Addr) (items : Array Value) (n : Nat) (dct : Option Addr) (sl : Array (Option Value)) :
    Meets (Builtin.«enumerate.__new__» ⟨[.type "enumerate", .ref l], []⟩) (fun _ R s => s.heap.get? l = some { cls := .type "tuple", dict := dct, data := .seq items n, slots := sl } ∧
      R (.ok (.ret (.ref (s.heap.push { cls := .type "tuple_iterator", data := .fields #[.ref l, .int 0 0] }).objs.size)))
        { s with heap := (s.heap.push { cls := .type "tuple_iterator", data := .fields #[.ref l, .int 0 0] }).push { cls := .type "enumerate", data := .fields #[.none, .bool false, .ref s.heap.objs.size, rawInt 0, .none, .none] } }) :=
  .of_wp fun prog w A R s h => by
    obtain ⟨hp, g, d, tk, os⟩ := s; obtain ⟨hl, h⟩ := h
    have hsub := sub_enumerate
    have hL : Heap.IsTuple (Shared.heap ⟨hp, g, d, tk, os⟩) l items := ⟨_, hl, rfl, n, rfl⟩
    wp_walk using wpAny_loadPart' hl
    refine wpAny_stack_any fun st => wpAny_pure ?_
    split
    · rename_i c _ _ _ _ _
      cases (c == Value.type "enumerate")
      · wp_walk using wpAny_loadPart' hl, wpAny_pyIter_tuple hL
        exact ⟨_, rfl, h⟩
      · wp_walk using wpAny_loadPart' hl, wpAny_pyIter_tuple hL
        exact ⟨_, rfl, h⟩
    · wp_walk using wpAny_loadPart' hl, wpAny_pyIter_tuple hL
      exact ⟨_, rfl, h⟩

section
variable {prog : Program} {w : World} {A : Around} {E : Value → Shared → Prop} {s : Shared}
theorem call_enumT {l : Addr} {items : Array Value} {Q : Value → Shared → Prop} (hL : s.heap.IsTuple l items)
    (h : ∀ h', IsEnum h' (s.heap.objs.size + 1) s.heap.objs.size 0 .none → h'.IsTupleIter s.heap.objs.size l 0 → h'.objs.size = s.heap.objs.size + 2 →
      (∀ b o, s.heap.get? b = some o → h'.get? b = some o) → Q (.ref (s.heap.objs.size + 1)) { s with heap := h' }) :
    wpAny (model prog w) A (call (.type "enumerate") [.ref l]) Q E s := by
  obtain ⟨⟨c, dct, dt, sl⟩, hl, hc, n, hd⟩ := hL
  replace hc : c = .type "tuple" := hc
  replace hd : dt = .seq items n := hd
  subst hc hd
  refine callType_new F.called_enumerate (by decide) (F.typeCall_enumerate_1 _) (F.newCall_enumerate_1 _) (fun obj => F.args_object_init_2 obj _) F.entry_enumerate_new
    (meets_enumT l items n dct sl) ⟨hl, ?_⟩
  have hz : (s.heap.push { cls := .type "tuple_iterator", data := .fields #[.ref l, .int 0 0] }).objs.size = s.heap.objs.size + 1 := Heap.size_push ..
  show _ ∧ _
  rw [hz]
  have he : IsEnum ((s.heap.push { cls := .type "tuple_iterator", data := .fields #[.ref l, .int 0 0] }).push
      { cls := .type "enumerate", data := .fields #[.none, .bool false, .ref s.heap.objs.size, rawInt 0, .none, .none] }) (s.heap.objs.size + 1) s.heap.objs.size 0 .none := by
    have := Heap.get?_push_size (s.heap.push { cls := .type "tuple_iterator", data := .fields #[.ref l, .int 0 0] })
      (o := { cls := .type "enumerate", data := .fields #[.none, .bool false, .ref s.heap.objs.size, rawInt 0, .none, .none] }) rfl
    rw [hz] at this; exact this
  refine ⟨⟨_, he, rfl⟩, h _ he ⟨_, Heap.get?_push_of_some _ (Heap.get?_push_size _ rfl), rfl, rfl⟩ (by rw [Heap.size_push, hz]) fun b o x => Heap.get?_push_of_some _ (Heap.get?_push_of_some _ x)⟩
end

/-- the tuple at a as it stands at each turn, each item in a new pair -/
def IteT (K : PySem.W.Frag) (a : Addr) : L2.It :=
  ⟨fun i H => ∃ (xs : List V) (x : V), SqT K H a xs ∧ xs[i]? = some x, fun i H v H' => ∃ T x, v = .ref T ∧ H T = none ∧ H' = upd H T (.tup [.int (i : Nat), x]) ∧ ∀ xs, SqT K H a xs → xs[i]? = some x, fun i H => ∃ xs : List V, SqT K H a xs ∧ xs.length ≤ i⟩
theorem turn_enumT {P : Program} {w : World} {K : PySem.W.Frag} {elts : List Expr} {kk : Nat} {tpos : Pos} (a e it : Addr) (hai : a ≠ it) (hea : e ≠ a) :
    Turn P w K (.Tuple elts kk tpos) (IteT K a) [e, it] e (fun i h => (∃ old, IsEnum h e it ((i : Nat) : Int) old) ∧ h.IsTupleIter it a i ∧ e ≠ it) where
  mem := by simp
  obj := fun i h st b hb => by
    obtain ⟨⟨old, he⟩, ⟨o, ho, hc, hd⟩, _⟩ := st
    have e' : b = e ∨ b = it := by simpa using hb
    rcases e' with z | z
    · rw [z]; exact ⟨_, he, fun v q => nomatch q⟩
    · rw [z]; exact ⟨o, ho, fun v q => by rw [hd] at q; cases q⟩
  keep := fun i h h' st k => let ⟨⟨old, he⟩, hi, hne⟩ := st; ⟨⟨old, k e (by simp) _ he⟩, hi.at fun o q => k it (by simp) o q, hne⟩
  item := by
    intro X hP hw hK hc i pins s σ H E I hf st hg
    subst hP hw hK
    obtain ⟨⟨old, he⟩, hit, hne⟩ := st
    obtain ⟨xs, x, hq, hx⟩ := hg
    obtain ⟨its, rv, p, hz⟩ := I.tuple hq
    obtain ⟨u, hu, ru⟩ := rv.get hx
    have hel : e < s.heap.objs.size := Heap.lt_size he
    have hil : it < s.heap.objs.size := by obtain ⟨_, q, _⟩ := hit; exact Heap.lt_size q
    have hlt : i < its.toArray.size := by
      have := (List.getElem?_eq_some_iff.mp hu).1
      simpa using this
    have Dr := Draws.tuple (prog := X.prog) (w := X.w) (A := X.A.in1) (I.ok.hd hc) it a hai its.toArray
    refine wpAny_pyNext_enum_itemD Dr he ⟨hit, (show s.heap.IsTuple a its.toArray from p)⟩ hlt hne (by simp; exact ⟨hne, hea⟩) fun x' h' tk hP' ho hit' hT hsz hk => ?_
    have hxu : x' = u := by
      have h1 : its.toArray[i]? = some x' := hP'
      have h2 : its.toArray[i]? = some u := by simpa using hu
      rw [h1] at h2
      exact Option.some.inj h2
    subst hxu
    refine ⟨_, rfl, wpAny_letOwnedTupleGo_enum (s := { s with heap := h', toks := tk + 1 }) ho fun h'' he' sb => ?_⟩
    have hT2 : h''.get? s.heap.objs.size = some { cls := .type "tuple", data := .seq #[.int i tk, x'] } := (sb.2 _ (Nat.ne_of_gt hel)).trans hT
    have new : ObjOk X.prog X.w (upd H s.heap.objs.size (.tup [.int (i : Nat), x])) h'' s.heap.objs.size (.tup [.int (i : Nat), x]) :=
      ⟨by show 2 ≤ sizeLine; decide, [.int i tk, x'], .cons ⟨_, rfl⟩ (.cons ru .nil), ⟨_, hT2, rfl, _, rfl⟩⟩
    have I1 : L2.Inv X pins σ (upd H s.heap.objs.size (.tup [.int (i : Nat), x])) { s with heap := h'', toks := tk + 1 } :=
      I.turnedNew (ch := [e, it]) (fun b ob hb q => (sb.2 b (fun z => hb (by simp [z]))).trans (hk b ob (fun z => hb (by simp [z])) (fun z => hb (by simp [z])) q)) hf (Nat.le_refl _) new
    refine ⟨.ref s.heap.objs.size, _, I1, rfl, ⟨_, x, rfl, I.hok.fresh (Nat.le_refl _), rfl, fun ys hy => by rw [I.tuple_inj hy hq]; exact hx⟩, ⟨⟨x', ?_⟩, hit'.1.at fun o q => (sb.2 it (Ne.symm hne)).trans q, hne⟩, fun b hb => ?_⟩
    · have e1 : ((i + 1 : Nat) : Int) = (i : Int) + 1 := by omega
      rw [e1]; exact he'
    · have hb' : b < s.heap.objs.size := by
        have e' : b = e ∨ b = it := by simpa using hb
        rcases e' with z | z
        · rw [z]; exact hel
        · rw [z]; exact hil
      rw [upd_ne (Nat.ne_of_lt hb')]
      exact (hf b hb).1
  done := by
    intro X hP hw hK hc i pins s σ H E I hf st hg
    subst hP hw hK
    obtain ⟨⟨old, he⟩, hit, hne⟩ := st
    obtain ⟨xs, hq, hx⟩ := hg
    obtain ⟨its, rv, p, hz⟩ := I.tuple hq
    obtain ⟨f0, f1, f2, f3, f4, f5⟩ := hf it (by simp)
    have hl := rv.length
    have hT : s.TypeIs (.ref e) "enumerate" := ⟨_, he, rfl⟩
    unfold pyNext
    refine wpAny_bind (wpAny_attempt (wpAny_callSpecial?_slot (name := Str.ofString "__next__") hT F.slot_enumerate_next
      (wpAny_call_entry F.slot_enumerate_next hT F.entry_enumerate_next ?_ (F.args_enumerate_next_1 _))))
    show wpAny _ _ (field (.ref e) 2 >>= _) _ _ _
    refine wpAny_bind (wpAny_field he rfl (x := .ref it) rfl ?_)
    refine wpAny_bind (wpAny_nextOf_tuple_end (I.ok.hd hc) hit (show s.heap.IsTuple a its.toArray from p) (by simp; omega) fun h' x he' hx' => ?_)
    obtain ⟨o, ho, hcc⟩ := hx'
    refine wpAny_bind (wpAny_isInstance (T := "StopIteration") (b := true) ⟨o, ho, hcc⟩ isSubtype_stop ?_)
    exact wpAny_pure ⟨rfl, I.turned (t' := s.toks) (fun b o hb q => he' b o hb q) f0 f1 f3 f4 f5⟩
  self := fun A i s Q E st h => let ⟨⟨_, he⟩, _⟩ := st; wpAny_pyIter_enum he h
def iEnumT (K : PySem.W.Frag) (ta : TA) : TI := fun σ H R => ta σ H fun vs H1 => ∃ a xs, vs = [.ref a] ∧ SqT K H1 a xs ∧ R (IteT K a) H1
theorem pi_enumT {X : Cx} {e : Expr} {ta : TA} {p pos tpos : Pos} {elts : List Expr} {kk : Nat} (hg : Gl X "enumerate") (hm : X.mg "enumerate" = none) (ha : PA X [e] ta) (hs : starEach [e] X.env = [(false, eval e X.env)]) :
    PI X (.Tuple elts kk tpos) (.Call (.Name "enumerate" p) [e] [] pos) (iEnumT X.K ta) := by
  refine ⟨fun pins s σ H R I h => ?_⟩
  refine Call_ (ld_blt I hg hm boot_enumerate (PyProof.Rows.callWith_type1 (thn (ha.run pos pins s σ H _ I h) fun us s1 ⟨vs, H1, I1, r1, q1⟩ => ?_) hs rfl))
  obtain ⟨a, xs, ex, hq, q⟩ := q1
  subst ex
  cases r1 with
  | cons r rr =>
    cases rr
    cases r
    obtain ⟨its, rv, p', hz⟩ := I1.tuple hq
    have hT : s1.heap.IsTuple a its.toArray := p'
    have hal : a < s1.heap.objs.size := by obtain ⟨o, ho, _⟩ := hT; exact Heap.lt_size ho
    refine call_enumT hT fun h' he hit hsz hk => wpAny_pyIter_enum he ?_
    have I2 : L2.Inv X pins σ H1 { s1 with heap := h' } := I1.kept (t' := s1.toks) hk
    refine ⟨s1.heap.objs.size + 1, [s1.heap.objs.size + 1, s1.heap.objs.size], _, _, H1, rfl, I2, turn_enumT a (s1.heap.objs.size + 1) s1.heap.objs.size (Nat.ne_of_lt hal) (Nat.ne_of_gt (Nat.lt_succ_of_lt hal)), ⟨⟨.none, he⟩, hit, Nat.succ_ne_self _⟩, fun b hb => ?_, q⟩
    have e' : b = s1.heap.objs.size + 1 ∨ b = s1.heap.objs.size := by simpa using hb
    have hle : s1.heap.objs.size ≤ b := by
      rcases e' with z | z
      · rw [z]; exact Nat.le_add_right _ _
      · rw [z]; exact Nat.le_refl _
    exact I1.fpOk hle (I1.hok.fresh hle)
end Ev2
/-! Z3: t[::-1] of a tuple. -/
namespace Ev2
open PySem L2 PyProof.Rows
section
variable {prog : Program} {w : World} {A : Around} {E : Value → Shared → Prop} {s : Shared}
theorem rev_adjust (n : Nat) : Builtin.Slice.sliceAdjust none none (-1) (n : Int) = ((n : Int) - 1, -1) := by
  unfold Builtin.Slice.sliceAdjust
  simp
theorem rev_places (n : Nat) : Builtin.Slice.slicePlaces ((n : Int) - 1) (-1) (-1) = n := by
  unfold Builtin.Slice.slicePlaces
  simp
  omega
theorem sliceApplied_rev {sl : Addr} {vs : Value} {n : Nat} {Q : Int × Int × Nat → Shared → Prop} (hs : s.heap.IsSliceOf sl .none .none vs) (ps : IsPart vs (some (-1)))
    (h : Q ((n : Int) - 1, -1, n) s) : wpAny (model prog w) A (Builtin.Slice.sliceApplied (.ref sl) (pure (n : Int))) Q E s := by
  obtain ⟨os, hos, hcs, hds⟩ := id hs
  unfold Builtin.Slice.sliceApplied Builtin.Slice.sliceFields
  refine wpAny_bind (wpAny_bind (wpAny_field hos hds (x := .none) rfl (wpAny_bind (wpAny_field hos hds (x := .none) rfl (wpAny_bind (wpAny_field hos hds (x := vs) rfl (wpAny_pure ?_)))))))
  refine wpAny_bind (HT.slicePart_ ps ?_)
  show wpAny _ _ (if ((-1 : Int) == 0) = true then _ else _) _ _ s
  rw [if_neg (by decide)]
  refine wpAny_bind (HT.slicePart_ .none (wpAny_bind (HT.slicePart_ .none (wpAny_bind (wpAny_pure ?_)))))
  show wpAny _ _ (match Builtin.Slice.sliceAdjust none none (-1) (n : Int) with | (lo, hi) => pure (lo, (-1 : Int), Builtin.Slice.slicePlaces lo hi (-1))) _ _ s
  rw [rev_adjust]
  show wpAny _ _ (pure ((n : Int) - 1, (-1 : Int), Builtin.Slice.slicePlaces ((n : Int) - 1) (-1) (-1))) _ _ s
  rw [rev_places]
  exact wpAny_pure h
theorem rev_pick (xs : Array Value) : ((List.range xs.size).filterMap fun (m : Nat) => xs[(((xs.size : Int) - 1) + (m : Int) * (-1)).toNat]?).toArray = xs.toList.reverse.toArray := by
  have cg : ∀ (l : List Nat) (f g : Nat → Option Value), (∀ m ∈ l, f m = g m) → l.filterMap f = l.filterMap g := by
    intro l f g h
    induction l with
    | nil => rfl
    | cons a l ih =>
      rw [List.filterMap_cons, List.filterMap_cons, h a List.mem_cons_self, ih fun m hm => h m (List.mem_cons_of_mem _ hm)]
  have e : (List.range xs.size).filterMap (fun (m : Nat) => xs[(((xs.size : Int) - 1) + (m : Int) * (-1)).toNat]?) = ((List.range xs.size).map fun k => xs.size - 1 - k).filterMap fun i => xs[i]? := by
    rw [List.filterMap_map]
    refine cg _ _ _ fun m hm => ?_
    have := List.mem_range.mp hm
    show xs[(((xs.size : Int) - 1) + (m : Int) * (-1)).toNat]? = xs[xs.size - 1 - m]?
    have h2 : (((xs.size : Int) - 1) + (m : Int) * (-1)).toNat = xs.size - 1 - m := by omega
    rw [h2]
  rw [e, PySem.W.krv_range, List.filterMap_reverse, PySem.W.krv_all]
theorem getItem_tuple_rev {t sl : Addr} {items : Array Value} {vs : Value} {Q : Value → Shared → Prop} (ht : IsTup s.heap t items) (hs : s.heap.IsSliceOf sl .none .none vs) (ps : IsPart vs (some (-1)))
    (h : Q (.ref s.heap.objs.size) { s with heap := s.heap.push { cls := .type "tuple", data := .seq items.toList.reverse.toArray } })
    (hsz : items.size ≤ sizeLine) : wpAny (model prog w) A (getItem (.ref t) (.ref sl)) Q E s := by
  have htake : sizeOk (.seq items.toList.reverse.toArray) := by
    show items.toList.reverse.toArray.size ≤ sizeLine
    simpa using hsz
  obtain ⟨os, hos, hcs, hds⟩ := id hs
  have hTs : s.TypeIs (.ref sl) "slice" := ⟨os, hos, hcs⟩
  unfold getItem
  try with_reducible refine wpAny_holding ?_
  first | refine wpAny_bind (wpAny_pure ?_) | skip
  refine wpAny_bind (wpAny_sequenceKey ht.typeIs (by decide) ?_)
  refine wpAny_bind (wpAny_callSpecial?_slot (name := Str.ofString "__getitem__") ht.typeIs PyProof.Rows.slot_tuple_getitem
    (wpAny_call_entry PyProof.Rows.slot_tuple_getitem ht.typeIs entry_tuple_getitem ?_ (args_tuple_getitem _ _)))
  show wpAny _ _ (Builtin.Tuple.tupleItemsOf (.ref t) >>= _) _ _ s
  refine wpAny_bind (tupleItemsOf_ ht ?_)
  refine wpAny_bind (wpAny_typeOf hTs ?_)
  rw [if_pos (by decide)]
  refine wpAny_bind (sliceApplied_rev hs ps ?_)
  have hno : ¬ ((((items.size : Int) - 1 == 0) && (-1 : Int) == 1 && items.size == items.size) = true) := by simp
  show wpAny _ _ (if (((items.size : Int) - 1 == 0) && (-1 : Int) == 1 && items.size == items.size) = true then _ else _) _ _ s
  rw [if_neg hno, rev_pick]
  exact wpAny_bind (m := Builtin.Tuple.tupleExact _) (wpAny_newObj_type (wpAny_pure ⟨_, rfl, wpAny_pure h⟩) htake)
end
section
variable {X : Cx}
def tRevT (K : PySem.W.Frag) (te : TE) : TE := fun σ H Q => te σ H fun x H1 => ∃ a xs, x = .ref a ∧ SqT K H1 a xs ∧ ∀ p, H1 p = none → Q (.ref p) (upd H1 p (.tup xs.reverse))
theorem pe_revT {e : Expr} {te : TE} {k : Nat} {p1 p2 p3 pos : Pos} (he : PE X e te) : PE X (.Subscript e (.Slice none none (some (.UnaryOp .USub (.Constant (.int 1) k p1) p2)) p3) pos) (tRevT X.K te) := by
  refine ⟨fun pins s σ H Q I h => ?_⟩
  refine Subscript_ (thn (he.run pins s σ H _ I h) fun v s1 ⟨x, H1, I1, r1, q1⟩ => ?_)
  obtain ⟨a, xs, ex, hx, q⟩ := q1
  subst ex
  cases r1
  have hst : PO X (some (.UnaryOp .USub (.Constant (.int 1) k p1) p2)) (tPart (tUn (rU fun i => .int (-i)) (tC (.int 1)))) := po_some (pe_un un_neg pe_int)
  refine wpAny_Slice (thn (po_none.run pins s1 σ H1 (fun o H2 => o = none ∧ H2 = H1) I1 ⟨rfl, rfl⟩) fun vl s2 ⟨l, H2, I2, pl, el, e2⟩ => ?_)
  subst el e2
  refine thn (po_none.run pins s2 σ H2 (fun o H3 => o = none ∧ H3 = H2) I2 ⟨rfl, rfl⟩) fun vu s3 ⟨u, H3, I3, pu, eu, e3⟩ => ?_
  subst eu e3
  refine thn (hst.run pins s3 σ H3 (fun o H4 => o = some (-1) ∧ H4 = H3) I3 ⟨1, rfl, -1, rfl, rfl, rfl⟩) fun vs s4 ⟨o, H4, I4, ps, eo, e4⟩ => ?_
  subst eo e4
  have evl : vl = .none := by cases pl; rfl
  have evu : vu = .none := by cases pu; rfl
  subst evl evu
  have I5 : L2.Inv X pins σ H4 { s4 with heap := s4.heap.push { cls := .type "slice", data := .fields #[.none, .none, vs] } } := I4.kept (t' := s4.toks) fun b ob q => Heap.get?_push_of_some _ q
  obtain ⟨its, r, ht, hz⟩ := I5.tuple hx
  have hlen := r.length
  show wpAny (model X.prog X.w) X.A (subscriptTail e (.Slice none none (some (.UnaryOp .USub (.Constant (.int 1) k p1) p2)) p3) (.ref a) (.ref s4.heap.objs.size)) (EP X pins σ Q) X.xe { s4 with heap := s4.heap.push { cls := .type "slice", data := .fields #[.none, .none, vs] } }
  refine tail_any (ops := [.ref a, .ref s4.heap.objs.size]) ht.typeIs (PyProof.Rows.slot_tuple_getitem.lookup) ?_ (by with_unfolding_all rfl)
  refine getItem_tuple_rev ht (Heap.IsSliceOf.new _ .none .none vs) ps ?_ (by rw [List.size_toArray]; omega)
  refine ⟨.ref _, _, I5.laid (t' := s4.toks) (o := .tup xs.reverse) (fun b ob q => Heap.get?_push_of_some _ q) (Nat.le_refl _) ?_, rfl, q _ (I5.hok.fresh (Nat.le_refl _))⟩
  exact ⟨by rw [List.length_reverse]; exact hz, _, by simpa using r.reverse, IsTup.new _ _⟩
end
end Ev2
/-! Z4: set(xs) of a list of distinct texts. -/
namespace PyProof.Rows
open PySem PySem.Spec
section
variable {prog : Program} {w : World} {A : Around} {R : Result → Shared → Prop} {I : Addr} {fp wr : List Addr} {G : Array GenState → Array GenState → Prop} {n : Nat} {P : Nat → Value → Prop} {St : Nat → Shared → Prop}

theorem txt_update_loop (W : WalksS prog w A.in1 I fp wr G n P St) (S : Addr) (hSf : S ∉ fp)
    (val : Nat → Str) (hval : ∀ i v, P i v → ∃ t, v = .str (val i) t) (hnd : ∀ i j, i < j → j < n → val i ≠ val j) (hb : n + 1 < scanBound) :
    ∀ (k i : Nat) (s : Shared), n - i = k → i ≤ n → St i s →
      s.heap.SetOf (PySem.strKind prog w) S (fun k' => ((List.range i).map val).any (· == k')) i →
      (∀ s', Moved (S :: wr) G s s' → s'.heap.SetOf (PySem.strKind prog w) S (fun k' => ((List.range n).map val).any (· == k')) n → R (.ok (.ret .none)) s') →
      codeAny (model prog w) A (.builtin "set.update.loop" ⟨[.ref S, .ref I], []⟩) R s := by
  have hSw : S ∉ wr := fun h => hSf (W.sub _ h)
  have hsub : ∀ b ∈ wr, b ∈ S :: wr := fun b hb => List.mem_cons_of_mem _ hb
  intro k
  induction k with
  | zero =>
    intro i s hk hi hst hS hR
    have hin : i = n := by omega
    subst hin
    refine codeAny_builtin F.entry_set_update_loop ?_
    rw [Around.under_plainId F.plain_set_update_loop _]
    show wpAny _ A.in1 (pyNext (.ref I) >>= _) _ _ s
    refine wpAny_bind (W.done s _ _ hst fun s' hm => ?_)
    show wpAny _ A.in1 (ret Value.none) _ _ s'
    exact wpAny_pure (hR s' (hm.mono hsub) (by
      obtain ⟨o, es, ep, t, ho, rest⟩ := hS
      exact ⟨o, es, ep, t, hm.heap S _ hSw ho, rest⟩))
  | succ k ih =>
    intro i s hk hi hst hS hR
    have hlt : i < n := by omega
    refine codeAny_builtin F.entry_set_update_loop ?_
    rw [Around.under_plainId F.plain_set_update_loop _]
    show wpAny _ A.in1 (pyNext (.ref I) >>= _) _ _ s
    refine wpAny_bind (W.item i s _ _ hlt hst fun v s' hP hst' hm => ?_)
    obtain ⟨t, rfl⟩ := hval i v hP
    have hS' : s'.heap.SetOf (PySem.strKind prog w) S (fun k' => ((List.range i).map val).any (· == k')) i := by
      obtain ⟨o, es, ep, tb, ho, rest⟩ := hS
      exact ⟨o, es, ep, tb, hm.heap S _ hSw ho, rest⟩
    show wpAny _ A.in1 (holding [Value.str (val i) t] (setAdd S (.str (val i) t)) >>= _) _ _ s'
    refine wpAny_bind (wpAny_holding ?_)
    unfold setAdd
    refine wpAny_holding ?_
    refine wpAny_bind ((PySem.strKind prog w).pyHash (k := val i) (PySem.strKind_is _ _ _ _) ?_)
    have hroom : i + 1 < scanBound := by omega
    have hno : ((List.range i).map val).any (· == val i) = false := by
      rw [List.any_eq_false]
      intro z hz
      obtain ⟨j, hj, rfl⟩ := List.mem_map.mp hz
      have := hnd j i (List.mem_range.mp hj) hlt
      simpa using this
    refine wpAny_setAddHashed_of (knd := PySem.strKind prog w) (s := { s' with toks := s'.toks + 1 }) (PySem.strKind_is _ _ _ _) rfl hS' hroom fun h' hsb hS2 => ?_

    have hSi : h'.SetOf (PySem.strKind prog w) S (fun k' => ((List.range (i + 1)).map val).any (· == k')) (i + 1) :=
      SetOf_congr hS2 (fun k' => by rw [List.range_succ, List.map_append, List.any_append]; congr 1; simp only [List.map_cons, List.map_nil, List.any_cons, List.any_nil, Bool.or_false]; by_cases q : k' = val i
                                    · rw [q]; simp
                                    · rw [decide_eq_false q]; exact (beq_eq_false_iff_ne.mpr (Ne.symm q)).symm) (by rw [hno]; rfl)
    refine wpAny_pure ⟨plainId_quiet F.plain_set_update_loop _, ih (i + 1) _ (by omega) hlt (W.frame _ s' _ _ hst' (Nat.le_succ _) fun b hb o e => ?_) hSi fun s'' hm'' hS'' => ?_⟩
    · rw [hsb.2 b (fun h : b = S => hSf (by rw [← h]; exact hb))]; exact e
    · refine hR s'' (Moved.trans W.gtrans ((hm.mono hsub).then_heap (Nat.le_succ _) fun b o hb e => ?_) hm'') hS''
      rw [hsb.2 b (fun h : b = S => hb (by rw [h]; exact List.mem_cons_self))]; exact e
end

end PyProof.Rows
namespace PySem
theorem strs_at : ∀ {vs : List Value} {xs : List Str}, PyProof.Rows.StrsAre vs xs → ∀ (i : Nat) (v : Value), vs[i]? = some v → ∃ t, v = .str (xs.getD i Str.empty) t
  | _, _, .nil, i, v, h => by simp at h
  | _, _, .cons y t hr, 0, v, h => by simp at h; exact ⟨t, by rw [← h]; rfl⟩
  | _, _, .cons y t hr, i + 1, v, h => by
    simp only [List.getElem?_cons_succ] at h
    obtain ⟨t', e⟩ := strs_at hr i v h
    exact ⟨t', by rw [e]; rfl⟩
theorem strs_len : ∀ {vs : List Value} {xs : List Str}, PyProof.Rows.StrsAre vs xs → vs.length = xs.length
  | _, _, .nil => rfl
  | _, _, .cons y t hr => by simp [strs_len hr]
theorem nodup_at {items : Array Value} {xs : List Str} (hi : PyProof.Rows.StrsAre items.toList xs) (hnd : xs.Nodup) : ∀ i j, i < j → j < items.size → (fun i => xs.getD i Str.empty) i ≠ (fun i => xs.getD i Str.empty) j := by
  intro i j hij hj e
  have hl : items.size = xs.length := by rw [← Array.length_toList]; exact strs_len hi
  rw [hl] at hj
  have h1 : xs.getD i Str.empty = xs[i]'(by omega) := by simp [List.getD_eq_getElem?_getD, List.getElem?_eq_getElem (show i < xs.length by omega)]
  have h2 : xs.getD j Str.empty = xs[j]'hj := by simp [List.getD_eq_getElem?_getD, List.getElem?_eq_getElem hj]
  have e : xs.getD i Str.empty = xs.getD j Str.empty := e
  rw [h1, h2] at e
  exact absurd ((List.getElem_inj hnd).mp e) (by omega)
section
variable {prog : Program} {w : World} {A : Around} {E : Value → Shared → Prop} {s : Shared}
theorem call_set_txts {l : Addr} {items : Array Value} {xs : List Str} {Q : Value → Shared → Prop}
    (hh : A.handled = none) (hl : s.heap.IsList l items) (hi : PyProof.Rows.StrsAre items.toList xs) (hnd : xs.Nodup) (hb : items.size + 1 < scanBound)
    (h : ∀ (h' : Heap) (tk : Nat), h'.SetOf (strKind prog w) s.heap.objs.size (fun k' => ((List.range items.size).map fun i => xs.getD i Str.empty).any (· == k')) items.size →
      (∀ b o, b < s.heap.objs.size → s.heap.get? b = some o → h'.get? b = some o) → Q (.ref s.heap.objs.size) { s with heap := h', toks := tk }) :
    wpAny (model prog w) A (call (.type "set") [.ref l]) Q E s := by
  obtain ⟨c, tl, hmro⟩ := F.called_set.mro
  have hmade := F.called_set.made
  have hsub := F.called_set.sub
  refine wpAny_call (codeAny_of_tree ?_)
  show wpAny _ _ (callAny (.type "set") _) _ _ _
  refine wpAny_pure ⟨Code.quiet_builtin _ (by decide +kernel), codeAny_builtin F.entry_type_call ?_⟩
  rw [Around.under_plain (weight_type_call_type "set" [.ref l] []) rfl]
  have h1 := F.called_set.notType
  have h2 := F.called_set.canCreate
  have hct := F.typeCall_set_1 (.ref l)
  repeat (any_goals (first | assumption | wp_step))

  refine codeAny_mono (code_set_new_1 (.ref l) (E := E) (Q₁ := fun obj s₁ => ∃ led : Bool, obj = .ref s.heap.objs.size ∧ s₁ = { s with heap := s.heap.push { cls := .type "set", dict := none, data := .set #[] 0 (.fresh 0 0 led) } }) fun led => ⟨led, rfl, rfl⟩) fun r s₁ hr => ?_
  cases r with
  | error e => exact hr
  | ok fl =>
    cases fl with
    | ret obj =>
      obtain ⟨led, rfl, rfl⟩ := hr
      have hS : (s.heap.push { cls := .type "set", dict := none, data := .set #[] 0 (.fresh 0 0 led) }).get? s.heap.objs.size = some { cls := .type "set", dict := none, data := .set #[] 0 (.fresh 0 0 led) } := Heap.get?_push_size _ rfl
      have hT : Shared.TypeIs { s with heap := s.heap.push { cls := .type "set", dict := none, data := .set #[] 0 (.fresh 0 0 led) } } (.ref s.heap.objs.size) "set" := ⟨_, hS, rfl⟩
      have hli := F.called_set.init.lookup
      have hbi := F.called_set.init.bind (.ref s.heap.objs.size)
      repeat (any_goals (first | assumption | wp_step))

      refine codeAny_mono (codeAny_call_builtin (R := wants (fun r s₂ => r = .none ∧ ∃ h' tk, s₂ = { s with heap := h', toks := tk } ∧
          h'.SetOf (strKind prog w) s.heap.objs.size (fun k' => ((List.range items.size).map fun i => xs.getD i Str.empty).any (· == k')) items.size ∧
          (∀ b o, b < s.heap.objs.size → s.heap.get? b = some o → h'.get? b = some o)) E) F.called_set.init.plain F.entry_set_init (check_set_init_1 hT ?_)) fun r₂ s₂ hr₂ => ?_
      · obtain ⟨ol, hol, hcl, nl, hdl⟩ := hl
        obtain ⟨ocls, odict, odata, oslots⟩ := ol
        simp only at hcl hdl
        subst hcl; subst hdl
        have hol' : (s.heap.push { cls := .type "set", dict := none, data := .set #[] 0 (.fresh 0 0 led) }).get? l = some { cls := .type "list", dict := odict, data := .seq items nl, slots := oslots } := Heap.get?_push_of_some _ hol
        have hsls := F.sub_list_set
        have hslf := F.sub_list_frozenset
        have hne : (Value.type "list" == Value.type "dict") = false := by decide
        have hl1 : (s.heap.push { cls := .type "set", dict := none, data := .set #[] 0 (.fresh 0 0 led) }).IsList l items := ⟨_, hol', rfl, nl, rfl⟩
        unfold Builtin.«set.__init__» noKeywords Builtin.Frozenset.updateFrom
        generalize hPI : pyIter = PI
        wp_walk
        subst hPI

        refine wpAny_pyIter_list hl1 ?_
        refine wpAny_bind (wpAny_runValue ?_)
        have hlS : l < s.heap.objs.size := Heap.lt_size hol
        have hh3 : A.in1.in1.in1.handled = none := by simp [hh]
        have hneI : l ≠ (s.heap.push { cls := .type "set", dict := none, data := .set #[] 0 (.fresh 0 0 led) }).objs.size := by
          rw [Heap.size_push]; exact Nat.ne_of_lt (Nat.lt_succ_of_lt hlS)
        have hSf : s.heap.objs.size ∉ [(s.heap.push { cls := .type "set", dict := none, data := .set #[] 0 (.fresh 0 0 led) }).objs.size, l] := by
          rw [Heap.size_push]; simp only [List.mem_cons, List.mem_singleton, List.not_mem_nil, or_false, not_or]
          exact ⟨Nat.ne_of_lt (Nat.lt_succ_self _), Nat.ne_of_gt hlS⟩
        have hval : ∀ (i : Nat) (v : Value), items[i]? = some v → ∃ t, v = .str ((fun i => xs.getD i Str.empty) i) t := fun i v hv =>
          strs_at hi i v (by rw [Array.getElem?_toList]; exact hv)
        refine PyProof.Rows.txt_update_loop ((Walks.list hh3 _ l hneI items).toS) s.heap.objs.size
          hSf (fun i => xs.getD i Str.empty) hval (nodup_at hi hnd) hb (items.size - 0) 0 _ (by omega) (Nat.zero_le _)
          ⟨⟨_, Heap.get?_push_size _ rfl, rfl, rfl⟩, (hl1.push _)⟩ ?hS0 ?hR
        case hS0 =>
          have hget : ((s.heap.push { cls := .type "set", dict := none, data := .set #[] 0 (.fresh 0 0 led) }).push { cls := .type "list_iterator", data := .fields #[.ref l, .int 0 0] }).get? s.heap.objs.size
              = some { cls := .type "set", dict := none, data := .set #[] 0 (.fresh 0 0 led) } := Heap.get?_push_of_some _ hS
          exact PyProof.Rows.SetOf_congr ((PyProof.Rows.setObjOf_fresh (knd := strKind prog w) led).setOf hget (by unfold scanBound; omega)) (fun _ => rfl) rfl
        case hR =>
          intro s' hm hS'
          obtain ⟨h', g', d', tk', os'⟩ := s'
          have eg : g' = s.gens := hm.gens
          have ed : d' = s.drawn := hm.drawn
          have eo : os' = s.os := hm.os
          subst eg; subst ed; subst eo
          show wpAny _ _ _ _ _ _
          refine wpAny_pure ?_
          show wpAny _ _ (ret Value.none) _ _ _
          refine wpAny_pure ⟨rfl, h', tk', rfl, hS', fun b o hb e => ?_⟩
          have hb1 : b ≠ s.heap.objs.size := Nat.ne_of_lt hb
          have hb2 : b ≠ (s.heap.push { cls := .type "set", dict := none, data := .set #[] 0 (.fresh 0 0 led) }).objs.size := by
            rw [Heap.size_push]; exact Nat.ne_of_lt (Nat.lt_succ_of_lt hb)
          exact hm.heap b o (by simp only [List.mem_cons, List.mem_singleton, List.not_mem_nil, or_false, not_or]; exact ⟨hb1, hb2⟩) (Heap.get?_push_of_some _ (Heap.get?_push_of_some _ e))

      · cases r₂ with
        | error e => exact hr₂
        | ok fl₂ =>
          cases fl₂ with
          | ret r =>
            obtain ⟨rfl, h', tk, rfl, hS', hk'⟩ := hr₂
            repeat (any_goals (first | assumption | wp_step))
            exact h _ _ hS' hk'
          | _ => exact hr₂.elim
    | _ => exact hr.elim
end
end PySem
/-! Z5: zip of a list and a tuple. -/
namespace ZM
open PySem
open PySem.Sem (wp)
section
variable {prog : Program} {w : World} {A : Around} {E : Value → Shared → Prop} {s : Shared}
theorem zipM_next_item {z TI TO i1 i2 l1 l2 : Addr} {k1 k2 : Nat} {xs ys : Array Value} {x y a b : Value} {Q : Value → Shared → Prop} (D : ZipApart z TI TO i1 i2 l1 l2)
    (hz : IsZip s.heap z TI TO .none) (hTI : IsPair s.heap TI (.ref i1) (.ref i2)) (hTO : IsPair s.heap TO a b)
    (h1 : s.heap.IsListIter i1 l1 k1) (h2 : s.heap.IsTupleIter i2 l2 k2) (hl1 : s.heap.IsList l1 xs) (hl2 : s.heap.IsTuple l2 ys) (hx : xs[k1]? = some x) (hy : ys[k2]? = some y)
    (hQ : ∀ h', IsZip h' z TI TO (rawInt s.heap.objs.size) → IsPair h' TO x y → h'.IsListIter i1 l1 (k1 + 1) → h'.IsTupleIter i2 l2 (k2 + 1) → IsPair h' s.heap.objs.size x y → h'.objs.size = s.heap.objs.size + 1 →
      (∀ c o, c ≠ z → c ≠ TO → c ≠ i1 → c ≠ i2 → s.heap.get? c = some o → h'.get? c = some o) → Q (.ref s.heap.objs.size) { s with heap := h' }) :
    wpAny (model prog w) A (Builtin.«zip.__next__» ⟨[.ref z], []⟩) (fun fin s' => ∃ v, fin = .done (.ret v) ∧ Q v s') E s := by
  show wpAny _ _ (field (.ref z) 2 >>= _) _ _ _
  refine wpAny_bind (wpAny_field hz rfl (x := .bool false) rfl ?_)
  show wpAny _ _ (field (.ref z) 3 >>= _) _ _ _
  refine wpAny_bind (wpAny_field hz rfl (x := .ref TI) rfl ?_)
  refine wpAny_bind (wpAny_seqItems hTI rfl ?_)
  show wpAny _ _ (Builtin.SmallTypes.ownedTupleIsFree (.ref z) >>= _) _ _ _
  refine wpAny_bind ?_
  unfold Builtin.SmallTypes.ownedTupleIsFree
  refine wpAny_bind (wpAny_field hz rfl (x := .none) rfl (wpAny_pure ?_))
  simp only [if_true]
  refine wpAny_bind (wpAny_rule ?_)
  refine wpAny_bind (wpAny_field hz rfl (x := .ref TO) rfl ?_)
  refine wpAny_bind (wpAny_setField_rec hz (by simp) fun h₁ hz₁ hs₁ => ?_)
  replace hz₁ : IsZip h₁ z TI TO .ellipsis := hz₁
  refine wpAny_bind ?_
  simp only [List.zipIdx_cons, List.zipIdx_nil, List.forIn_cons, List.forIn_nil]

  refine wpAny_bind (wpAny_bind (wpAny_onRaise ?_))
  show wpAny _ _ (Builtin.SmallTypes.nextOf (.ref i1) >>= _) _ _ _
  refine wpAny_bind (wpAny_nextOf_list_item (h1.extBut hs₁.extBut D.i1z) (hl1.extBut hs₁.extBut D.l1z) hx fun h₂ h1₂ hs₂ => wpAny_pure ?_)
  have hTO₂ : IsPair h₂ TO a b := hs₂.extBut _ _ D.TOi1 (hs₁.extBut _ _ D.TOz hTO)
  refine wpAny_bind (wpAny_seqItems hTO₂ rfl ?_)
  refine wpAny_bind (wpAny_updateSeq_pair hTO₂ fun h₃ hTO₃ hs₃ => ?_)
  replace hTO₃ : IsPair h₃ TO x b := hTO₃
  refine wpAny_bind (wpAny_letGo (wpAny_pure ?_))

  refine wpAny_bind (wpAny_bind (wpAny_onRaise ?_))
  show wpAny _ _ (Builtin.SmallTypes.nextOf (.ref i2) >>= _) _ _ _
  refine wpAny_bind (RZ.nextOf_tuple_item (((h2.extBut hs₁.extBut D.i2z).extBut hs₂.extBut D.i12.symm).extBut hs₃.extBut D.TOi2.symm)
    (((hl2.extBut hs₁.extBut D.l2z).extBut hs₂.extBut D.l2i1).extBut hs₃.extBut D.l2TO) hy fun h₄ h2₄ hs₄ => wpAny_pure ?_)
  have hTO₄ : IsPair h₄ TO x b := hs₄.extBut _ _ D.TOi2 hTO₃
  refine wpAny_bind (wpAny_seqItems hTO₄ rfl ?_)
  refine wpAny_bind (wpAny_updateSeq_pair hTO₄ fun h₅ hTO₅ hs₅ => ?_)
  replace hTO₅ : IsPair h₅ TO x y := hTO₅
  refine wpAny_bind (wpAny_letGo (wpAny_pure (wpAny_pure ?_)))

  refine wpAny_bind (wpAny_seqItems hTO₅ rfl ?_)
  refine wpAny_bind (wpAny_newTuple ?_)
  have hsz : h₅.objs.size = s.heap.objs.size := by rw [hs₅.1, hs₄.1, hs₃.1, hs₂.1, hs₁.1]
  have hz₅ : IsZip h₅ z TI TO .ellipsis := hs₅.extBut _ _ D.TOz.symm (hs₄.extBut _ _ D.i2z.symm (hs₃.extBut _ _ D.TOz.symm (hs₂.extBut _ _ D.i1z.symm hz₁)))
  have hk₅ : ∀ c o, c ≠ z → c ≠ TO → c ≠ i1 → c ≠ i2 → s.heap.get? c = some o → h₅.get? c = some o := fun c o c1 c2 c3 c4 e =>
    hs₅.extBut _ _ c2 (hs₄.extBut _ _ c4 (hs₃.extBut _ _ c2 (hs₂.extBut _ _ c3 (hs₁.extBut _ _ c1 e))))
  have h1₅ : h₅.IsListIter i1 l1 (k1 + 1) := ((h1₂.extBut hs₃.extBut D.TOi1.symm).extBut hs₄.extBut D.i12).extBut hs₅.extBut D.TOi1.symm
  have h2₅ : h₅.IsTupleIter i2 l2 (k2 + 1) := h2₄.extBut hs₅.extBut D.TOi2.symm
  have hzlt : z < h₅.objs.size := Heap.lt_size hz₅
  have hTOlt : TO < h₅.objs.size := Heap.lt_size hTO₅
  have hi1lt : i1 < h₅.objs.size := by obtain ⟨_, e, _⟩ := h1₅; exact Heap.lt_size e
  have hi2lt : i2 < h₅.objs.size := by obtain ⟨_, e, _⟩ := h2₅; exact Heap.lt_size e
  show wpAny _ _ (Builtin.SmallTypes.ownedTupleHandOut (.ref z) (.ref h₅.objs.size) >>= _) _ _ _
  refine wpAny_bind ?_
  unfold Builtin.SmallTypes.ownedTupleHandOut
  have hz₆ : IsZip (h₅.push { cls := .type "tuple", data := .seq #[x, y] }) z TI TO .ellipsis := Heap.get?_push_of_some _ hz₅
  refine wpAny_bind (wpAny_setField_rec hz₆ (by simp) fun h₇ hz₇ hs₇ => ?_)
  replace hz₇ : IsZip h₇ z TI TO (rawInt h₅.objs.size) := hz₇
  refine wpAny_setField_rec hz₇ (by simp) fun h₈ hz₈ hs₈ => ?_
  replace hz₈ : IsZip h₈ z TI TO (rawInt h₅.objs.size) := hz₈
  have up : ∀ c o, c ≠ z → h₅.get? c = some o → h₈.get? c = some o := fun c o c1 e => hs₈.extBut _ _ c1 (hs₇.extBut _ _ c1 (Heap.get?_push_of_some _ e))
  have hT₈ : IsPair h₈ h₅.objs.size x y := hs₈.extBut _ _ (Nat.ne_of_gt hzlt) (hs₇.extBut _ _ (Nat.ne_of_gt hzlt) (Heap.get?_push_size _ rfl))
  have hz8 : h₈.objs.size = h₅.objs.size + 1 := by rw [hs₈.1, hs₇.1, Heap.size_push]
  rw [hsz] at hz₈ hT₈ hz8
  refine wpAny_pure ⟨_, rfl, ?_⟩
  show Q (.ref h₅.objs.size) _
  rw [hsz]
  exact hQ h₈ hz₈ (up _ _ D.TOz hTO₅) (h1₅.at fun o e => up _ o D.i1z e) (h2₅.at fun o e => up _ o D.i2z e) hT₈ hz8 fun c o c1 c2 c3 c4 e => up c o c1 (hk₅ c o c1 c2 c3 c4 e)

theorem zipM_next_end {z TI TO i1 i2 l1 l2 : Addr} {k1 k2 : Nat} {xs ys : Array Value} {a b : Value} {Q : Fin → Shared → Prop} (hh : A.handled = none) (D : ZipApart z TI TO i1 i2 l1 l2)
    (hz : IsZip s.heap z TI TO .none) (hTI : IsPair s.heap TI (.ref i1) (.ref i2)) (hTO : IsPair s.heap TO a b)
    (h1 : s.heap.IsListIter i1 l1 k1) (h2 : s.heap.IsTupleIter i2 l2 k2) (hl1 : s.heap.IsList l1 xs) (hl2 : s.heap.IsTuple l2 ys) (hend : xs[k1]? = none ∨ ys[k2]? = none)
    (hE : ∀ h' e, (∀ c o, c ≠ z → c ≠ TO → c ≠ i1 → c ≠ i2 → s.heap.get? c = some o → h'.get? c = some o) → (∃ o, h'.get? e = some o ∧ o.cls = .type "StopIteration") → E (.ref e) { s with heap := h' }) :
    wpAny (model prog w) A (Builtin.«zip.__next__» ⟨[.ref z], []⟩) Q E s := by
  show wpAny _ _ (field (.ref z) 2 >>= _) _ _ _
  refine wpAny_bind (wpAny_field hz rfl (x := .bool false) rfl ?_)
  show wpAny _ _ (field (.ref z) 3 >>= _) _ _ _
  refine wpAny_bind (wpAny_field hz rfl (x := .ref TI) rfl ?_)
  refine wpAny_bind (wpAny_seqItems hTI rfl ?_)
  show wpAny _ _ (Builtin.SmallTypes.ownedTupleIsFree (.ref z) >>= _) _ _ _
  refine wpAny_bind ?_
  unfold Builtin.SmallTypes.ownedTupleIsFree
  refine wpAny_bind (wpAny_field hz rfl (x := .none) rfl (wpAny_pure ?_))
  simp only [if_true]
  refine wpAny_bind (wpAny_rule ?_)
  refine wpAny_bind (wpAny_field hz rfl (x := .ref TO) rfl ?_)
  refine wpAny_bind (wpAny_setField_rec hz (by simp) fun h₁ hz₁ hs₁ => ?_)
  replace hz₁ : IsZip h₁ z TI TO .ellipsis := hz₁
  refine wpAny_bind ?_
  simp only [List.zipIdx_cons, List.zipIdx_nil, List.forIn_cons, List.forIn_nil]
  refine wpAny_bind (wpAny_bind (wpAny_onRaise ?_))
  show wpAny _ _ (Builtin.SmallTypes.nextOf (.ref i1) >>= _) _ _ _
  cases hx : xs[k1]? with
  | none =>
    refine wpAny_bind (wpAny_nextOf_list_end hh (h1.extBut hs₁.extBut D.i1z) (hl1.extBut hs₁.extBut D.l1z) hx fun h₂ e hs₂ he => ?_)
    obtain ⟨oe, hoe, hce⟩ := he
    have hz₂ : IsZip h₂ z TI TO .ellipsis := hs₂ _ _ D.i1z.symm hz₁
    have hez : e ≠ z := fun x => by subst x; rw [hz₂] at hoe; cases hoe; simp at hce
    refine wpAny_setField_rec hz₂ (by simp) fun h₃ _ hs₃ => hE h₃ e (fun c o c1 _ c3 _ x => hs₃.extBut _ _ c1 (hs₂ _ _ c3 (hs₁.extBut _ _ c1 x))) ⟨oe, hs₃.extBut _ _ hez hoe, hce⟩
  | some x =>
    have hy : ys[k2]? = none := by rcases hend with h | h; rw [hx] at h; cases h; exact h
    refine wpAny_bind (wpAny_nextOf_list_item (h1.extBut hs₁.extBut D.i1z) (hl1.extBut hs₁.extBut D.l1z) hx fun h₂ h1₂ hs₂ => wpAny_pure ?_)
    have hTO₂ : IsPair h₂ TO a b := hs₂.extBut _ _ D.TOi1 (hs₁.extBut _ _ D.TOz hTO)
    refine wpAny_bind (wpAny_seqItems hTO₂ rfl ?_)
    refine wpAny_bind (wpAny_updateSeq_pair hTO₂ fun h₃ hTO₃ hs₃ => ?_)
    refine wpAny_bind (wpAny_letGo (wpAny_pure ?_))
    refine wpAny_bind (wpAny_bind (wpAny_onRaise ?_))
    show wpAny _ _ (Builtin.SmallTypes.nextOf (.ref i2) >>= _) _ _ _
    refine wpAny_bind (RZ.nextOf_tuple_end hh (((h2.extBut hs₁.extBut D.i2z).extBut hs₂.extBut D.i12.symm).extBut hs₃.extBut D.TOi2.symm)
      (((hl2.extBut hs₁.extBut D.l2z).extBut hs₂.extBut D.l2i1).extBut hs₃.extBut D.l2TO) hy fun h₄ e hs₄ he => ?_)
    obtain ⟨oe, hoe, hce⟩ := he
    have hz₄ : IsZip h₄ z TI TO .ellipsis := hs₄ _ _ D.i2z.symm (hs₃.extBut _ _ D.TOz.symm (hs₂.extBut _ _ D.i1z.symm hz₁))
    have hez : e ≠ z := fun x => by subst x; rw [hz₄] at hoe; cases hoe; simp at hce
    refine wpAny_setField_rec hz₄ (by simp) fun h₅ _ hs₅ => hE h₅ e (fun c o c1 c2 c3 c4 x => hs₅.extBut _ _ c1 (hs₄ _ _ c4 (hs₃.extBut _ _ c2 (hs₂.extBut _ _ c3 (hs₁.extBut _ _ c1 x))))) ⟨oe, hs₅.extBut _ _ hez hoe, hce⟩

theorem pyNext_zipM_item {z TI TO i1 i2 l1 l2 : Addr} {k1 k2 : Nat} {xs ys : Array Value} {x y a b : Value} {Q : Option Value → Shared → Prop} (D : ZipApart z TI TO i1 i2 l1 l2)
    (hz : IsZip s.heap z TI TO .none) (hTI : IsPair s.heap TI (.ref i1) (.ref i2)) (hTO : IsPair s.heap TO a b)
    (h1 : s.heap.IsListIter i1 l1 k1) (h2 : s.heap.IsTupleIter i2 l2 k2) (hl1 : s.heap.IsList l1 xs) (hl2 : s.heap.IsTuple l2 ys) (hx : xs[k1]? = some x) (hy : ys[k2]? = some y)
    (hQ : ∀ h', IsZip h' z TI TO (rawInt s.heap.objs.size) → IsPair h' TO x y → h'.IsListIter i1 l1 (k1 + 1) → h'.IsTupleIter i2 l2 (k2 + 1) → IsPair h' s.heap.objs.size x y → h'.objs.size = s.heap.objs.size + 1 →
      (∀ c o, c ≠ z → c ≠ TO → c ≠ i1 → c ≠ i2 → s.heap.get? c = some o → h'.get? c = some o) → Q (some (.ref s.heap.objs.size)) { s with heap := h' }) :
    wpAny (model prog w) A (pyNext (.ref z)) Q E s := by
  have hT : s.TypeIs (.ref z) "zip" := ⟨_, hz, rfl⟩
  unfold pyNext
  exact wpAny_bind (wpAny_attempt (wpAny_callSpecial?_slot (name := Str.ofString "__next__") hT F.slot_zip_next
    (wpAny_call_entry F.slot_zip_next hT F.entry_zip_next
      (zipM_next_item D hz hTI hTO h1 h2 hl1 hl2 hx hy fun h' a1 a2 a3 a4 a5 a6 a7 => wpAny_pure (hQ h' a1 a2 a3 a4 a5 a6 a7)) (F.args_zip_next_1 _))))

theorem pyNext_zipM_end {z TI TO i1 i2 l1 l2 : Addr} {k1 k2 : Nat} {xs ys : Array Value} {a b : Value} {Q : Option Value → Shared → Prop} (hh : A.handled = none) (D : ZipApart z TI TO i1 i2 l1 l2)
    (hz : IsZip s.heap z TI TO .none) (hTI : IsPair s.heap TI (.ref i1) (.ref i2)) (hTO : IsPair s.heap TO a b)
    (h1 : s.heap.IsListIter i1 l1 k1) (h2 : s.heap.IsTupleIter i2 l2 k2) (hl1 : s.heap.IsList l1 xs) (hl2 : s.heap.IsTuple l2 ys) (hend : xs[k1]? = none ∨ ys[k2]? = none)
    (hQ : ∀ h', (∀ c o, c ≠ z → c ≠ TO → c ≠ i1 → c ≠ i2 → s.heap.get? c = some o → h'.get? c = some o) → Q none { s with heap := h' }) : wpAny (model prog w) A (pyNext (.ref z)) Q E s := by
  have hT : s.TypeIs (.ref z) "zip" := ⟨_, hz, rfl⟩
  unfold pyNext
  refine wpAny_bind (wpAny_attempt (wpAny_callSpecial?_slot (name := Str.ofString "__next__") hT F.slot_zip_next
    (wpAny_call_entry F.slot_zip_next hT F.entry_zip_next (zipM_next_end hh D hz hTI hTO h1 h2 hl1 hl2 hend fun h' e hk he => ?_) (F.args_zip_next_1 _))))
  obtain ⟨o, ho, hc⟩ := he
  refine wpAny_bind (wpAny_isInstance (T := "StopIteration") (b := true) ⟨o, ho, hc⟩ isSubtype_stop ?_)
  exact wpAny_pure (hQ _ hk)
end

abbrev zipMH1 (h : Heap) (l1 : Addr) : Heap := h.push { cls := .type "list_iterator", data := .fields #[.ref l1, .int 0 0] }
abbrev zipMH2 (h : Heap) (l1 l2 : Addr) : Heap := (zipMH1 h l1).push { cls := .type "tuple_iterator", data := .fields #[.ref l2, .int 0 0] }
abbrev zipMH3 (h : Heap) (l1 l2 : Addr) : Heap := (zipMH2 h l1 l2).push { cls := .type "tuple", data := .seq #[.ref h.objs.size, .ref (zipMH1 h l1).objs.size] }
abbrev zipMH4 (h : Heap) (l1 l2 : Addr) : Heap := (zipMH3 h l1 l2).push { cls := .type "tuple", data := .seq #[.none, .none] }
abbrev zipMH5 (h : Heap) (l1 l2 : Addr) : Heap := (zipMH4 h l1 l2).push { cls := .type "zip", data := .fields #[.none, .bool false, .bool false, .ref (zipMH2 h l1 l2).objs.size, .ref (zipMH3 h l1 l2).objs.size] }

theorem meets_zipM_new (l1 l2 : Addr) (xs ys : Array Value) :
    Meets (Builtin.«zip.__new__» ⟨[.type "zip", .ref l1, .ref l2], []⟩) (fun _ R s => s.heap.IsList l1 xs ∧ s.heap.IsTuple l2 ys ∧
      R (.ok (.ret (.ref (zipMH4 s.heap l1 l2).objs.size))) { s with heap := zipMH5 s.heap l1 l2 }) :=
  .of_wp fun prog w A R s h => by
    obtain ⟨hp, g, d, tk, os⟩ := s; obtain ⟨hl1, hl2, h⟩ := h
    have hsub := sub_zip
    have hL1 : Heap.IsList (Shared.heap ⟨hp, g, d, tk, os⟩) l1 xs := hl1
    have hL2 : Heap.IsTuple (Shared.heap ⟨hp.push { cls := .type "list_iterator", data := .fields #[.ref l1, .int 0 0] }, g, d, tk, os⟩) l2 ys := Heap.IsTuple.push hl2 _
    wp_walk using wpAny_pyIter_list hL1, wpAny_pyIter_tuple hL2
    exact ⟨_, rfl, h⟩

section
variable {prog : Program} {w : World} {A : Around} {E : Value → Shared → Prop} {s : Shared}

theorem call_zipM {l1 l2 : Addr} {xs ys : Array Value} {Q : Value → Shared → Prop} (hl1 : s.heap.IsList l1 xs) (hl2 : s.heap.IsTuple l2 ys)
    (h : ∀ h', IsZip h' (s.heap.objs.size + 4) (s.heap.objs.size + 2) (s.heap.objs.size + 3) .none → IsPair h' (s.heap.objs.size + 2) (.ref s.heap.objs.size) (.ref (s.heap.objs.size + 1)) →
      IsPair h' (s.heap.objs.size + 3) .none .none → h'.IsListIter s.heap.objs.size l1 0 → h'.IsTupleIter (s.heap.objs.size + 1) l2 0 → h'.objs.size = s.heap.objs.size + 5 →
      (∀ c o, s.heap.get? c = some o → h'.get? c = some o) → Q (.ref (s.heap.objs.size + 4)) { s with heap := h' }) :
    wpAny (model prog w) A (call (.type "zip") [.ref l1, .ref l2]) Q E s := by
  refine callType_new F.called_zip (by decide) (F.typeCall_zip_2 _ _) (F.newCall_zip_2 _ _) (fun obj => F.args_object_init_3 obj _ _) F.entry_zip_new
    (meets_zipM_new l1 l2 xs ys) ⟨hl1, hl2, ?_⟩
  have z1 : (zipMH1 s.heap l1).objs.size = s.heap.objs.size + 1 := Heap.size_push ..
  have z2 : (zipMH2 s.heap l1 l2).objs.size = s.heap.objs.size + 2 := by rw [Heap.size_push, z1]
  have z3 : (zipMH3 s.heap l1 l2).objs.size = s.heap.objs.size + 3 := by rw [Heap.size_push, z2]
  have z4 : (zipMH4 s.heap l1 l2).objs.size = s.heap.objs.size + 4 := by rw [Heap.size_push, z3]
  have z5 : (zipMH5 s.heap l1 l2).objs.size = s.heap.objs.size + 5 := by rw [Heap.size_push, z4]
  have g5 : (zipMH5 s.heap l1 l2).get? (zipMH4 s.heap l1 l2).objs.size = some _ := Heap.get?_push_size _ rfl
  have g4 : (zipMH5 s.heap l1 l2).get? (zipMH3 s.heap l1 l2).objs.size = some _ := Heap.get?_push_of_some _ (Heap.get?_push_size _ rfl)
  have g3 : (zipMH5 s.heap l1 l2).get? (zipMH2 s.heap l1 l2).objs.size = some _ := Heap.get?_push_of_some _ (Heap.get?_push_of_some _ (Heap.get?_push_size _ rfl))
  have g2 : (zipMH5 s.heap l1 l2).get? (zipMH1 s.heap l1).objs.size = some _ := Heap.get?_push_of_some _ (Heap.get?_push_of_some _ (Heap.get?_push_of_some _ (Heap.get?_push_size _ rfl)))
  have g1 : (zipMH5 s.heap l1 l2).get? s.heap.objs.size = some _ := Heap.get?_push_of_some _ (Heap.get?_push_of_some _ (Heap.get?_push_of_some _ (Heap.get?_push_of_some _ (Heap.get?_push_size _ rfl))))
  show _ ∧ _
  rw [z2, z3, z4] at g5
  rw [z1, z2] at g3
  rw [z3] at g4
  rw [z1] at g2
  rw [z4]
  exact ⟨⟨_, g5, rfl⟩, h _ g5 g3 g4 ⟨_, g1, rfl, rfl⟩ ⟨_, g2, rfl, rfl⟩ z5 fun c o x =>
    Heap.get?_push_of_some _ (Heap.get?_push_of_some _ (Heap.get?_push_of_some _ (Heap.get?_push_of_some _ (Heap.get?_push_of_some _ x))))⟩
end
end ZM
namespace ZM
open PySem PySem.Spec PyProof.Rows L2
/-- the tuples at a and b as they stand at each turn, the items in new pairs -/
def ItzM (K : PySem.W.Frag) (a b : Addr) : It :=
  ⟨fun i H => ∃ (xs ys : List V) (x y : V), SqL K H a xs ∧ SqT K H b ys ∧ xs[i]? = some x ∧ ys[i]? = some y,
    fun i H v H' => ∃ T x y, v = .ref T ∧ H T = none ∧ H' = upd H T (.tup [x, y]) ∧ (∀ xs, SqL K H a xs → xs[i]? = some x) ∧ ∀ ys, SqT K H b ys → ys[i]? = some y,
    fun i H => ∃ xs ys : List V, SqL K H a xs ∧ SqT K H b ys ∧ (xs.length ≤ i ∨ ys.length ≤ i)⟩
theorem turn_zipM {P : Program} {w : World} {K : PySem.W.Frag} {elts : List Expr} {kk : Nat} {tpos : Pos} {a b z TI TO i1 i2 : Addr} (D : ZipApart z TI TO i1 i2 a b) :
    Turn P w K (.Tuple elts kk tpos) (ItzM K a b) [z, TI, TO, i1, i2] z (fun i h => IsZip h z TI TO .none ∧ IsPair h TI (.ref i1) (.ref i2) ∧ (∃ x y, IsPair h TO x y) ∧ h.IsListIter i1 a i ∧ h.IsTupleIter i2 b i) where
  mem := by simp
  obj := fun i h st c hc => by
    obtain ⟨hz, hTI, ⟨x, y, hTO⟩, ⟨o1, e1, _, d1⟩, ⟨o2, e2, _, d2⟩⟩ := st
    have e' : c = z ∨ c = TI ∨ c = TO ∨ c = i1 ∨ c = i2 := by simpa using hc
    rcases e' with q | q | q | q | q
    · rw [q]; exact ⟨_, hz, fun v q => nomatch q⟩
    · rw [q]; exact ⟨_, hTI, fun v q => nomatch q⟩
    · rw [q]; exact ⟨_, hTO, fun v q => nomatch q⟩
    · rw [q]; exact ⟨o1, e1, fun v q => by rw [d1] at q; cases q⟩
    · rw [q]; exact ⟨o2, e2, fun v q => by rw [d2] at q; cases q⟩
  keep := fun i h h' st k => by
    obtain ⟨hz, hTI, ⟨x, y, hTO⟩, h1, h2⟩ := st
    exact ⟨k z (by simp) _ hz, k TI (by simp) _ hTI, ⟨x, y, k TO (by simp) _ hTO⟩, h1.at fun o q => k i1 (by simp) o q, h2.at fun o q => k i2 (by simp) o q⟩
  item := by
    intro X hP hw hK hc i pins s σ H E I hf st hg
    subst hP hw hK
    obtain ⟨hz, hTI, ⟨x0, y0, hTO⟩, h1, h2⟩ := st
    obtain ⟨xs, ys, x, y, hqx, hqy, hx, hy⟩ := hg
    obtain ⟨its, rv, p, _⟩ := I.list hqx
    obtain ⟨its2, rv2, p2, _⟩ := I.tuple hqy
    obtain ⟨u, hu, ru⟩ := rv.get hx
    obtain ⟨u2, hu2, ru2⟩ := rv2.get hy
    have hzl : z < s.heap.objs.size := Heap.lt_size hz
    refine pyNext_zipM_item D hz hTI hTO h1 h2 p.isList p2 (x := u) (y := u2) (by simpa using hu) (by simpa using hu2) fun h' z' TO' h1' h2' hT hsz hk => ?_
    refine ⟨_, rfl, wpAny_letOwnedTupleGo_zip (s := { s with heap := h' }) z' fun h'' z'' sb => ?_⟩
    have hT2 : h''.get? s.heap.objs.size = some { cls := .type "tuple", data := .seq #[u, u2] } := (sb.2 _ (Nat.ne_of_gt hzl)).trans hT
    have new : ObjOk X.prog X.w (upd H s.heap.objs.size (.tup [x, y])) h'' s.heap.objs.size (.tup [x, y]) :=
      ⟨by show 2 ≤ sizeLine; decide, [u, u2], .cons ru (.cons ru2 .nil), ⟨_, hT2, rfl, _, rfl⟩⟩
    have I1 : Inv X pins σ (upd H s.heap.objs.size (.tup [x, y])) { s with heap := h'' } :=
      I.turnedNew (t' := s.toks) (ch := [z, TI, TO, i1, i2]) (fun c o hb q => (sb.2 c (fun q' => hb (by simp [q']))).trans (hk c o (fun q' => hb (by simp [q'])) (fun q' => hb (by simp [q'])) (fun q' => hb (by simp [q'])) (fun q' => hb (by simp [q'])) q)) hf (Nat.le_refl _) new
    refine ⟨.ref s.heap.objs.size, _, I1, rfl, ⟨_, x, y, rfl, I.hok.fresh (Nat.le_refl _), rfl, fun l hl => by rw [I.list_inj hl hqx]; exact hx, fun l hl => by rw [I.tuple_inj hl hqy]; exact hy⟩, ⟨z'', ?_, ⟨u, u2, ?_⟩, ?_, ?_⟩, fun c hcm => ?_⟩
    · exact (sb.2 _ D.TIz).trans (hk _ _ D.TIz D.TITO D.TIi1 D.TIi2 hTI)
    · exact (sb.2 _ D.TOz).trans TO'
    · exact h1'.at fun o q => (sb.2 _ D.i1z).trans q
    · exact h2'.at fun o q => (sb.2 _ D.i2z).trans q
    · have hlt : c < s.heap.objs.size := by
        have e' : c = z ∨ c = TI ∨ c = TO ∨ c = i1 ∨ c = i2 := by simpa using hcm
        rcases e' with q | q | q | q | q
        · rw [q]; exact hzl
        · rw [q]; exact Heap.lt_size hTI
        · rw [q]; exact Heap.lt_size hTO
        · rw [q]; obtain ⟨_, e1, _⟩ := h1; exact Heap.lt_size e1
        · rw [q]; obtain ⟨_, e2, _⟩ := h2; exact Heap.lt_size e2
      rw [upd_ne (Nat.ne_of_lt hlt)]
      exact (hf c hcm).1
  done := by
    intro X hP hw hK hc i pins s σ H E I hf st hg
    subst hP hw hK
    obtain ⟨hz, hTI, ⟨x0, y0, hTO⟩, h1, h2⟩ := st
    obtain ⟨xs, ys, hqx, hqy, hend⟩ := hg
    obtain ⟨its, rv, p, _⟩ := I.list hqx
    obtain ⟨its2, rv2, p2, _⟩ := I.tuple hqy
    have l1 := rv.length
    have l2 := rv2.length
    have he : its.toArray[i]? = none ∨ its2.toArray[i]? = none := by
      rcases hend with q | q
      · exact .inl (by simp; omega)
      · exact .inr (by simp; omega)
    exact pyNext_zipM_end (I.ok.hd hc) D hz hTI hTO h1 h2 p.isList p2 he fun h' hk => ⟨rfl, I.turnedL (t' := s.toks) (ch := [z, TI, TO, i1, i2]) (fun c o hb q =>
      hk c o (fun q' => hb (by simp [q'])) (fun q' => hb (by simp [q'])) (fun q' => hb (by simp [q'])) (fun q' => hb (by simp [q'])) q) hf⟩
  self := fun A i s Q E st h => wpAny_pyIter_zip st.1 h

/-- zip(a list, a tuple) -/
def iZipM (K : PySem.W.Frag) (ta : TA) : TI := fun σ H R => ta σ H fun vs H1 => ∃ a b xs ys, vs = [.ref a, .ref b] ∧ SqL K H1 a xs ∧ SqT K H1 b ys ∧ R (ItzM K a b) H1
theorem pi_zipM {X : Cx} {e e2 : Expr} {ta : TA} {p pos tpos : Pos} {elts : List Expr} {kk : Nat} (hg : Gl X "zip") (hm : X.mg "zip" = none) (ha : PA X [e, e2] ta)
    (hs : starEach [e, e2] X.env = (false, eval e X.env) :: starEach [e2] X.env) (hpl : (backTo pos (starEach [e2] X.env)).any (·.1) = false) :
    PI X (.Tuple elts kk tpos) (.Call (.Name "zip" p) [e, e2] [] pos) (iZipM X.K ta) := by
  refine ⟨fun pins s σ H R I h => ?_⟩
  refine Call_ (ld_blt I hg hm PyProof.Rows.boot_zip (PyProof.Rows.callWith_type1 (thn (ha.run pos pins s σ H _ I h) fun us s1 ⟨vs, H1, I1, r1, q1⟩ => ?_) hs hpl))
  obtain ⟨a, b, xs, ys, ex, hqx, hqy, q⟩ := q1
  subst ex
  obtain ⟨its, rv, p1, _⟩ := I1.list hqx
  obtain ⟨its2, rv2, p2, _⟩ := I1.tuple hqy
  obtain ⟨o2, ho2, _⟩ := id p2
  cases r1 with
  | cons r rr =>
    cases rr with
    | cons r' rr =>
      cases rr
      cases r
      cases r'
      refine call_zipM p1.isList (show s1.heap.IsTuple b its2.toArray from p2) fun h' hz hTI hTO h1 h2 hsz hk => wpAny_pyIter_zip hz ?_
      have I2 : Inv X pins σ H1 { s1 with heap := h' } := I1.kept (t' := s1.toks) hk
      refine ⟨s1.heap.objs.size + 4, [s1.heap.objs.size + 4, s1.heap.objs.size + 2, s1.heap.objs.size + 3, s1.heap.objs.size, s1.heap.objs.size + 1], _, _, H1, rfl, I2, turn_zipM (PySem.W.ktu_apart s1.heap.objs.size a b p1.lt (Heap.lt_size ho2)), ⟨hz, hTI, ⟨_, _, hTO⟩, h1, h2⟩, fun c hcm => ?_, q⟩
      have hle : s1.heap.objs.size ≤ c := by
        simp only [List.mem_cons, List.not_mem_nil, or_false] at hcm
        rcases hcm with e | e | e | e | e
        · rw [e]; exact Nat.le_add_right _ _
        · rw [e]; exact Nat.le_add_right _ _
        · rw [e]; exact Nat.le_add_right _ _
        · rw [e]; exact Nat.le_refl _
        · rw [e]; exact Nat.le_add_right _ _
      exact I1.fpOk hle (I1.hok.fresh hle)
end ZM
/-! Z7: errors that are held: made by hand (by place, by name, with nothing), isinstance of them, their fields. -/
namespace PySem.W
open PySem PySem.Spec PySem.Calls PyProof.Rows
section
variable {prog : Program} {w : World} {A : Around} {E : Value → Shared → Prop} {s : Shared} {K : Frag} {x D : Addr} {ox : Obj} {od : Option Obj}
theorem findObj_dataA {C : Addr} {name : Str} {a g : Value} (hc : (clsIn K C).isSome = true) (ha : findIn K (.ref C) name = some (some a)) (hg : specialIn K a "__get__" = some (some g)) (ht : takesIn K a = some true) : findObj K C od name = some (.bind g a) := by
  obtain ⟨cd, hc⟩ := Option.isSome_iff_exists.mp hc
  unfold findObj
  rw [hc, Option.bind_some, ha, Option.bind_some]
  simp [hg, ht]
/-- the class of an error, its dict there or not -/
theorem kin_classA {Q : Option Value → Shared → Prop} (T : L2.ExcC K D) (X : K.In s.heap) (I : InstAt s.heap x ox D od) (h : Q (some (.ref D)) { s with toks := s.toks + 1 }) : wpAny (model prog w) A (getAttr? (.ref x) "__class__") Q E s := by
  have hf : findObj K D od "__class__" = some (.bind (.builtin "getset_descriptor.__get__") (.builtin "object.__class__")) := findObj_dataA (by obtain ⟨cd, hc, _⟩ := any_some T.hd; rw [hc]; rfl) T.ha T.hn T.ht
  obtain ⟨hp, g, d, t, os⟩ := s
  have L0 := I.type (M := model prog w)
  have L1 := looks_findIn (M := model prog w) X T.hg
  have L2 := looks_findIn (M := model prog w) X T.hk
  have L3 := looks_find (M := model prog w) X I hf
  have sub : Looks (model prog w) hp (isInstance (.ref x) (.type "BaseException")) true := L0.andThen (looks_subIn X T.hs)
  have n2 : (Value.builtin "BaseException.__getattribute__" == Value.builtin "object.__getattribute__") = false := by decide +kernel
  have n1 : (onTheHeap (Value.ref D) && Value.builtin "BaseException.__getattribute__" == Value.builtin "object.__getattribute__") = false := by rw [n2]; rfl
  have n0 : (false && onTheHeap (Value.builtin "BaseException.__getattribute__")) = false := rfl
  unfold getAttr? getAttrBy? getAttrBy
  refine wpAny_bind (wpAny_mkText (wpAny_bind (wpAny_attempt (wpAny_holding (wpAny_bind (L0.at (wpAny_bind (L1.at ?_))))))))
  show wpAny _ _ (if (onTheHeap (Value.ref D) && Value.builtin "BaseException.__getattribute__" == Value.builtin "object.__getattribute__") = true then _ else _) _ _ _
  rw [n1, if_neg Bool.false_ne_true]
  unfold getAttrByItsOwn hookBefore
  refine wpAny_bind ?_
  rw [if_pos (show onTheHeap (Value.ref D) = true from rfl)]
  refine L2.at (wpAny_bind (wpAny_attempt (wpAny_holding ?_)))
  unfold callGetattribute
  rw [n0, if_neg Bool.false_ne_true]
  unfold boundAndCalled
  rw [PySem.F.excAttr_ValueError.ga.bind (.ref x)]
  refine wpAny_bind (wpAny_pure ?_)
  show wpAny _ _ (call (.builtin "BaseException.__getattribute__") [.ref x, .str "__class__" t]) _ _ _
  refine wpAny_call (codeAny_call_builtin PySem.F.excAttr_ValueError.ga.plain PySem.F.entry_bexc_ga ?_)
  refine @check_slot (model prog w) _ _ ⟨hp, g, d, t + 1, os⟩ "BaseException.__getattribute__" "BaseException" "__getattribute__" (.ref x) [.str "__class__" t] [] _ (by decide +kernel) (by decide +kernel) sub (PySem.F.args_bexc_ga (.ref x) (.str "__class__" t)) ?_
  unfold Builtin.«object.__getattribute__»
  refine wpAny_bind (wpAny_of_eq (a := ((Value.ref x : Value), [Value.str "__class__" t])) (by first | rfl | (simp only [slotArgs]; rfl)) ?_)
  refine wpAny_bind (wpAny_pure (wpAny_bind (L0.at (wpAny_bind (L3.at ?_)))))
  show wpAny _ _ (holding [Value.builtin "object.__class__"] (call (.builtin "getset_descriptor.__get__") [.builtin "object.__class__", .ref x, .ref D]) >>= ret) _ _ _
  refine wpAny_bind (wpAny_holding (wpAny_call (class_get (s := ⟨hp, g, d, t + 1, os⟩) (ox := ox) (od := od) X I T.hm (wpAny_pure ?_))))
  show wpAny _ _ (handedOut (.ref D)) _ _ _
  rw [handedOut_of (v := .ref D) rfl]
  first
    | exact wpAny_pure (wpAny_pure h)
    | exact wpAny_pure h
    | exact wpAny_pure (wpAny_bind (wpAny_pure (wpAny_pure h)))
theorem kitx_err (T : L2.ExcC K D) : KitX K (.ref x) (.ref D) (fun h => ∃ ox od, InstAt h x ox D od) where
  ty := fun _ _ _ ⟨_, _, I⟩ => I.type
  it := fun _ _ X _ => by
    obtain ⟨cdD, hcD, _⟩ := any_some T.hd
    unfold clsIn at hcD
    split at hcD
    · rename_i c' d' cd' sl' ho
      intro A' Q' E' s' k q
      unfold isType loadHead
      exact wpAny_bind (wpAny_loadPart (k _ _ (X _ _ ho)) (wpAny_pure q))
    · cases hcD
  ne := fun h tp dd its n sl X htp => by
    obtain ⟨cdD, hcD, _⟩ := any_some T.hd
    refine Bool.eq_false_iff.mpr fun q => ?_
    have e : D = tp := Value.ref.inj (beq_iff_eq.mp q)
    subst e
    unfold clsIn at hcD
    split at hcD
    · rename_i c' d' cd' sl' ho
      have z := (X _ _ ho).symm.trans htp
      cases z
    · cases hcD
  ca := fun X ⟨_, _, I⟩ k => kin_classA T X I k
end
end PySem.W
namespace L2
open PySem PySem.Spec PyProof.Rows
/-- an error that is held: its class, its dict -/
def XO (cls : Value) (d : Option Addr) (a : Addr) : HO := .ext fun h => ∃ (oe : Obj) (vs : Array Value), h.get? a = some oe ∧ Zc cls d oe ∧ oe.data = .fields vs
theorem xo_ok {P : Program} {w : World} {H : Hp} {h : Heap} {a : Addr} {cls : Value} {d : Option Addr} {oe : Obj} {vs : Array Value} (e : h.get? a = some oe) (z : Zc cls d oe) (hd : oe.data = .fields vs) : ObjOk P w H h a (XO cls d a) :=
  ⟨⟨oe, vs, e, z, hd⟩, ⟨oe, e⟩, fun _ _ ⟨o, v, q, r⟩ k => ⟨o, v, k o q, r⟩⟩
theorem xo_at {P : Program} {w : World} {H : Hp} {h : Heap} {a : Addr} {cls : Value} {d : Option Addr} (hok : HOk P w H h) (e : H a = some (XO cls d a)) : ∃ (oe : Obj) (vs : Array Value), h.get? a = some oe ∧ Zc cls d oe ∧ oe.data = .fields vs := (hok a _ e).1
/-- the dict of a held error -/
def XD (H : Hp) (d : Option Addr) (fs : List (Str × V)) : Prop := match d with
  | none => fs = []
  | some dx => H dx = some (.xd fs)
section
variable {X : Cx} {pins : List (Addr × Obj)} {σ : St} {H : Hp} {s : Shared}
theorem Inv.same {s1 : Shared} (I : Inv X pins σ H s) (e : s1.heap = s.heap) (o : s1.os = s.os) (b : AllBare s1.gens) : Inv X pins σ H s1 := by
  obtain ⟨hp, g, dr, t, os⟩ := s
  obtain ⟨hp1, g1, dr1, t1, os1⟩ := s1
  cases e
  cases o
  exact ⟨I.ok, I.os, b, I.base, I.loc, I.cell, I.free, I.freeC, I.pin, I.hok, I.len⟩
/-- what makes an error gives it as a value -/
theorem pe_held {e : Expr} {t : St → Hp → XK → Prop} (he : PMk X e t) : PE X e (fun σ H Q => t σ H fun cls d H1 => ∀ a, H1 a = none → Q (.ref a) (upd H1 a (XO cls d a))) := by
  refine ⟨fun pins s σ H Q I h => ?_⟩
  refine wpAny_mono (he pins s σ H _ I h) (fun u s1 hu => ?_) fun _ _ x => x
  obtain ⟨a, oe, vs, sI, H', cls, d, rfl, J, k, hne, ha, hz, hd, h1, na, os, ag, r, q⟩ := hu
  have J2 : Inv X pins σ (upd H' a (XO cls d a)) { sI with heap := s1.heap, toks := sI.toks } := J.laidN k hne na (xo_ok ha hz hd)
  exact ⟨.ref a, _, J2.same rfl os ag, rfl, q a na⟩
theorem xo_inst {C : Addr} {d : Option Addr} {a : Addr} {fs : List (Str × V)} (I : Inv X pins σ H s) (e : H a = some (XO (.ref C) d a)) (hd : XD H d fs) : ∃ ox od, PySem.W.InstAt s.heap a ox C od ∧ ∀ n v, fs.lookup n = some v → ∃ o u, od = some o ∧ PySem.W.lookIn n o = some (some u) ∧ RelV v u := by
  obtain ⟨oe, vs, h1, h2, h3⟩ := xo_at I.hok e
  cases d with
  | none =>
    cases (show fs = [] from hd)
    refine ⟨oe, none, ⟨h1, h2.1, by unfold PySem.W.notCls; rw [h3] <;> rfl, by rw [h2.2]; trivial⟩, fun n v z => ?_⟩
    cases z
  | some dx =>
    obtain ⟨mA, hns, hr⟩ := (show ObjOk X.prog X.w H s.heap dx (.xd fs) from I.hok dx _ hd)
    obtain ⟨od, ho, hl⟩ := lookIn_ns hns
    refine ⟨oe, some od, ⟨h1, h2.1, by unfold PySem.W.notCls; rw [h3] <;> rfl, by rw [h2.2]; exact ho⟩, fun n v z => ?_⟩
    obtain ⟨u, hu, ru⟩ := RelO.some_of (v := v) (o := mA n) (by rw [← z]; exact hr n)
    exact ⟨od, u, rfl, by rw [hl, hu], ru⟩
/-- isinstance(e, c), e a held error -/
def rIsX (K : PySem.W.Frag) : List V → Hp → VK → Prop := fun xs H Q => ∃ (a C : Addr) (d : Option Addr) (fs : List (Str × V)) (c : V) (cv : Value) (b : Bool), xs = [.ref a, c] ∧ H a = some (XO (.ref C) d a) ∧ XD H d fs ∧ ExcC K C ∧ (∀ u, RelV c u → u = cv) ∧ PySem.W.kitOne K (.ref C) cv = some b ∧ Q (.bl b) H
theorem cr_isX : CallR X (.builtin "isinstance") (rIsX X.K) := by
  intro pins s σ H xs us Q I r h
  obtain ⟨a, C, d, fs, c, cv, b, rfl, ha, hd, T, hcv, e, q⟩ := h
  cases r with
  | cons rx rr =>
    cases rr with
    | cons rt rr =>
      cases rr
      cases rx
      have ec := hcv _ rt
      subst ec
      obtain ⟨ox, od, J, _⟩ := xo_inst I ha hd
      exact PySem.W.kia_one (PySem.W.kitx_err T) I.kIn ⟨ox, od, J⟩ e (fun z => nomatch z) fun tk => ⟨.bl b, H, I.kept (t' := tk) fun _ _ z => z, rfl, q⟩
/-- e.f, e a held error -/
def tXh (K : PySem.W.Frag) (n : Str) (te : TE) : TE := fun σ H Q => te σ H fun x H1 => ∃ (a C : Addr) (d : Option Addr) (fs : List (Str × V)) (v : V), x = .ref a ∧ H1 a = some (XO (.ref C) d a) ∧ XD H1 d fs ∧ XfC K C ∧ PySem.W.findIn K (.ref C) n = some none ∧ fs.lookup n = some v ∧ Q v H1
theorem pe_xh {e : Expr} {te : TE} {pos : Pos} {n : Str} (he : PE X e te) (hb : attributeBase e n X.env (eval e X.env) = eval e X.env) : PE X (.Attribute e n pos) (tXh X.K n te) := by
  refine ⟨fun pins s σ H Q I h => ?_⟩
  refine attr_of hb (thn (he.run pins s σ H _ I h) fun u s1 hh => ?_)
  obtain ⟨x, H1, I1, rx, a, C, d, fs, v, rfl, ha, hd, T, hno, l, q⟩ := hh
  cases rx
  obtain ⟨ox, od, J, hl⟩ := xo_inst I1 ha hd
  obtain ⟨o, u, rfl, h2, ru⟩ := hl n v l
  exact HandSPX.exc_get I1.kIn J T.ga T.gg T.exC (PySem.W.findObj_own T.hdC hno rfl h2) (handed_of ru) ⟨v, H1, I1.tok _, ru, q⟩
end
end L2
/-! Z8: an error class with an own __init__, called by names. -/
namespace PySem.HandSPX
open PySem PySem.Spec PyProof.Rows
section
variable {M : Model} {prog : Program} {w : World} {A : Around} {E : Value → Shared → Prop} {R : Result → Shared → Prop} {h : Heap} {g : Array GenState} {d : Drawn} {t : Nat} {os : OsState}
variable {nm q : Str} {C N : Addr} {bs bm bmB : List Value} {hdct : Bool} {sn : List Str} {sub : List Value} {ab : Bool} {col : Option Bool} {dd : Option Addr} {k0 k1 k2 k3 k5 : Option Value} {B newId initId : String} {rest : List Value} {kw : List (Str × Value)}
theorem check_new_kw (F : ExcBaseFacts B newId initId bmB) (hT : ∀ X : String, bm.contains (.type X) = bmB.contains (.type X)) {Q : Unit → Shared → Prop}
    (hC : h.get? C = some (excClassObj nm q C N bs bm hdct sn sub ab col dd k0 k1 k2 k3 k5 newId)) (hq : Q () ⟨h, g, d, t, os⟩) : wpAny M A (checkBuiltinCall newId ⟨.ref C :: rest, kw⟩) Q E ⟨h, g, d, t, os⟩ := by
  have hcont : (Value.ref C :: bm).contains (.type B) = true := by rw [List.contains_cons, hT, F.hasB, Bool.or_true]
  have hstar := F.noStar
  simp only [checkBuiltinCall, F.newKind, F.newSplit, F.newRow]
  repeat (first | refine wpAny_loadPart_at hC ?_ | (refine wpAny_isSubtype_exc hC ?_; rw [hcont]) | refine wpAny_staticBase_exc hC ?_ | refine wpAny_madeBy_exc hC ?_ | simp only [bne_self_eq_false, Bool.false_eq_true, if_false] | wp_step)
  exact hq
theorem new_kw (F : ExcBaseFacts B newId initId bmB) (hT : ∀ X : String, bm.contains (.type X) = bmB.contains (.type X))
    (hC : h.get? C = some (excClassObj nm q C N bs bm hdct sn sub ab col dd k0 k1 k2 k3 k5 newId))
    (hq : R (.ok (.ret (.ref (h.objs.size + 1)))) ⟨(h.push { cls := .type "tuple", data := .seq rest.toArray }).push
      { cls := .ref C, data := .fields #[.ref h.objs.size, .none, .none, .none, .bool false, .none] }, g, d, t, os⟩) (hrest : rest.length ≤ sizeLine) :
    codeAny (model prog w) A (.builtin newId ⟨.ref C :: rest, kw⟩) R ⟨h, g, d, t, os⟩ := by
  have hends := F.ends
  have hcB : (Value.ref C :: bm).contains (.type B) = true := by rw [List.contains_cons, hT, F.hasB, Bool.or_true]
  have hcA : (Value.ref C :: bm).contains (.type "AttributeError") = false := by rw [List.contains_cons, hT, F.noAttr]; rfl
  have hcN : (Value.ref C :: bm).contains (.type "NameError") = false := by rw [List.contains_cons, hT, F.noName]; rfl
  refine codeAny_builtinAt F.entry ?_
  unfold Builtin.«BaseException.__new__»
  refine wpAt_bind ?_
  show wpAt _ _ _ (stack >>= _) _ _ _
  refine wpAt_bind (wpAt_stack fun p below => wpAt_of_wpAny ?_)
  wp_walk
  refine wpAt_of_wpAny ?_
  rw [F.owner]
  repeat (first | with_reducible refine wpAny_madeHere_exc F.canon hC ?_ | with_reducible refine wpAny_loadPart_at hC ?_ | (with_reducible refine wpAny_isSubtype_exc hC ?_; first | rw [hcB] | rw [hcA] | rw [hcN]) | wp_step)
  show R _ _
  rw [Heap.size_push]
  exact hq
theorem type_call_kw (F : ExcBaseFacts B newId initId bmB) (hT : ∀ X : String, bm.contains (.type X) = bmB.contains (.type X)) {fI : Addr} {Q : Fin → Shared → Prop}
    (hC : h.get? C = some (excClassObj nm q C N bs bm hdct sn sub ab col dd k0 k1 k2 k3 k5 newId))
    (hi : W.Looks (model prog w) h (typeLookup (.ref C) "__init__") (some (.ref fI))) (hb : ∀ self, W.Looks (model prog w) h (bindSpecial (.ref fI) self) (.ref fI, [self])) (hrest : rest.length ≤ sizeLine)
    (hq : codeAny (model prog w) A (.call (.ref fI) ⟨.ref (h.objs.size + 1) :: rest, kw⟩)
      (fun r s' => match r with | .ok (.ret v) => v = .none ∧ Q (.done (.ret (.ref (h.objs.size + 1)))) s' | .ok _ => False | .error e => E e s')
      ⟨(h.push (W.kdv_tup rest)).push (excO C h.objs.size), g, d, t, os⟩) :
    wpAny (model prog w) A (Builtin.«type.__call__» ⟨.ref C :: rest, kw⟩) Q E ⟨h, g, d, t, os⟩ := by
  repeat (first | with_reducible refine wpAny_loadPart_at hC ?_ | with_reducible refine wpAny_madeBy_exc hC ?_ | wp_step)
  refine codeAny_call_builtin_code (Code.quiet_builtin _ F.quiet) (check_new_kw F hT hC ?_)
  refine new_kw F hT hC ?_ hrest
  show wpAny _ _ _ _ _ _
  have k : ∀ b o, h.get? b = some o → ((h.push (W.kdv_tup rest)).push (excO C h.objs.size)).get? b = some o := fun b o e => Heap.get?_push_of_some _ (Heap.get?_push_of_some _ e)
  have hC₁ := k _ _ hC
  have hget : ((h.push (W.kdv_tup rest)).push (excO C h.objs.size)).get? (h.objs.size + 1) = some (excO C h.objs.size) := by heap_get
  have hcC : (Value.ref C :: bm).contains (.ref C) = true := by simp
  have i1 := hi.keeps k
  have b1 := (hb (.ref (h.objs.size + 1))).keeps k
  unfold isInstance
  repeat (first | with_reducible refine wpAny_loadPart_at hget ?_ | (with_reducible refine wpAny_isSubtype_exc hC₁ ?_; rw [hcC]) | wp_step)
  show wpAny _ _ (typeLookup (.ref C) _) _ _ _
  refine i1.at ?_
  refine wpAny_holding (wpAny_bind (b1.at ?_))
  refine wpAny_bind (wpAny_call (codeAny_mono hq fun r s' z => ?_))
  rcases r with e | (v | _ | _ | _) <;> first | exact z | exact z.elim | skip
  obtain ⟨rfl, z⟩ := z
  first
    | exact wpAny_pure (wpAny_pure z)
    | (wp_walk; exact z)
theorem call_kw (F : ExcBaseFacts B newId initId bmB) (hT : ∀ X : String, bm.contains (.type X) = bmB.contains (.type X)) {fI : Addr}
    (hC : h.get? C = some (excClassObj nm q C N bs bm hdct sn sub ab col dd k0 k1 k2 k3 k5 newId))
    (hi : W.Looks (model prog w) h (typeLookup (.ref C) "__init__") (some (.ref fI))) (hb : ∀ self, W.Looks (model prog w) h (bindSpecial (.ref fI) self) (.ref fI, [self])) (hrest : rest.length ≤ sizeLine)
    (hq : codeAny (model prog w) (A.under (.builtin "type.__call__" ⟨.ref C :: rest, kw⟩)) (.call (.ref fI) ⟨.ref (h.objs.size + 1) :: rest, kw⟩) (W.InitBack (h.objs.size + 1) R)
      ⟨(h.push (W.kdv_tup rest)).push (excO C h.objs.size), g, d, t, os⟩) :
    codeAny (model prog w) A (.call (.ref C) ⟨rest, kw⟩) R ⟨h, g, d, t, os⟩ := by
  have f1 := tc_lookup
  have f2 := tc_bind (.ref C)
  have hTy : (⟨h, g, d, t, os⟩ : Shared).TypeIs (.ref C) "type" := ⟨_, hC, rfl⟩
  refine codeAny_of_tree ?_
  show wpAny _ _ (callAny (.ref C) _) _ _ _
  repeat (any_goals (first | assumption | with_reducible refine wpAny_loadPart_at hC ?_ | wp_step))
  refine ⟨rfl, ?_⟩
  refine codeAny_call_builtin_at (Code.quiet_builtin _ (by decide +kernel)) entry_typeCall (wpAny_check_type_call_sub hC (type_call_kw F hT hC hi hb hrest ?_))
  refine codeAny_mono hq fun r s' z => ?_
  rcases r with e | (v | _ | _ | _) <;> exact z
end
end PySem.HandSPX
/-! Z9: errors made: C(e), C(f=e), __init__ storing its one parameter; C() without an own __init__. -/
namespace L2
open PySem PySem.Spec PyProof.Rows
/-- what __init__(self, f): self.f = f does -/
def spI (C : Addr) (f : Str) : Sp := fun vs H Q _ => ∃ (a : Addr) (y : V), vs = [.ref a, y] ∧ H a = some (exo a C none) ∧ ∀ dx, H dx = none → dx ≠ a → Q .non (upd (upd H dx (exd dx [(f, y)])) a (exo a C (some dx)))
/-- an error class whose __init__ stores its one parameter -/
structure InitOf (K : PySem.W.Frag) (C fI : Addr) (f : Str) (fd : FuncData) : Prop where
  o : OexC K C
  i : PySem.W.findIn K (.ref C) "__init__" = some (some (.ref fI))
  t : PySem.W.typeIn K (.ref fI) = some (.type "function")
  no : PySem.W.findIn K (.ref C) f = some none
  ex : ∃ (st : Stmt) (qual : Str) (p1 p2 p3 pos : Pos), Fun K "__init__" qual st fI fd ∧ defBody st = [.Assign [.Attribute (.Name "self" p1) f p2] (.Name f p3) pos] ∧ FnScope ["self", f] ["self", f] (defScope st)
  b : Binds K fd ["self", f] []
  kw : ∀ (s : Shared) (a v : Value), BindsTo s fd ⟨[a], [(f, v)]⟩ [("self", a), (f, v)]
  d1 : (f == ("__debug__" : Str)) = false
  d2 : (f == ("__classdict__" : Str)) = false
section
variable {P : Program} {w : World} {K : PySem.W.Frag} {mg : Str → Option Value} {base : Heap} {C fI : Addr} {f : Str} {fd : FuncData} {k : Nat}
theorem init_fn (T : InitOf K C fI f fd) : FnOk P w K mg base CX0 (k + 1) fI fd ["self", f] (spI C f) := by
  obtain ⟨st, qual, p1, p2, p3, pos, F, hb, S⟩ := T.ex
  refine Fun.ok F S (fun vs H Q E h => by obtain ⟨a, y, rfl, _⟩ := h; rfl) fun cdv A outer s H vs Q E hr hsp => ?_
  obtain ⟨a, y, rfl, ha, q⟩ := hsp
  have vis : ∀ x ∈ [("self" : Str), f], Vis (defScope st) x := fun x hx => (S.par x hx).imp id .inl
  refine ⟨_, by rw [hb]; exact pss_cons (ps_ost (pe_var (i := 0) (x := "self") rfl (vis _ (.head _))) (pe_var (i := 1) (x := f) rfl (vis _ (.tail _ (.head _))) T.d1 T.d2)) pss_nil, ?_⟩
  exact ⟨y, rfl, .ref a, rfl, a, C, rfl, T.o, T.no, .inl ⟨ha, fun dx h1 h2 => q dx h1 h2⟩⟩
end
section
variable {X : Cx} {C fI : Addr} {f : Str} {fd : FuncData} {k : Nat} {x : Str} {p pos : Pos} {e : Expr} {te : TE}
theorem del_upd {H1 : Hp} {a dx : Addr} {o1 o2 o3 o4 : HO} (n : H1 a = none) (ne : dx ≠ a) : upd (del (upd (upd (upd H1 a o1) dx o2) a o3) a) dx o4 = upd H1 dx o4 := by
  funext b
  by_cases hb : b = dx
  · rw [hb, upd_same, upd_same]
  · rw [upd_ne hb, upd_ne hb]
    by_cases ha : b = a
    · rw [ha, del_same, n]
    · rw [del_ne ha, upd_ne ha, upd_ne hb, upd_ne ha]
/-- what is asked of the making: the value, a new dict for it -/
theorem mk_wish {vs : List V} {y : V} {H1 : Hp} {Q : XK} (hv : vs = [y]) (q : ∀ dx, H1 dx = none → Q (.ref C) (some dx) (upd H1 dx (.xd [(f, y)]))) :
    vs.length ≤ 1000 ∧ ∀ a, H1 a = none → spI C f (.ref a :: (vs ++ [])) (upd H1 a (exo a C none)) (fun v H2 => v = .non ∧ ∃ (d : Addr) (fs : List (Str × V)), H2 a = some (exo a C (some d)) ∧ H2 d = some (exd d fs) ∧ H1 d = none ∧ Q (.ref C) (some d) (upd (del H2 a) d (.xd fs))) (fun _ _ _ => False) := by
  subst hv
  refine ⟨by simp, fun a n => ⟨a, y, rfl, upd_same, fun dx h1 h2 => ⟨rfl, dx, [(f, y)], upd_same, ?_, ?_, ?_⟩⟩⟩
  · rw [upd_ne h2, upd_same]
  · rw [upd_ne h2] at h1; exact h1
  · rw [del_upd n h2]
    rw [upd_ne h2] at h1
    exact q dx h1
/-- C(e) -/
theorem pmk_err {ta : TA} (T : InitOf X.K C fI f fd) (hr : Room (k + 2) X.A) (hg : Gl X x) (hm : X.mg x = some (.ref C)) (ha : PA X [e] ta) (hdb : (x == ("__debug__" : Str)) = false)
    (he : starEach [e] X.env = (false, eval e X.env) :: starEach [] X.env) : PMk X (.Call (.Name x p) [e] [] pos) (tMkO C (spI C f) [] ta) :=
  pmk_oex (k := k + 1) T.o T.i T.t (init_fn (k := k) T) hr T.b .nil pass0 hg hm ha hdb he rfl
/-- C(f=e) -/
theorem pmk_errK {tk : TA} {kws : List Keyword} (T : InitOf X.K C fI f fd) (hr : Room (k + 2) X.A) (hg : Gl X x) (hm : X.mg x = some (.ref C)) (hkw : PK X kws tk) (hdb : (x == ("__debug__" : Str)) = false)
    (n1 : (backToKw pos (keywordEach kws X.env)).all (·.1.isSome) = true) (n2 : (backToKw pos (keywordEach kws X.env)).filterMap (·.1) = [f]) (n3 : (backToKw pos (keywordEach kws X.env)).any (·.1.isNone) = false) :
    PMk X (.Call (.Name x p) [] kws pos) (tMkO C (spI C f) [] tk) := by
  intro pins s σ H Q I h
  obtain ⟨nm, q, N, bs, bm, sn, sub, ab, col, dd, k0, k1, k2, k3, k5, hC, hbm⟩ := T.o.cls
  refine wpAny_Call_Name_kw (ld_glob I hg hm ?_ hdb)
  refine PySem.W.callWith_KW0 (h₀ := X.base) I.ok.mod.kin T.o.kC n1 ?_ (by rw [n3]; rfl)
  refine thn (hkw.run pos pins s σ H _ I h) fun ws s1 ⟨vs, H1, I1, r1, hz, q1⟩ => ⟨I1.kIn, ?_⟩
  rw [n2]
  have hn0 := q1 s1.heap.objs.size (I1.hok.fresh (Nat.le_refl _))
  obtain ⟨a0, y, ev, _⟩ := hn0
  have hv : vs = [y] := by
    have := (List.cons.inj ev).2
    rw [List.append_nil] at this
    exact this
  subst hv
  obtain ⟨v, rfl, rv⟩ := r1.one
  show wpAny _ _ (call (.ref C) [] [(f, v)]) _ _ _
  obtain ⟨hp, g, dr, tk1, os⟩ := s1
  have hsz : hp.objs.size ≤ hp.objs.size + 1 := Nat.le_succ _
  have hn : H1 (hp.objs.size + 1) = none := I1.hok.fresh hsz
  have hq := q1 (hp.objs.size + 1) hn
  have kk : ∀ b o, hp.get? b = some o → ((hp.push (PySem.W.kdv_tup [])).push (PySem.HandSPX.excO C hp.objs.size)).get? b = some o := fun b o e => Heap.get?_push_of_some _ (Heap.get?_push_of_some _ e)
  have hget : ((hp.push (PySem.W.kdv_tup [])).push (PySem.HandSPX.excO C hp.objs.size)).get? (hp.objs.size + 1) = some (PySem.HandSPX.excO C hp.objs.size) := by heap_get
  have I2 : Inv X pins σ (upd H1 (hp.objs.size + 1) (exo (hp.objs.size + 1) C none)) ⟨(hp.push (PySem.W.kdv_tup [])).push (PySem.HandSPX.excO C hp.objs.size), g, dr, tk1, os⟩ :=
    I1.laid (t' := tk1) (a := hp.objs.size + 1) (o := exo (hp.objs.size + 1) C none) (h' := (hp.push (PySem.W.kdv_tup [])).push (PySem.HandSPX.excO C hp.objs.size)) kk hsz (exo_ok hget)
  have r2 : Vals [V.ref (hp.objs.size + 1), y] [Value.ref (hp.objs.size + 1), v] := .cons rfl (.cons rv .nil)
  refine wpAny_call (PySem.HandSPX.call_kw F.excBase_ValueError (fun Y => PySem.HandSPX.refsVE_contains Y bm hbm) (I1.kIn _ _ hC) (PySem.W.looks_findIn I1.kIn T.i) (fun self => PySem.W.bind_fn I1.kIn self T.t) (Nat.zero_le _)
    (codeAny_mono ((init_fn (k := k) T).run _ X.stack _ _ ⟨[Value.ref (hp.objs.size + 1)], [(f, v)]⟩ [Value.ref (hp.objs.size + 1), v] _ _ (fun _ _ _ => False) (hr.make C [] [(f, v)]) (I2.env0.make C [] [(f, v)]) (T.kw _ _ _) r2 hq) fun r s' hq' => ?_))
  cases r with
  | error er => exact (pass0 (X := X)) pins σ _ _ er s' I2 hq'
  | ok fl =>
    cases fl with
    | ret u =>
      obtain ⟨v, H2, os2, bare2, un2, hok2, rv, ev, d, fs, ea, ed, hd1, q2⟩ := hq'
      subst ev
      obtain ⟨h2, g2, d2, t2, os'⟩ := s'
      exact ⟨rv, mk_end (raises_own T.o.exC T.o.tyC) I1 hsz kk un2 hok2 os2 bare2 ea ed hd1 q2⟩
    | next => exact False.elim hq'
    | brk => exact False.elim hq'
    | cont => exact False.elim hq'
/-- C() -/
theorem pmk_none {bmB : List Value} {B newId initId : String} (F : ExcBaseFacts B newId initId bmB) (q : PySem.W.excIn X.K C bmB newId = true) (gC : X.mg x = some (.ref C)) (kC : PySem.W.keepIn X.K (.ref C) = true) (r : Raises X (.ref C)) (hg : Gl X x) (hdb : (x == ("__debug__" : Str)) = false) :
    PMk X (.Call (.Name x p) [] [] pos) (fun _ H Q => Q (.ref C) none H) := by
  intro pins s σ H Q I h
  refine wpAny_Call_Name_kw (ld_glob I hg gC ?_ hdb)
  refine PySem.W.callWith_K0 I.kIn kC ?_
  obtain ⟨bm, N, nm, qn, bs, hdct, sn, sub, ab, col, dd, k0, k1, k2, k3, k5, mN, hC, hN, hni, T⟩ := exc_obj I.kIn q
  refine wpAny_call_exc_subT F T hC hN hni (fun h' e hm => ?_) (Nat.zero_le _)
  exact mk_of I hm r h (I.hok.gone hm.new)
end
end L2
/-! E1: a small evaluator of Python's pure part: values by value, changeable lists in a store. -/
namespace Ev2
open PySem

/-- the built-in classes that are asked for -/
inductive Ty where
  | str | int | bool | tup | lst | dct
  deriving DecidableEq

def Ty.nm : Ty → String
  | .str => "str" | .int => "int" | .bool => "bool" | .tup => "tuple" | .lst => "list" | .dct => "dict"

inductive D where
  | non
  | bl (b : Bool)
  | int (i : Int)
  | str (x : Str)
  | tup (xs : List D)
  | lst (xs : List D)
  /-- a list of the outside, read alone -/
  | rol (xs : List D)
  | ref (i : Nat)
  | ty (t : Ty)
  /-- a dict that does not change: its keys, their values -/
  | dct (ks : List Str) (vs : List D)
  /-- a dict of the store -/
  | dref (i : Nat)
  /-- an error that is held: its class, its fields -/
  | err (c : Str) (ks : List Str) (vs : List D)

/-- an object of the store -/
inductive SO where
  | lst (xs : List D)
  | dct (kvs : List (Str × D))

abbrev Store := List SO

inductive R (α : Type) where
  | ok (a : α) (S : Store)
  | exc (c : Str) (fs : List (Str × D)) (S : Store)
  | bad

def M (α : Type) := Store → R α

namespace M
def pu {α : Type} (a : α) : M α := fun S => .ok a S
def bad {α : Type} : M α := fun _ => .bad
def bnd {α β : Type} (m : M α) (f : α → M β) : M β := fun S => match m S with
  | .ok a S1 => f a S1
  | .exc c fs S1 => .exc c fs S1
  | .bad => .bad
def opt {α : Type} : Option α → M α
  | some a => pu a
  | none => bad
def get : M Store := fun S => .ok S S
end M
open M

abbrev Env := List (Option D)

/-! ### values -/
mutual
def toPy : D → Option PyData
  | .non => some .none
  | .bl b => some (.bool b)
  | .int i => some (.int i)
  | .str x => some (.str x)
  | .tup xs => (toPys xs).map PyData.tuple
  | .lst xs => (toPys xs).map PyData.list
  | .rol xs => (toPys xs).map PyData.list
  | .ref _ => none
  | .ty _ => none
  | .dct _ _ => none
  | .dref _ => none
  | .err _ _ _ => none
def toPys : List D → Option (List PyData)
  | [] => some []
  | d :: ds => match toPy d, toPys ds with
    | some p, some ps => some (p :: ps)
    | _, _ => none
end

/-! data with dicts in them -/
mutual
def toPyD : D → Option PyData
  | .non => some .none
  | .bl b => some (.bool b)
  | .int i => some (.int i)
  | .str x => some (.str x)
  | .tup xs => (toPysD xs).map PyData.tuple
  | .lst xs => (toPysD xs).map PyData.list
  | .rol _ => none
  | .ref _ => none
  | .ty _ => none
  | .dct ks vs => (toPysD vs).bind fun ps => if ks.length = ps.length then some (PyData.dict (List.zipWith (fun k p => (PyData.str k, p)) ks ps)) else none
  | .dref _ => none
  | .err _ _ _ => none
def toPysD : List D → Option (List PyData)
  | [] => some []
  | d :: ds => match toPyD d, toPysD ds with
    | some p, some ps => some (p :: ps)
    | _, _ => none
end

def lstAt (S : Store) (i : Nat) : Option (List D) := match S[i]? with
  | some (.lst xs) => some xs
  | _ => none

/-- a dict of the store -/
def dctAt (S : Store) (i : Nat) : Option (List (Str × D)) := match S[i]? with
  | some (.dct kvs) => some kvs
  | _ => none

/-- data behind a value, a changeable list on top at most -/
def pyOf (S : Store) : D → Option PyData
  | .ref i => (lstAt S i).bind fun xs => (toPys xs).map PyData.list
  | d => toPy d

/-- data behind a value, dicts too -/
def pyAny (S : Store) (d : D) : Option PyData := match toPyD d with
  | some p => some p
  | none => pyOf S d

/-- the items of a list or a tuple -/
def seqOf (S : Store) : D → Option (List D)
  | .tup xs => some xs
  | .lst xs => some xs
  | .rol xs => some xs
  | .ref i => lstAt S i
  | _ => none

/-- == of plain values -/
def eqS : D → D → Option Bool
  | .non, .non => some true
  | .bl a, .bl b => some (decide (a = b))
  | .int a, .int b => some (decide (a = b))
  | .str a, .str b => some (decide (a = b))
  | .non, .bl _ => some false
  | .non, .int _ => some false
  | .non, .str _ => some false
  | .bl _, .non => some false
  | .int _, .non => some false
  | .str _, .non => some false
  | .bl _, .str _ => some false
  | .int _, .str _ => some false
  | .str _, .bl _ => some false
  | .str _, .int _ => some false
  | _, _ => none

def eqDeep (S : Store) (d e : D) : Option Bool := match pyOf S d, pyOf S e with
  | some p, some q => if SeqAt.shaped p && SeqAt.shaped q then some (PyData.eqv p q) else none
  | _, _ => none

/-- a tuple beside the empty one -/
def eqNil : D → D → Option Bool
  | .tup xs, .tup [] => some xs.isEmpty
  | _, _ => none

def eqD (S : Store) (d e : D) : Option Bool := match eqS d e with
  | some b => some b
  | none => match eqDeep S d e with
    | some b => some b
    | none => eqNil d e

/-- flat values, as «in» compares them -/
def flatD : D → Bool
  | .non => true
  | .bl _ => true
  | .int _ => true
  | .str _ => true
  | _ => false

def eqF : D → D → Bool
  | .non, .non => true
  | .bl a, .bl b => a == b
  | .bl a, .int b => (if a then 1 else 0) == b
  | .int a, .bl b => a == (if b then 1 else 0)
  | .int a, .int b => a == b
  | .str a, .str b => a == b
  | _, _ => false

def inF (x : D) (xs : List D) : Bool := xs.any fun y => eqF y x

def truth (S : Store) : D → Option Bool
  | .non => some false
  | .bl b => some b
  | .int i => some (i != 0)
  | .str x => if x.length ≤ sizeLine then some ((x.length : Int) != 0) else none
  | d => (seqOf S d).map fun xs => !xs.isEmpty

def tyOf : D → Option (Option Ty)
  | .non => some none
  | .bl _ => some (some .bool)
  | .int _ => some (some .int)
  | .str _ => some (some .str)
  | .tup _ => some (some .tup)
  | .lst _ => some (some .lst)
  | .rol _ => some (some .lst)
  | .ref _ => none
  | .ty _ => none
  | .dct _ _ => some (some .dct)
  | .dref _ => none
  | .err _ _ _ => none

def isTy (t : Option Ty) (u : Ty) : Bool := match t with
  | none => false
  | some a => a = u || (a = .bool && u = .int)

/-! ### operations -/
/-- a new list: in the store where it is to be changed later -/
def mkL (mu : Bool) (xs : List D) : M D := fun S =>
  if xs.length ≤ sizeLine then (if mu then .ok (.ref S.length) (S ++ [.lst xs]) else .ok (.lst xs) S) else .bad

def mkT (xs : List D) : M D := fun S => if xs.length ≤ sizeLine then .ok (.tup xs) S else .bad

def addOp (mu : Bool) (a b : D) : M D := match a, b with
  | .int i, .int j => pu (.int (i + j))
  | .str x, .str y => if x.length + y.length ≤ sizeLine then pu (.str (x ++ y)) else bad
  | .tup xs, .tup ys => if xs.length + ys.length ≤ sizeLine then pu (.tup (xs ++ ys)) else bad
  | .lst xs, .lst ys => mkL mu (xs ++ ys)
  | .ref i, .lst ys => fun S => match lstAt S i with
    | some xs => mkL mu (xs ++ ys) S
    | none => .bad
  | .lst xs, .ref j => fun S => match lstAt S j with
    | some ys => mkL mu (xs ++ ys) S
    | none => .bad
  | .ref i, .ref j => fun S => match lstAt S i, lstAt S j with
    | some xs, some ys => mkL mu (xs ++ ys) S
    | _, _ => .bad
  | _, _ => bad

def mulOp (mu : Bool) (a b : D) : M D := match a, b with
  | .int i, .int j => if i.natAbs.log2 + j.natAbs.log2 < 1000000 then pu (.int (i * j)) else bad
  | .tup xs, .int k => if xs ≠ [] ∧ 2 ≤ k ∧ k ≤ 1000 ∧ xs.length ≤ 1000 then pu (.tup (List.replicate k.toNat xs).flatten) else bad
  | .lst xs, .int k => if 0 ≤ k ∧ k ≤ 1000 ∧ xs.length ≤ 1000 then mkL mu (List.replicate k.toNat xs).flatten else bad
  | _, _ => bad

def binOp (mu : Bool) (op : Operator) (a b : D) : M D := match op with
  | .Add => addOp mu a b
  | .Sub => (match a, b with
    | .int i, .int j => pu (.int (i - j))
    | _, _ => bad)
  | .Mult => mulOp mu a b
  | .Mod => (match a, b with
    | .int i, .int j => if 0 < j then pu (.int (i % j)) else bad
    | _, _ => bad)
  | .FloorDiv => (match a, b with
    | .int i, .int j => if 0 < j ∧ j.natAbs.log2 < 9000 then pu (.int (i / j)) else bad
    | _, _ => bad)
  | .Pow => (match a, b with
    | .int i, .int j => if 0 ≤ j ∧ (Builtin.Int.intBits i : Int) * j ≤ 2 ^ 27 then pu (.int (i ^ j.toNat)) else bad
    | _, _ => bad)
  | _ => bad

/-- a in b, b a list of data of any depth -/
def inDeep (S : Store) (a b : D) : Option Bool := match pyOf S a, pyOf S b with
  | some p, some (.list qs) => if SeqAt.shaped p && SeqAt.shaped (.list qs) then some (qs.any fun z => PyData.eqv z p) else none
  | _, _ => none


def cmpOp (op : CmpOp) (a b : D) : M D := match op with
  | .Eq => fun S => match eqD S a b with
    | some r => .ok (.bl r) S
    | none => .bad
  | .NotEq => fun S => match eqD S a b with
    | some r => .ok (.bl (!r)) S
    | none => .bad
  | .Lt => (match a, b with
    | .int i, .int j => pu (.bl (decide (i < j)))
    | .str x, .str y => pu (.bl (decide (x.cps.toList < y.cps.toList)))
    | _, _ => bad)
  | .LtE => (match a, b with
    | .int i, .int j => pu (.bl (decide (i ≤ j)))
    | _, _ => bad)
  | .Gt => (match a, b with
    | .int i, .int j => pu (.bl (decide (j < i)))
    | .str x, .str y => pu (.bl (decide (y.cps.toList < x.cps.toList)))
    | _, _ => bad)
  | .GtE => (match a, b with
    | .int i, .int j => pu (.bl (decide (j ≤ i)))
    | _, _ => bad)
  | .Is => (match b with
    | .non => pu (.bl (match a with | .non => true | _ => false))
    | .bl y => (match a with
      | .bl x => pu (.bl (decide (x = y)))
      | _ => bad)
    | _ => bad)
  | .IsNot => (match b with
    | .non => pu (.bl (match a with | .non => false | _ => true))
    | .bl y => (match a with
      | .bl x => pu (.bl (!decide (x = y)))
      | _ => bad)
    | _ => bad)
  | .In => fun S => match seqOf S b with
    | some xs => if flatD a && xs.all flatD then .ok (.bl (inF a xs)) S else (match inDeep S a b with
      | some r => .ok (.bl r) S
      | none => .bad)
    | none => .bad
  | .NotIn => fun S => match seqOf S b with
    | some xs => if flatD a && xs.all flatD then .ok (.bl (!inF a xs)) S else (match inDeep S a b with
      | some r => .ok (.bl (!r)) S
      | none => .bad)
    | none => .bad

/-- a new dict: in the store where it is to be changed later -/
def mkD (mu : Bool) (ks : List Str) (vs : List D) : M D := fun S => if mu then .ok (.dref S.length) (S ++ [.dct (ks.zip vs)]) else .ok (.dct ks vs) S

/-- a pair stored in a dict -/
def putS (kvs : List (Str × D)) (k : Str) (v : D) : List (Str × D) :=
  if kvs.any (fun kv => decide (kv.1 = k)) then kvs.map (fun kv => if kv.1 = k then (kv.1, v) else kv) else kvs ++ [(k, v)]
def mergeS (kvs more : List (Str × D)) : List (Str × D) := more.foldl (fun acc kv => putS acc kv.1 kv.2) kvs
def lookS (kvs : List (Str × D)) (k : Str) : Option D := (kvs.find? fun kv => decide (kv.1 = k)).map (·.2)

/-- d[x] of a dict of the store -/
def drefIx (i : Nat) (b : D) : M D := fun S => match b with
  | .str x => (match (dctAt S i).bind fun kvs => lookS kvs x with
    | some d => .ok d S
    | none => .bad)
  | _ => .bad

/-- a look into a dict -/
def dGet : List Str → List D → Str → Option D
  | k :: ks, v :: vs, x => if k = x then some v else dGet ks vs x
  | _, _, _ => none

/-- d[x] of a dict -/
def dixOp (ks : List Str) (vs : List D) (b : D) : M D := match b with
  | .str x => (match dGet ks vs x with
    | some d => pu d
    | none => bad)
  | _ => bad

def textsOf : List D → Option (List Str)
  | [] => some []
  | .str x :: ds => (textsOf ds).map fun xs => x :: xs
  | _ :: _ => none

/-- dict(zip(xs, ys)) of two tuples -/
def dzOp : List D → M D
  | [.tup xs, .tup ys] => (match textsOf xs with
    | some ks => if ks.length = ys.length ∧ ks.Nodup then pu (.dct ks ys) else bad
    | none => bad)
  | _ => bad

def ixOp (a b : D) : M D := match a, b with
  | .str x, .int i => if x.length ≤ sizeLine then (match L2.atI x.cps.toList i with
    | some c => pu (.str ⟨#[c]⟩)
    | none => bad) else bad
  | a, .int i => fun S => match seqOf S a with
    | some xs => (match L2.atI xs i with
      | some d => .ok d S
      | none => .bad)
    | none => .bad
  | _, _ => bad

/-- a[b] -/
def ixD (a b : D) : M D := match a with
  | .dct ks vs => dixOp ks vs b
  | .dref i => drefIx i b
  | a => ixOp a b

def cutD (xs : List D) (lo hi : Option Int) : List D :=
  (xs.drop (HT.sIx xs.length 0 lo)).take (HT.sIx xs.length xs.length hi - HT.sIx xs.length 0 lo)

def slOp (mu : Bool) (a : D) (lo hi : Option Int) : M D := match a with
  | .tup xs => pu (.tup (cutD xs lo hi))
  | .str z => if z.length ≤ sizeLine then pu (.str (L2.cutS z lo hi)) else bad
  | .lst xs => mkL mu (cutD xs lo hi)
  | .ref i => fun S => match lstAt S i with
    | some xs => mkL mu (cutD xs lo hi) S
    | none => .bad
  | _ => bad

/-- x[::-1] -/
def isRev : Option Expr → Option Expr → Expr → Bool
  | none, none, .UnaryOp .USub (.Constant (.int i) _ _) _ => decide (i = 1)
  | _, _, _ => false
def revOp (mu : Bool) : D → M D
  | .tup xs => pu (.tup xs.reverse)
  | .lst xs => mkL mu xs.reverse
  | _ => bad

def negOp : D → M D
  | .int i => pu (.int (-i))
  | _ => bad

def notOp (a : D) : M D := fun S => match truth S a with
  | some b => .ok (.bl (!b)) S
  | none => .bad

def boolsOf : List D → Option (List Bool)
  | [] => some []
  | .bl b :: ds => (boolsOf ds).map fun bs => b :: bs
  | _ :: _ => none

def intsOf : List D → Option (List Int)
  | [] => some []
  | .int b :: ds => (intsOf ds).map fun bs => b :: bs
  | _ :: _ => none

inductive Blt where
  | len | tuple | list | all | any | sum | max | min | abs | int | repr | isi | str
  deriving DecidableEq

def bltTable : List (Str × Blt) := [("len", .len), ("tuple", .tuple), ("list", .list), ("all", .all), ("any", .any), ("sum", .sum), ("max", .max),
  ("min", .min), ("abs", .abs), ("int", .int), ("repr", .repr), ("isinstance", .isi), ("str", .str)]

def tyTable : List (Str × Ty) := [("str", .str), ("int", .int), ("bool", .bool), ("tuple", .tup), ("list", .lst), ("dict", .dct)]

/-- list or frozen list alone (no tuple) -/
def listOf (S : Store) : D → Option (List D)
  | .lst xs => some xs
  | .rol xs => some xs
  | .ref i => lstAt S i
  | _ => none

def minI (n : Int) : List Int → Int
  | [] => n
  | m :: ns => minI (if m < n then m else n) ns


def callB (mu : Bool) (f : Blt) (as : List D) : M D := match f, as with
  | .len, [.str x] => if x.length ≤ sizeLine then pu (.int x.length) else bad
  | .len, [.dref i] => fun S => match dctAt S i with
    | some kvs => .ok (.int kvs.length) S
    | none => .bad
  | .len, [a] => fun S => match seqOf S a with
    | some xs => .ok (.int xs.length) S
    | none => .bad
  | .tuple, [a] => fun S => match seqOf S a with
    | some xs => .ok (.tup xs) S
    | none => .bad
  | .list, [a] => fun S => match seqOf S a with
    | some xs => mkL mu xs S
    | none => .bad
  | .all, [a] => fun S => match (listOf S a).bind boolsOf with
    | some bs => .ok (.bl (bs.all id)) S
    | none => .bad
  | .any, [a] => fun S => match (listOf S a).bind boolsOf with
    | some bs => .ok (.bl (bs.any id)) S
    | none => .bad
  | .sum, [a] => fun S => match (listOf S a).bind intsOf with
    | some ns => .ok (.int ns.sum) S
    | none => .bad
  | .max, [.int i, .int j] => pu (.int (if j > i then j else i))
  | .min, [.int i, .int j] => pu (.int (if j < i then j else i))
  | .min, [a] => fun S => match (listOf S a).bind intsOf with
    | some (n :: ns) => .ok (.int (minI n ns)) S
    | _ => .bad
  | .abs, [.int i] => pu (.int (if i < 0 then -i else i))
  | .int, [.int i] => pu (.int i)
  | .int, [.bl b] => pu (.int (if b then 1 else 0))
  | .str, [.str x] => pu (.str x)
  | .str, [a] => fun S => match pyAny S a with
    | some p => if p.showable && decide (p.shown.length ≤ sizeLine) && decide (p.depth ≤ 64) then .ok (.str p.shown) S else .bad
    | none => .bad
  | .repr, [a] => fun S => match pyAny S a with
    | some p => if p.showable && decide (p.shown.length ≤ sizeLine) && decide (p.depth ≤ 64) then .ok (.str p.shown) S else .bad
    | none => .bad
  | .isi, [a, .ty u] => (match tyOf a with
    | some t => pu (.bl (isTy t u))
    | none => bad)
  | _, _ => bad

/-- t.index(x) on a tuple of plain values -/
def indexOf (x : D) : List D → Nat → Option Nat
  | [], _ => none
  | y :: ys, k => if eqF y x then some k else indexOf x ys (k + 1)

def append1 (p : Nat) (v : D) : M D := fun S => match lstAt S p with
  | some xs => if xs.length < sizeLine then .ok .non (S.set p (.lst (xs ++ [v]))) else .bad
  | none => .bad

def extend1 (p : Nat) (v : D) : M D := fun S => match lstAt S p, v with
  | some xs, .lst ys => if xs.length + ys.length ≤ sizeLine then .ok .non (S.set p (.lst (xs ++ ys))) else .bad
  | some xs, .tup ys => if xs.length + ys.length ≤ sizeLine then .ok .non (S.set p (.lst (xs ++ ys))) else .bad
  | _, _ => .bad

/-- d.update(e), e a dict that does not change -/
def update1 (p : Nat) (v : D) : M D := fun S => match dctAt S p, v with
  | some kvs, .dct ks vs => if kvs.length + ks.length ≤ sizeLine then .ok .non (S.set p (.dct (mergeS kvs (ks.zip vs)))) else .bad
  | _, _ => .bad

/-- d.get(x) -/
def get1 (o x : D) : M D := fun S => match o, x with
  | .dct ks vs, .str z => .ok ((dGet ks vs z).getD .non) S
  | .dref i, .str z => (match dctAt S i with
    | some kvs => .ok ((lookS kvs z).getD .non) S
    | none => .bad)
  | _, _ => .bad

inductive Mth where
  | append | extend | update | get
  deriving DecidableEq

def mthTable : List (Str × Mth) := [("append", .append), ("extend", .extend), ("update", .update), ("get", .get)]

/-- o.m(d) of a list of the store -/
def methOp (m : Mth) (o d : D) : M D := match m, o with
  | .append, .ref p => append1 p d
  | .extend, .ref p => extend1 p d
  | .update, .dref p => update1 p d
  | .get, o => get1 o d
  | _, _ => bad

/-- an object of the store whose method is asked for -/
def chk (o : D) : M Unit := fun S => match o with
  | .ref i => (match lstAt S i with
    | some _ => .ok () S
    | none => .bad)
  | .dref i => (match dctAt S i with
    | some _ => .ok () S
    | none => .bad)
  | .dct _ _ => .ok () S
  | _ => .bad

/-- t.index(d) of a tuple of plain values -/
def indexOp (xs : List D) (d : D) : M D := if flatD d && xs.all flatD then (match indexOf d xs 0 with
  | some k => pu (.int k)
  | none => bad) else bad

/-! ### what a loop walks -/
inductive Src where
  | vals (xs : List D)
  | lref (i : Nat)

def ixOf : List Str → Str → Option Nat
  | [], _ => none
  | y :: ys, x => if y = x then some 0 else (ixOf ys x).map (· + 1)

/-! ### errors -/
/-- an error class of the text: the field that its __init__ stores, the classes that it is one of, whether it is called -/
structure ExI where
  fld : Option Str
  sup : List Str
  made : Bool
/-- isinstance(e, x), e a held error -/
def isX (exs : Str → Option ExI) (x : Str) (d : D) : M D := match d with
  | .err c _ _ => (match exs c with
    | some i => pu (.bl (i.sup.contains x || decide (x = "ValueError")))
    | none => bad)
  | _ => bad
/-- e.n, e a held error -/
def fldOp (exs : Str → Option ExI) (n : Str) (d : D) : M D := match d with
  | .err c ks vs => (match exs c with
    | some i => if i.fld = some n then (match dGet ks vs n with
      | some v => pu v
      | none => bad) else bad
    | none => bad)
  | _ => bad
/-- calls about errors -/
inductive Xt where
  | is (e : Expr) (x : Str) (p : Pos)
  | mk0 (x : Str)
  | mk1 (x f : Str) (e : Expr)
  | mkk (x f : Str) (e : Expr)

/-! ### the law's text as the evaluator sees it -/
structure Gx where
  /-- the module's constants -/
  consts : Str → Option D
  /-- names that are the built-ins' own -/
  blt : Str → Bool
  /-- which new lists are changed later, by the place in the text -/
  mu : Pos → Bool
  /-- the defs -/
  call : Str → Option (List D → List (Str × D) → M D)
  /-- defs without parameters that return a written tuple -/
  ctup : Str → Option (List D)
  /-- the module's dicts with text keys -/
  kd : Str → Option (List Str × List D)
  /-- the error classes -/
  exs : Str → Option ExI

/-- where an expression stands: all names of the def by slot; the scope -/
structure Cxt where
  N : List Str
  sc : Scope
  /-- captured names that are stored to here -/
  fn : Str → Bool

/-- where the block of a comprehension stands -/
def Cxt.blk (C : Cxt) (scope : Scope) : Cxt := ⟨C.N, L2.relS scope C.sc, fun x => scope.names.lookup x == some .cell⟩

structure Rec where
  E : Cxt → Expr → Env → M D
  T : Cxt → Expr → Env → M Bool

def isVis (sc : Scope) (x : Str) : Bool := match sc.names.lookup x with
  | some .local => true
  | some .cell => true
  | some .free => true
  | _ => false

def isGl (sc : Scope) (x : Str) : Bool := match sc.names.lookup x with
  | some .globalImplicit => true
  | _ => false

def odd (x : Str) : Bool := x == ("__debug__" : Str) || x == ("__classdict__" : Str) || x == ("__name__" : Str)

def getVar (G : Gx) (C : Cxt) (x : Str) (ρ : Env) : M D :=
  if odd x then bad
  else if isVis C.sc x then (match ixOf C.N x with
    | some i => (match ρ[i]? with
      | some (some d) => pu d
      | _ => bad)
    | none => bad)
  else if isGl C.sc x then (match G.consts x with
    | some d => pu d
    | none => if G.blt x then (match tyTable.lookup x with
      | some t => pu (.ty t)
      | none => bad) else bad)
  else bad

def isStar : Expr → Bool
  | .Starred _ _ => true
  | _ => false

def sqM (d : D) : M (List D) := fun S => match seqOf S d with
  | some xs => .ok xs S
  | none => .bad

def evA (G : Gx) (r : Rec) (C : Cxt) (ρ : Env) : List Expr → M (List D)
  | [] => pu []
  | .Starred e _ :: es => bnd (r.E C e ρ) fun d => bnd (sqM d) fun xs => bnd (evA G r C ρ es) fun ds => pu (xs ++ ds)
  | e :: es => bnd (r.E C e ρ) fun d => bnd (evA G r C ρ es) fun ds => pu (d :: ds)

def evKw (G : Gx) (r : Rec) (C : Cxt) (ρ : Env) : List Keyword → M (List (Str × D))
  | [] => pu []
  | ⟨some n, e, _⟩ :: ks => bnd (r.E C e ρ) fun d => bnd (evKw G r C ρ ks) fun ds => pu ((n, d) :: ds)
  | ⟨none, _, _⟩ :: _ => bad

/-- an index that is no slice -/
def plainIx : Expr → Bool
  | .Slice _ _ _ _ => false
  | _ => true

def evPart (r : Rec) (C : Cxt) (ρ : Env) : Option Expr → M (Option Int)
  | none => pu none
  | some e => bnd (r.E C e ρ) fun d => match d with
    | .int i => pu (some i)
    | _ => bad

/-! targets -/
def setVar (C : Cxt) (x : Str) (d : D) (ρ : Env) : Option Env :=
  match C.sc.names.lookup x with
  | some .local => (ixOf C.N x).map fun i => ρ.set i (some d)
  | some .cell => if C.fn x then (ixOf C.N x).map fun i => ρ.set i (some d) else none
  | _ => none

def setAll (C : Cxt) : List Expr → List D → Env → Option Env
  | [], [], ρ => some ρ
  | .Name x _ :: ts, d :: ds, ρ => (setVar C x d ρ).bind fun ρ1 => setAll C ts ds ρ1
  | _, _, _ => none

/-- what a, b = d takes apart -/
def unT : D → Option (List D)
  | .tup ds => some ds
  | .lst ds => some ds
  | _ => none

def setTgt (C : Cxt) : Expr → D → Env → Option Env
  | .Name x _, d, ρ => setVar C x d ρ
  | .Tuple (.Tuple us _ _ :: ts) _ _, d, ρ => (unT d).bind fun ds => (match ds with
    | d0 :: ds => (unT d0).bind fun es => (setAll C us es ρ).bind fun ρ1 => setAll C ts ds ρ1
    | [] => none)
  | .Tuple ts _ _, d, ρ => (unT d).bind fun ds => setAll C ts ds ρ
  | _, _, _ => none

def setItemOp (o i v : D) : M Unit := match o, i with
  | .ref p, .int k => fun S => match lstAt S p with
    | some xs => (match L2.ixN xs.length k with
      | some j => .ok () (S.set p (.lst (xs.set j v)))
      | none => .bad)
    | none => .bad
  | .dref p, .str z => fun S => match dctAt S p with
    | some kvs => if kvs.length < sizeLine then .ok () (S.set p (.dct (putS kvs z v))) else .bad
    | none => .bad
  | _, _ => bad

def isTupE : Expr → Bool
  | .Tuple _ _ _ => true
  | _ => false

/-! what a for or a comprehension goes over -/
def srcOf : D → M Src
  | .tup xs => pu (.vals xs)
  | .lst xs => pu (.vals xs)
  | .rol xs => pu (.vals xs)
  | .ref i => fun S => match lstAt S i with
    | some _ => .ok (.lref i) S
    | none => .bad
  | _ => bad

def iterVal (m : M D) : M Src := bnd m srcOf

def rangeSrc : D → M Src
  | .int n => if n < 2 ^ 62 ∧ -(2 ^ 62) ≤ n then pu (.vals ((List.range n.toNat).map fun (k : Nat) => D.int (k : Int))) else bad
  | _ => bad

def zipSrc : D → D → M Src
  | .tup xs, .tup ys => pu (.vals (List.zipWith (fun p q => D.tup [p, q]) xs ys))
  | .lst xs, .lst ys => pu (.vals (List.zipWith (fun p q => D.tup [p, q]) xs ys))
  | .lst xs, .tup ys => pu (.vals (List.zipWith (fun p q => D.tup [p, q]) xs ys))
  | _, _ => bad

def evRange (r : Rec) (C : Cxt) (ρ : Env) : List Expr → M Src
  | [a] => if isStar a then bad else bnd (r.E C a ρ) rangeSrc
  | _ => bad

def evZip (r : Rec) (C : Cxt) (ρ : Env) (tg : Expr) : List Expr → M Src
  | [a, b] => if isStar a || isStar b || !isTupE tg then bad else bnd (r.E C a ρ) fun x => bnd (r.E C b ρ) fun y => zipSrc x y
  | _ => bad

/-- enumerate(x) -/
def enumSrc : D → M Src
  | .tup xs => pu (.vals (xs.zipIdx.map fun p => D.tup [.int (p.2 : Nat), p.1]))
  | .lst xs => pu (.vals (xs.zipIdx.map fun p => D.tup [.int (p.2 : Nat), p.1]))
  | _ => bad

def evEnum (r : Rec) (C : Cxt) (ρ : Env) (tg : Expr) : List Expr → M Src
  | [a] => if isStar a || !isTupE tg then bad else bnd (r.E C a ρ) enumSrc
  | _ => bad

def evIter (G : Gx) (r : Rec) (C : Cxt) (ρ : Env) (tg : Expr) : Expr → M Src
  | .Call (.Name f p) as [] pos =>
    if f = "range" ∧ isGl C.sc f ∧ G.blt f then evRange r C ρ as
    else if f = "zip" ∧ isGl C.sc f ∧ G.blt f then evZip r C ρ tg as
    else if f = "enumerate" ∧ isGl C.sc f ∧ G.blt f then evEnum r C ρ tg as
    else iterVal (r.E C (.Call (.Name f p) as [] pos) ρ)
  | e => iterVal (r.E C e ρ)

/-- a step for each item; the items of a list in the store are read at their turn -/
def goVals {β : Type} (f : D → β → M β) : List D → β → M β
  | [], b => pu b
  | d :: ds, b => bnd (f d b) fun b1 => goVals f ds b1

def goRef {β : Type} (f : D → β → M β) (i : Nat) : Nat → Nat → β → M β
  | 0, _, _ => bad
  | n + 1, k, b => fun S => match lstAt S i with
    | some xs => (match xs[k]? with
      | some d => bnd (f d b) (fun b1 => goRef f i n (k + 1) b1) S
      | none => .ok b S)
    | none => .bad

def goSrc {β : Type} (f : D → β → M β) (s : Src) (b : β) : M β := match s with
  | .vals xs => goVals f xs b
  | .lref i => fun S => match lstAt S i with
    | some xs => goRef f i (xs.length + 1) 0 b S
    | none => .bad

/-- the slots of a comprehension's own names -/
def ownOf (N : List Str) : List (Str × NameKind) → List (Str × Nat)
  | [] => []
  | (x, .local) :: r => (match ixOf N x with
    | some i => (x, i) :: ownOf N r
    | none => ownOf N r)
  | (x, .cell) :: r => (match ixOf N x with
    | some i => (x, i) :: ownOf N r
    | none => ownOf N r)
  | _ :: r => ownOf N r

def wipeE (ρ : Env) : List Nat → Env
  | [] => ρ
  | v :: vs => (wipeE ρ vs).set v none

def evTests (r : Rec) (C : Cxt) (ρ : Env) : List Expr → M Bool
  | [] => pu true
  | [e] => r.T C e ρ
  | _ => bad

/-- the slots that a target stores to -/
def slotsOf (N : List Str) : List Expr → List Nat
  | [] => []
  | .Name x _ :: ts => (match ixOf N x with
    | some i => [i]
    | none => []) ++ slotsOf N ts
  | _ :: ts => slotsOf N ts
def slotsT (N : List Str) : Expr → List Nat
  | .Name x _ => (match ixOf N x with
    | some i => [i]
    | none => [])
  | .Tuple (.Tuple us _ _ :: ts) _ _ => slotsOf N us ++ slotsOf N ts
  | .Tuple ts _ _ => slotsOf N ts
  | _ => []

def isSetE : Expr → Bool
  | .Set _ _ _ => true
  | _ => false

def compB (G : Gx) (r : Rec) (C : Cxt) (elt tg : Expr) (ifs : List Expr) (scope : Scope) (ρ : Env) (d : D) (acc : List D) : M (List D) :=
  match setTgt (C.blk scope) tg d (wipeE ρ ((ownOf C.N scope.names).map (·.2))) with
  | some ρ1 => bnd (evTests r (C.blk scope) ρ1 ifs) fun b =>
      if b then bnd (r.E (C.blk scope) elt ρ1) fun v => if acc.length < sizeLine then pu (acc ++ [v]) else bad
      else pu acc
  | none => bad

def evComp (G : Gx) (r : Rec) (C : Cxt) (elt tg iter : Expr) (ifs : List Expr) (scope : Scope) (pos : Pos) (ρ : Env) : M D :=
  if L2.blkC C.N C.sc scope (ownOf C.N scope.names) && !isSetE iter && (slotsT C.N tg).all (fun i => ((ownOf C.N scope.names).map (·.2)).contains i) then
    bnd (evIter G r C ρ tg iter) fun s => bnd (goSrc (compB G r C elt tg ifs scope ρ) s []) fun xs => mkL (G.mu pos) xs
  else bad

/-- two fors in a comprehension: the inner one -/
def compB1 (r : Rec) (C : Cxt) (elt tg1 : Expr) (ifs1 : List Expr) (scope : Scope) (ρ1 : Env) (d : D) (acc : List D) : M (List D) :=
  match setTgt (C.blk scope) tg1 d (wipeE ρ1 (slotsT C.N tg1)) with
  | some ρ2 => bnd (evTests r (C.blk scope) ρ2 ifs1) fun b =>
      if b then bnd (r.E (C.blk scope) elt ρ2) fun v => if acc.length < sizeLine then pu (acc ++ [v]) else bad
      else pu acc
  | none => bad
def compB2 (G : Gx) (r : Rec) (C : Cxt) (elt tg : Expr) (ifs : List Expr) (tg1 iter1 : Expr) (ifs1 : List Expr) (scope : Scope) (ρ : Env) (d : D) (acc : List D) : M (List D) :=
  match setTgt (C.blk scope) tg d (wipeE ρ ((ownOf C.N scope.names).map (·.2))) with
  | some ρ1 => bnd (evTests r (C.blk scope) ρ1 ifs) fun b =>
      if b then bnd (evIter G r (C.blk scope) ρ1 tg1 iter1) fun s1 => goSrc (compB1 r C elt tg1 ifs1 scope ρ1) s1 acc
      else pu acc
  | none => bad
def evComp2 (G : Gx) (r : Rec) (C : Cxt) (elt tg iter : Expr) (ifs : List Expr) (tg1 iter1 : Expr) (ifs1 : List Expr) (scope : Scope) (pos : Pos) (ρ : Env) : M D :=
  if L2.blkC C.N C.sc scope (ownOf C.N scope.names) && !isSetE iter && !isSetE iter1 && (slotsT C.N tg).all (fun i => ((ownOf C.N scope.names).map (·.2)).contains i) && (slotsT C.N tg1).all (fun i => ((ownOf C.N scope.names).map (·.2)).contains i) then
    bnd (evIter G r C ρ tg iter) fun s => bnd (goSrc (compB2 G r C elt tg ifs tg1 iter1 ifs1 scope ρ) s []) fun xs => mkL (G.mu pos) xs
  else bad

/-- a dict of pairs -/
def mkDk (mu : Bool) (kvs : List (Str × D)) : M D := fun S => if mu then .ok (.dref S.length) (S ++ [.dct kvs]) else .ok (.dct (kvs.map (·.1)) (kvs.map (·.2))) S
def putE (k v : D) (acc : List (Str × D)) : M (List (Str × D)) := match k with
  | .str z => if acc.length < sizeLine then pu (putS acc z v) else bad
  | _ => bad
def compBD (r : Rec) (C : Cxt) (kx vx tg : Expr) (ifs : List Expr) (scope : Scope) (ρ : Env) (d : D) (acc : List (Str × D)) : M (List (Str × D)) :=
  match setTgt (C.blk scope) tg d (wipeE ρ ((ownOf C.N scope.names).map (·.2))) with
  | some ρ1 => bnd (evTests r (C.blk scope) ρ1 ifs) fun b =>
      if b then bnd (r.E (C.blk scope) kx ρ1) fun k => bnd (r.E (C.blk scope) vx ρ1) fun v => putE k v acc
      else pu acc
  | none => bad
def evCompD (G : Gx) (r : Rec) (C : Cxt) (kx vx tg iter : Expr) (ifs : List Expr) (scope : Scope) (pos : Pos) (ρ : Env) : M D :=
  if L2.blkC C.N C.sc scope (ownOf C.N scope.names) && !isSetE iter && (slotsT C.N tg).all (fun i => ((ownOf C.N scope.names).map (·.2)).contains i) then
    bnd (evIter G r C ρ tg iter) fun s => bnd (goSrc (compBD r C kx vx tg ifs scope ρ) s []) fun kvs => mkDk (G.mu pos) kvs
  else bad

def noStars (es : List Expr) : Bool := !es.any isStar

/-- dict(zip(a, b)) alone -/
def evDict (G : Gx) (r : Rec) (C : Cxt) (ρ : Env) : List Expr → List Keyword → M D
  | [.Call (.Name z _) [a, b] [] _], [] => if z = "zip" ∧ isGl C.sc z = true ∧ G.blt z = true ∧ isStar a = false ∧ isStar b = false then bnd (evA G r C ρ [a, b]) dzOp else bad
  | _, _ => bad

def evCall (G : Gx) (r : Rec) (C : Cxt) (ρ : Env) (f : Str) (as : List Expr) (ks : List Keyword) (pos : Pos) : M D :=
  if odd f || !isGl C.sc f then bad
  else match G.call f with
    | some g => if noStars as then bnd (evA G r C ρ as) fun ds => bnd (evKw G r C ρ ks) fun kv => g ds kv else bad
    | none => if f = "dict" then (if G.blt f then evDict G r C ρ as ks else bad) else if G.blt f && ks.isEmpty && noStars as && !as.isEmpty then (match bltTable.lookup f with
        | some b => bnd (evA G r C ρ as) fun ds => callB (G.mu pos) b ds
        | none => bad) else bad

/-- a dict display whose keys are written texts -/
def keysOf : List (Option Expr) → Option (List Str)
  | [] => some []
  | some (.Constant (.str x) _ _) :: ks => (keysOf ks).map fun xs => x :: xs
  | _ :: _ => none
def evDisp (G : Gx) (r : Rec) (C : Cxt) (ρ : Env) (keys : List (Option Expr)) (values : List Expr) (pos : Pos) : M D := match keysOf keys with
  | some ks => if ks.length = values.length ∧ ks.length ≤ 15 ∧ ks.Nodup ∧ noStars values = true then bnd (evA G r C ρ values) fun ds => mkD (G.mu pos) ks ds else bad
  | none => (match keys, values with
    | [some k], [v] => if isStar v then bad else bnd (r.E C k ρ) fun kd => bnd (r.E C v ρ) fun d => (match kd with
      | .str z => mkD (G.mu pos) [z] [d]
      | _ => bad)
    | _, _ => bad)

/-- x.m() of a text -/
def meth0 (m : Str) (d : D) : M D := match d with
  | .str a => if m = "upper" ∧ a.length ≤ 5592405 then pu (.str (Txt.upper a)) else bad
  | _ => bad

def asB : D → M Bool
  | .bl k => pu k
  | _ => bad

def trM (x : D) : M Bool := fun S => match truth S x with
  | some k => .ok k S
  | none => .bad

/-- len(set(list(o.values()))), the values distinct texts -/
def lvOp (o : D) : M D := fun S => match o with
  | .dref i => (match (dctAt S i).bind fun kvs => textsOf (kvs.map (·.2)) with
    | some ys => if ys.Nodup ∧ ys.length ≤ 1000 then .ok (.int ys.length) S else .bad
    | none => .bad)
  | _ => .bad
/-- is the call of this form? -/
def lsvOf (f : Str) (as : List Expr) (ks : List Keyword) : Option (Str × Pos) := match as, ks with
  | [.Call (.Name f2 _) [.Call (.Name f3 _) [.Call (.Attribute (.Name x p) m ap) [] [] cp] [] _] [] _], [] => if f = "len" ∧ f2 = "set" ∧ f3 = "list" ∧ m = "values" ∧ (ap.endLine == cp.line) = true then some (x, p) else none
  | _, _ => none
def lsvOk (G : Gx) (C : Cxt) : Bool := G.blt "len" && G.blt "set" && G.blt "list" && isGl C.sc "len" && isGl C.sc "set" && isGl C.sc "list"
/-- z.join(y) -/
def joinOp (z : Str) (y : D) : M D := fun S => match (seqOf S y).bind textsOf with
  | some ys => if (ys.map (·.length)).sum + ys.length * z.length ≤ 16777216 then .ok (.str (Txt.join z ys)) S else .bad
  | none => .bad
/-- z.split(y) -/
def splitOp (mu : Bool) (z : Str) (y : D) : M D := match y with
  | .str b => if (b.length == 0) = false ∧ z.length + 2 ≤ sizeLine then mkL mu ((Txt.split z b).map D.str) else bad
  | _ => bad
def tmOp (m : Str) (mu : Bool) (z : Str) (y : D) : M D := if m = "join" then joinOp z y else if m = "split" then splitOp mu z y else bad
/-- x.m(y), x a text -/
def tmeth (m : Str) (mu : Bool) (x : D) (k : M D) : M D := match x with
  | .str z => bnd k fun y => tmOp m mu z y
  | _ => bad
def isTm (m : Str) : Bool := decide (m = "join") || decide (m = "split")

/-- a part of an f-string -/
def evP (r : Rec) (C : Cxt) (ρ : Env) : Expr → M Str
  | .FormattedValue e cv none _ => if cv = -1 then bnd (r.E C e ρ) fun d => (match d with
    | .str y => if y.length ≤ sizeLine then pu y else bad
    | _ => bad) else bad
  | .FormattedValue _ _ (some _) _ => bad
  | e => bnd (r.E C e ρ) fun d => (match d with
    | .str y => pu y
    | _ => bad)
def evJ (r : Rec) (C : Cxt) (ρ : Env) : List Expr → Str → M Str
  | [], acc => pu acc
  | e :: es, acc => bnd (evP r C ρ e) fun y => if (acc ++ y).length ≤ sizeLine then evJ r C ρ es (acc ++ y) else bad

/-- is it a dict of the module? -/
def kdOf (G : Gx) (C : Cxt) : Expr → Option (List Str × List D)
  | .Name x _ => if isGl C.sc x && !odd x then G.kd x else none
  | _ => none
def kdCmp (op : CmpOp) (ks : List Str) (x : D) : M D := match op, x with
  | .In, .str z => pu (.bl (ks.contains z))
  | .NotIn, .str z => pu (.bl (!ks.contains z))
  | _, _ => bad
def cmpE (G : Gx) (r : Rec) (C : Cxt) (a : Expr) (op : CmpOp) (b : Expr) (ρ : Env) : M D := match kdOf G C b with
  | some kv => bnd (r.E C a ρ) fun x => kdCmp op kv.1 x
  | none => bnd (r.E C a ρ) fun x => bnd (r.E C b ρ) fun y => cmpOp op x y
def cmpT (G : Gx) (r : Rec) (C : Cxt) (a : Expr) (op : CmpOp) (b : Expr) (ρ : Env) : M Bool := match kdOf G C b with
  | some kv => bnd (r.E C a ρ) fun x => bnd (kdCmp op kv.1 x) asB
  | none => bnd (r.E C a ρ) fun x => bnd (r.E C b ρ) fun y => bnd (cmpOp op x y) asB
def ixE (G : Gx) (r : Rec) (C : Cxt) (a b : Expr) (ρ : Env) : M D := match kdOf G C a with
  | some kv => bnd (r.E C b ρ) fun y => dixOp kv.1 kv.2 y
  | none => bnd (r.E C a ρ) fun x => bnd (r.E C b ρ) fun y => ixD x y

/-- is it a call about errors? -/
def xtOf (exs : Str → Option ExI) (f : Str) (as : List Expr) (ks : List Keyword) : Option Xt := match exs f with
  | some i => (match as, ks, i.fld with
    | [], [], none => if i.made then some (.mk0 f) else none
    | [e], [], some n => if isStar e || !i.made then none else some (.mk1 f n e)
    | [], [⟨some k, e, _⟩], some n => if k = n ∧ i.made = true then some (.mkk f n e) else none
    | _, _, _ => none)
  | none => if f = "isinstance" then (match as, ks with
    | [e, .Name x p], [] => if ((exs x).isSome || decide (x = "ValueError")) && !isStar e then some (.is e x p) else none
    | _, _ => none) else none
def evXt (G : Gx) (r : Rec) (C : Cxt) (ρ : Env) : Xt → M D
  | .is e x _ => if isGl C.sc "isinstance" && G.blt "isinstance" && isGl C.sc x && !odd x && ((G.exs x).isSome || G.blt x) then bnd (r.E C e ρ) fun d => isX G.exs x d else bad
  | .mk0 x => if isGl C.sc x && !odd x then pu (.err x [] []) else bad
  | .mk1 x f e => if isGl C.sc x && !odd x then bnd (r.E C e ρ) fun d => pu (.err x [f] [d]) else bad
  | .mkk x f e => if isGl C.sc x && !odd x then bnd (r.E C e ρ) fun d => pu (.err x [f] [d]) else bad
/-- whose fields may be asked for -/
def atOk : Expr → Bool
  | .Name _ _ => true
  | .Subscript _ _ _ => true
  | _ => false

def stepE (G : Gx) (r : Rec) (C : Cxt) (e : Expr) (ρ : Env) : M D := match e with
  | .Constant .none _ _ => pu .non
  | .Constant (.bool b) _ _ => pu (.bl b)
  | .Constant (.int i) _ _ => pu (.int i)
  | .Constant (.str x) _ _ => pu (.str x)
  | .Name x _ => getVar G C x ρ
  | .BinOp a op b pos => bnd (r.E C a ρ) fun x => bnd (r.E C b ρ) fun y => binOp (G.mu pos) op x y
  | .UnaryOp .Not a _ => bnd (r.E C a ρ) fun x => notOp x
  | .UnaryOp .USub a _ => bnd (r.E C a ρ) fun x => negOp x
  | .BoolOp op [a] _ => r.E C a ρ
  | .BoolOp .And (a :: b :: es) pos => bnd (r.E C a ρ) fun x => bnd (trM x) fun k => if k then r.E C (.BoolOp .And (b :: es) pos) ρ else pu x
  | .BoolOp .Or (a :: b :: es) pos => bnd (r.E C a ρ) fun x => bnd (trM x) fun k => if k then pu x else r.E C (.BoolOp .Or (b :: es) pos) ρ
  | .Compare a [op] [b] _ => if behindInMarks op b then bad else cmpE G r C a op b ρ
  | .Compare a [op, op2] [b, c] _ => if behindInMarks op b || behindInMarks op2 c then bad else bnd (r.E C a ρ) fun x => bnd (r.E C b ρ) fun y => bnd (bnd (cmpOp op x y) asB) fun k =>
      if k then bnd (r.E C c ρ) fun z => cmpOp op2 y z else pu (.bl false)
  | .IfExp t a b _ => bnd (r.T C t ρ) fun k => if k then r.E C a ρ else r.E C b ρ
  | .Tuple es _ _ => bnd (evA G r C ρ es) fun ds => mkT ds
  | .List es pos => bnd (evA G r C ρ es) fun ds => mkL (G.mu pos) ds
  | .Subscript a (.Slice lo hi none _) pos => bnd (r.E C a ρ) fun x => bnd (evPart r C ρ lo) fun l => bnd (evPart r C ρ hi) fun h => slOp (G.mu pos) x l h
  | .Subscript a (.Slice lo hi (some st) _) pos => if isRev lo hi st then bnd (r.E C a ρ) fun x => revOp (G.mu pos) x else bad
  | .Subscript a b _ => if plainIx b then ixE G r C a b ρ else bad
  | .ListComp elt [⟨tg, iter, ifs, 0⟩] scope pos => evComp G r C elt tg iter ifs scope pos ρ
  | .ListComp elt [⟨tg, iter, ifs, 0⟩, ⟨tg1, iter1, ifs1, 0⟩] scope pos => evComp2 G r C elt tg iter ifs tg1 iter1 ifs1 scope pos ρ
  | .Call (.Name f _) as ks pos => (match xtOf G.exs f as ks with
    | some t => evXt G r C ρ t
    | none => (match lsvOf f as ks with
      | some xp => if lsvOk G C then bnd (r.E C (.Name xp.1 xp.2) ρ) lvOp else bad
      | none => evCall G r C ρ f as ks pos))
  | .Attribute a n _ => if atOk a then bnd (r.E C a ρ) fun d => fldOp G.exs n d else bad
  | .Dict keys values pos => evDisp G r C ρ keys values pos
  | .Call (.Attribute (.Name x p) m ap) [] [] cp => if !(ap.endLine == cp.line) || decide (m ≠ "upper") then bad else bnd (r.E C (.Name x p) ρ) fun o => meth0 m o
  | .DictComp kx vx [⟨tg, iter, ifs, 0⟩] scope pos => evCompD G r C kx vx tg iter ifs scope pos ρ
  | .JoinedStr (v1 :: v2 :: rest) _ => bnd (evJ r C ρ (v1 :: v2 :: rest) Str.empty) fun y => pu (.str y)
  | .Call (.Attribute (.Constant (.str z) kk kp) m ap) [a] [] cp =>
    if isStar a || !(ap.endLine == cp.line) || !isTm m then bad else bnd (r.E C (.Constant (.str z) kk kp) ρ) fun o => tmeth m (G.mu cp) o (r.E C a ρ)
  | .Call (.Attribute (.Name x p) m ap) [a] [] cp =>
    if isStar a || !(ap.endLine == cp.line) then bad
    else if isTm m then bnd (r.E C (.Name x p) ρ) fun o => tmeth m (G.mu cp) o (r.E C a ρ)
    else if isVis C.sc x then (match mthTable.lookup m with
      | some k => bnd (r.E C (.Name x p) ρ) fun o => bnd (chk o) fun _ => bnd (r.E C a ρ) fun d => methOp k o d
      | none => bad)
    else if m = "index" ∧ isGl C.sc x = true ∧ odd x = false then (match G.consts x with
      | some (.tup xs) => bnd (r.E C a ρ) fun d => indexOp xs d
      | _ => bad) else bad
  | .Call (.Attribute (.Call (.Name f p) [] [] q) m ap) [a] [] cp =>
    if isStar a || !(ap.endLine == cp.line) || odd f || decide (f = "super") || !isGl C.sc f then bad
    else if m = "index" then (match G.ctup f with
      | some xs => bnd (r.E C a ρ) fun d => indexOp xs d
      | none => bad) else bad
  | _ => bad

/-- a test -/
def stepT (G : Gx) (r : Rec) (C : Cxt) (e : Expr) (ρ : Env) : M Bool := match e with
  | .UnaryOp .Not a _ => bnd (r.T C a ρ) fun k => pu (!k)
  | .BoolOp op [a] _ => r.T C a ρ
  | .BoolOp .And (a :: b :: es) pos => bnd (r.T C a ρ) fun k => if k then r.T C (.BoolOp .And (b :: es) pos) ρ else pu false
  | .BoolOp .Or (a :: b :: es) pos => bnd (r.T C a ρ) fun k => if k then pu true else r.T C (.BoolOp .Or (b :: es) pos) ρ
  | .BoolOp _ [] _ => bad
  | .IfExp _ _ _ _ => bad
  | .Compare a [op] [b] _ => if behindInMarks op b then bad else cmpT G r C a op b ρ
  | .Compare a [op, op2] [b, c] _ => if behindInMarks op b || behindInMarks op2 c then bad else bnd (r.E C a ρ) fun x => bnd (r.E C b ρ) fun y => bnd (bnd (cmpOp op x y) asB) fun k =>
      if k then bnd (r.E C c ρ) fun z => bnd (cmpOp op2 y z) asB else pu false
  | .Compare _ _ _ _ => bad
  | e => bnd (r.E C e ρ) trM

def ev (G : Gx) : Nat → Rec
  | 0 => ⟨fun _ _ _ => bad, fun _ _ _ => bad⟩
  | n + 1 => ⟨stepE G (ev G n), stepT G (ev G n)⟩

/-! ### statements -/
inductive Fl where
  | nx (ρ : Env)
  | rt (d : D)
  | bk (ρ : Env)
  | ct (ρ : Env)

def augOp (op : Operator) (a b : D) : M D := match op, a, b with
  | .Add, .int i, .int j => pu (.int (i + j))
  | .Mult, .int i, .int j => if i.natAbs.log2 + j.natAbs.log2 < 1000000 then pu (.int (i * j)) else bad
  | _, _, _ => bad

structure SRec where
  S : Cxt → Stmt → Env → M Fl
  Ss : Cxt → List Stmt → Env → M Fl

def loopB (sr : SRec) (C : Cxt) (tg : Expr) (body : List Stmt) (d : D) (st : Fl) : M Fl := match st with
  | .nx ρ => (match setTgt C tg d ρ with
    | some ρ1 => bnd (sr.Ss C body ρ1) fun f => match f with
      | .nx ρ2 => pu (.nx ρ2)
      | .ct ρ2 => pu (.nx ρ2)
      | f => pu f
    | none => bad)
  | f => pu f

def loopEnd : Fl → M Fl
  | .bk ρ => pu (.nx ρ)
  | f => pu f

/-- is the value a comprehension that is stored within its own frame? then no other one -/
def isComp : Expr → Bool
  | .ListComp _ _ _ _ => true
  | .SetComp _ _ _ _ => true
  | .DictComp _ _ _ _ _ => true
  | _ => false

def isLoc (sc : Scope) (x : Str) : Bool := match sc.names.lookup x with
  | some .local => true
  | _ => false

/-- the forms of a, b = e that are served: e no written tuple; two names that are stored at once; a tuple whose stores go one by one -/
def parTwo (C : Cxt) (ts vs : List Expr) : Bool := match ts, vs with
  | [.Name x px, .Name y py], [a, b] =>
    (isLoc C.sc x && isLoc C.sc y && decide (x ≠ y) && px.line == py.line && !isStar a && !isStar b && !(constantsAlone 8 a && constantsAlone 8 b))
  | _, _ => false
def parThree (C : Cxt) (ts vs : List Expr) : Bool := match ts, vs with
  | [.Name x px, .Name y py, .Name z pz], [a, b, c] =>
    (isLoc C.sc x && isLoc C.sc y && isLoc C.sc z && decide (x ≠ y) && decide (x ≠ z) && decide (y ≠ z) && px.line == py.line && px.line == pz.line && !isStar a && !isStar b && !isStar c && !(constantsAlone 8 a && constantsAlone 8 b && constantsAlone 8 c))
  | _, _ => false
def parOne (ts vs : List Expr) : Bool := vs.all (foldedForSure 8) || decide (3 < ts.length)
def parOk (C : Cxt) (ts : List Expr) (e : Expr) : Bool := match e with
  | .Tuple vs _ _ => parTwo C ts vs || (parThree C ts vs || parOne ts vs)
  | _ => true

def stepS (G : Gx) (r : Rec) (sr : SRec) (C : Cxt) (st : Stmt) (ρ : Env) : M Fl := match st with
  | .Pass _ => pu (.nx ρ)
  | .Break _ => pu (.bk ρ)
  | .Continue _ => pu (.ct ρ)
  | .Return none _ => pu (.rt .non)
  | .Return (some e) _ => bnd (r.E C e ρ) fun d => pu (.rt d)
  | .Assign [.Name x _] e _ => bnd (r.E C e ρ) fun d => match setVar C x d ρ with
      | some ρ1 => pu (.nx ρ1)
      | none => bad
  | .Assign [.Tuple ts _ _] e _ => if isComp e || !parOk C ts e then bad else bnd (r.E C e ρ) fun d => match unT d with
      | some ds => (match setAll C ts ds ρ with
        | some ρ1 => pu (.nx ρ1)
        | none => bad)
      | none => bad
  | .Assign [.Subscript o i _] e _ => if plainIx i && !isComp e then bnd (r.E C e ρ) fun d => bnd (r.E C o ρ) fun x => bnd (r.E C i ρ) fun y => bnd (setItemOp x y d) fun _ => pu (.nx ρ) else bad
  | .AugAssign (.Name x p) op e _ => bnd (r.E C (.Name x p) ρ) fun a => bnd (r.E C e ρ) fun b => bnd (augOp op a b) fun d => match setVar C x d ρ with
      | some ρ1 => pu (.nx ρ1)
      | none => bad
  | .If t a b _ => bnd (r.T C t ρ) fun k => if k then sr.Ss C a ρ else sr.Ss C b ρ
  | .Expr e _ => if isComp e then bad else bnd (r.E C e ρ) fun _ => pu (.nx ρ)
  | .For tg iter body [] _ => if isSetE iter then bad else bnd (evIter G r C ρ tg iter) fun s => bnd (goSrc (loopB sr C tg body) s (.nx ρ)) loopEnd
  | _ => bad

def stepSs (sr : SRec) (one : Cxt → Stmt → Env → M Fl) (C : Cxt) : List Stmt → Env → M Fl
  | [], ρ => pu (.nx ρ)
  | st :: rest, ρ => bnd (one C st ρ) fun f => match f with
    | .nx ρ1 => stepSs sr one C rest ρ1
    | f => pu f

def evS (G : Gx) (r : Rec) : Nat → SRec
  | 0 => ⟨fun _ _ _ => bad, fun _ _ _ => bad⟩
  | n + 1 => ⟨stepS G r (evS G r n), fun C => stepSs (evS G r n) (stepS G r (evS G r n)) C⟩

/-- depth of expressions and of blocks in a text -/
def deepE : Nat := 40
def deepS : Nat := 20

/-- a form of calls with keywords: so many values by place, then these names; for each parameter the value's place among them -/
structure KwP where
  n : Nat
  ks : List Str
  ix : List Nat

structure Df where
  N : List Str
  ps : List Str
  sc : Scope
  body : List Stmt
  kp : List KwP := []

/-- values by their places -/
def byIx {α : Type} (ix : List Nat) (xs : List α) : List α := ix.filterMap fun i => xs[i]?

def bindKw (d : Df) (ds : List D) (kv : List (Str × D)) : Option (List D) :=
  if kv.isEmpty then (if ds.length = d.ps.length then some ds else none) else
    match d.kp.find? (fun p => decide (p.n = ds.length) && decide (p.ks = kv.map (·.1))) with
    | some p => if (byIx p.ix (ds ++ kv.map (·.2))).length = d.ps.length then some (byIx p.ix (ds ++ kv.map (·.2))) else none
    | none => none

def runDf (G : Gx) (d : Df) (ds : List D) (kv : List (Str × D)) : M D :=
  match bindKw d ds kv with
  | some vs => bnd ((evS G (ev G deepE) deepS).Ss ⟨d.N, d.sc, fun _ => true⟩ d.body (vs.map some ++ List.replicate (d.N.length - vs.length) none)) fun f => match f with
    | .rt v => pu v
    | .nx _ => pu .non
    | _ => bad
  | none => bad

structure Prg where
  consts : Str → Option D
  blt : Str → Bool
  mu : Pos → Bool
  defs : Str → Option Df
  kds : Str → Option (List Str × List D)
  exs : Str → Option ExI

def txtOf : Expr → Option D
  | .Constant (.str x) _ _ => some (.str x)
  | _ => none

def txtsOf : List Expr → Option (List D)
  | [] => some []
  | e :: es => match txtOf e, txtsOf es with
    | some d, some ds => some (d :: ds)
    | _, _ => none

/-- def f(): return (a written tuple of texts) -/
def ctupOf (d : Df) : Option (List D) := match d.N, d.ps, d.body with
  | [], [], [.Return (some (.Tuple es _ _)) _] => if es.length ≤ 1000 then txtsOf es else none
  | _, _, _ => none

def Prg.ctups (P : Prg) : Nat → Str → Option (List D)
  | 0, _ => none
  | _ + 1, x => (P.defs x).bind ctupOf

def Prg.gx (P : Prg) (k : Nat) (call : Str → Option (List D → List (Str × D) → M D)) : Gx := ⟨P.consts, P.blt, P.mu, call, P.ctups k, P.kds, P.exs⟩

/-- calls k deep -/
def callK (P : Prg) : Nat → Str → Option (List D → List (Str × D) → M D)
  | 0, x => (P.defs x).map fun _ => fun _ _ => bad
  | k + 1, x => (P.defs x).map fun d => runDf (P.gx k (callK P k)) d

end Ev2
/-! E2: how values and stores of the evaluator lie in the heap. -/
namespace Ev2
open PySem L2

mutual
/-- v is the value d: F the part of the heap that never changes, mu the places of the store's objects -/
inductive Rp (K : PySem.W.Frag) (F : Hp) (mu : List Addr) : V → D → Prop
  | non : Rp K F mu .non .non
  | bl (b : Bool) : Rp K F mu (.bl b) (.bl b)
  | int (i : Int) : Rp K F mu (.int i) (.int i)
  | str (x : Str) : Rp K F mu (.str x) (.str x)
  | tup {a : Addr} {xs : List V} {ds : List D} : SqT K F a xs → Rps K F mu xs ds → Rp K F mu (.ref a) (.tup ds)
  | lst {a : Addr} {xs : List V} {ds : List D} : F a = some (.lst xs) → Rps K F mu xs ds → Rp K F mu (.ref a) (.lst ds)
  | rol {a : Addr} {xs : List V} {ds : List D} : SqL K F a xs → Rps K F mu xs ds → Rp K F mu (.ref a) (.rol ds)
  | ref {a : Addr} {i : Nat} : mu[i]? = some a → Rp K F mu (.ref a) (.ref i)
  | ty (t : Ty) : Rp K F mu (.ty t.nm) (.ty t)
  | dref {a : Addr} {i : Nat} : mu[i]? = some a → Rp K F mu (.ref a) (.dref i)
  | dct {a : Addr} {xs : List V} {ks : List Str} {ds : List D} : Rd F a (.dK (List.zipWith (fun (k : Str) (v : V) => ((Sum.inr k : Key), v)) ks xs)) → Rps K F mu xs ds → Rp K F mu (.ref a) (.dct ks ds)
  | err {a C : Addr} {dx : Option Addr} {c : Str} {ks : List Str} {xs : List V} {ds : List D} : F a = some (L2.XO (.ref C) dx a) → PySem.W.nsIn K mainGlobals c = some (some (.ref C)) → L2.XD F dx (ks.zip xs) → Rps K F mu xs ds → Rp K F mu (.ref a) (.err c ks ds)
inductive Rps (K : PySem.W.Frag) (F : Hp) (mu : List Addr) : List V → List D → Prop
  | nil : Rps K F mu [] []
  | cons {v : V} {vs : List V} {d : D} {ds : List D} : Rp K F mu v d → Rps K F mu vs ds → Rps K F mu (v :: vs) (d :: ds)
end

section
variable {K : PySem.W.Frag} {F F1 F2 H H1 H2 : Hp} {mu mu1 mu2 : List Addr} {S S1 S2 : Store}

theorem sqT_mono {a : Addr} {xs : List V} (e : Same F F1) (h : SqT K F a xs) : SqT K F1 a xs := by
  rcases h with (h | ⟨o, h⟩) | h
  · exact .inl (.inl (e _ _ h))
  · exact .inl (.inr ⟨o, e _ _ h⟩)
  · exact .inr h
theorem sqL_mono {a : Addr} {xs : List V} (e : Same F F1) (h : SqL K F a xs) : SqL K F1 a xs := e.seq h

theorem xd_mono {dx : Option Addr} {fs : List (Str × V)} (e : Same F F1) (h : L2.XD F dx fs) : L2.XD F1 dx fs := by
  cases dx with
  | none => exact h
  | some d => exact e _ _ h
mutual
theorem Rp.mono (e : Same F F1) (p : ∃ nu, mu1 = mu ++ nu) : ∀ (d : D) (v : V), Rp K F mu v d → Rp K F1 mu1 v d
  | .non, _, h => by cases h; exact .non
  | .bl b, _, h => by cases h; exact .bl b
  | .int i, _, h => by cases h; exact .int i
  | .str x, _, h => by cases h; exact .str x
  | .tup ds, _, h => by
    cases h with
    | tup h1 h2 => exact .tup (sqT_mono e h1) (Rps.mono e p ds _ h2)
  | .lst ds, _, h => by
    cases h with
    | lst h1 h2 => exact .lst (e _ _ h1) (Rps.mono e p ds _ h2)
  | .rol ds, _, h => by
    cases h with
    | rol h1 h2 => exact .rol (sqL_mono e h1) (Rps.mono e p ds _ h2)
  | .ref i, _, h => by
    cases h with
    | ref h1 =>
      obtain ⟨nu, rfl⟩ := p
      refine .ref ?_
      rw [List.getElem?_append_left (List.getElem?_eq_some_iff.mp h1).1]
      exact h1
  | .ty t, _, h => by cases h; exact .ty t
  | .dct ks ds, _, h => by
    cases h with
    | dct h1 h2 => exact .dct (h1.imp (e _ _) fun ⟨o, z⟩ => ⟨o, e _ _ z⟩) (Rps.mono e p ds _ h2)
  | .dref i, _, h => by
    cases h with
    | dref h1 =>
      obtain ⟨nu, rfl⟩ := p
      refine .dref ?_
      rw [List.getElem?_append_left (List.getElem?_eq_some_iff.mp h1).1]
      exact h1
  | .err c ks ds, _, h => by
    cases h with
    | err h1 h2 h3 h4 => exact .err (e _ _ h1) h2 (xd_mono e h3) (Rps.mono e p ds _ h4)
theorem Rps.mono (e : Same F F1) (p : ∃ nu, mu1 = mu ++ nu) : ∀ (ds : List D) (vs : List V), Rps K F mu vs ds → Rps K F1 mu1 vs ds
  | [], _, h => by cases h; exact .nil
  | d :: ds, _, h => by
    cases h with
    | cons h1 h2 => exact .cons (Rp.mono e p d _ h1) (Rps.mono e p ds _ h2)
end

theorem Rps.length : ∀ {vs : List V} {ds : List D}, Rps K F mu vs ds → vs.length = ds.length
  | _, _, .nil => rfl
  | _, _, .cons _ t => by simp [Rps.length t]
theorem Rps.get : ∀ {vs : List V} {ds : List D} {i : Nat} {d : D}, Rps K F mu vs ds → ds[i]? = some d → ∃ v, vs[i]? = some v ∧ Rp K F mu v d
  | _, _, _, _, .nil, e => by simp at e
  | _, _, 0, _, .cons r _, e => by simp at e; subst e; exact ⟨_, rfl, r⟩
  | _, _, i + 1, _, .cons _ t, e => Rps.get (i := i) t (by simpa using e)
theorem Rps.got : ∀ {vs : List V} {ds : List D} {i : Nat} {v : V}, Rps K F mu vs ds → vs[i]? = some v → ∃ d, ds[i]? = some d ∧ Rp K F mu v d
  | _, _, _, _, .nil, e => by simp at e
  | _, _, 0, _, .cons r _, e => by simp at e; subst e; exact ⟨_, rfl, r⟩
  | _, _, i + 1, _, .cons _ t, e => Rps.got (i := i) t (by simpa using e)
theorem Rps.append : ∀ {vs us : List V} {ds es : List D}, Rps K F mu vs ds → Rps K F mu us es → Rps K F mu (vs ++ us) (ds ++ es)
  | _, _, _, _, .nil, s => s
  | _, _, _, _, .cons r t, s => .cons r (Rps.append t s)
theorem Rps.take : ∀ {vs : List V} {ds : List D} (n : Nat), Rps K F mu vs ds → Rps K F mu (vs.take n) (ds.take n)
  | _, _, 0, _ => .nil
  | _, _, _ + 1, .nil => .nil
  | _, _, n + 1, .cons r t => .cons r (Rps.take n t)
theorem Rps.drop : ∀ {vs : List V} {ds : List D} (n : Nat), Rps K F mu vs ds → Rps K F mu (vs.drop n) (ds.drop n)
  | _, _, 0, r => r
  | _, _, _ + 1, .nil => .nil
  | _, _, n + 1, .cons _ t => Rps.drop n t
theorem Rps.set {v : V} {d : D} (r : Rp K F mu v d) : ∀ {vs : List V} {ds : List D} (i : Nat), Rps K F mu vs ds → Rps K F mu (vs.set i v) (ds.set i d)
  | _, _, _, .nil => .nil
  | _, _, 0, .cons _ t => .cons r t
  | _, _, i + 1, .cons q t => .cons q (Rps.set r i t)
theorem Rps.rev : ∀ {vs : List V} {ds : List D}, Rps K F mu vs ds → Rps K F mu vs.reverse ds.reverse
  | _, _, .nil => .nil
  | _, _, .cons r t => by rw [List.reverse_cons, List.reverse_cons]; exact (Rps.rev t).append (.cons r .nil)
theorem Rps.flat (k : Nat) {vs : List V} {ds : List D} (r : Rps K F mu vs ds) : Rps K F mu (List.replicate k vs).flatten (List.replicate k ds).flatten := by
  induction k with
  | zero => exact .nil
  | succ k ih => exact r.append ih

/-- what an evaluation leaves of the heap: the frozen part grows, the store's places grow, all else that was tracked stays -/
structure Stp (F : Hp) (mu : List Addr) (H F1 : Hp) (mu1 : List Addr) (H1 : Hp) : Prop where
  fz : Same F F1
  pl : ∃ nu, mu1 = mu ++ nu
  keep : ∀ a o, H a = some o → a ∉ mu → H1 a = some o
  there : ∀ a, H a ≠ none → H1 a ≠ none
  newF : ∀ a, F a = none → H a ≠ none → F1 a = none
  newM : ∀ a, a ∈ mu1 → a ∉ mu → H a = none

theorem Stp.refl : Stp F mu H F mu H := ⟨Same.refl F, ⟨[], by simp⟩, fun _ _ h _ => h, fun _ h => h, fun _ h _ => h, fun _ h n => absurd h n⟩
theorem Stp.trans (a : Stp F mu H F1 mu1 H1) (b : Stp F1 mu1 H1 F2 mu2 H2) : Stp F mu H F2 mu2 H2 := by
  refine ⟨a.fz.trans b.fz, ?_, fun x o h n => ?_, fun x h => b.there x (a.there x h), fun x h1 h2 => b.newF x (a.newF x h1 h2) (a.there x h2), fun x h n => ?_⟩
  · obtain ⟨n1, e1⟩ := a.pl
    obtain ⟨n2, e2⟩ := b.pl
    exact ⟨n1 ++ n2, by rw [e2, e1, List.append_assoc]⟩
  · refine b.keep x o (a.keep x o h n) fun m => ?_
    have := a.newM x m n
    rw [h] at this; cases this
  · by_cases m : x ∈ mu1
    · exact a.newM x m n
    · have q := b.newM x h m
      cases e : H x with
      | none => rfl
      | some o => exact absurd q (a.there x (by rw [e]; simp))
theorem Stp.rp (a : Stp F mu H F1 mu1 H1) {v : V} {d : D} (h : Rp K F mu v d) : Rp K F1 mu1 v d := Rp.mono a.fz a.pl d v h
theorem Stp.rps (a : Stp F mu H F1 mu1 H1) {vs : List V} {ds : List D} (h : Rps K F mu vs ds) : Rps K F1 mu1 vs ds := Rps.mono a.fz a.pl ds vs h

/-- the pairs of a dict -/
inductive Rkv (K : PySem.W.Frag) (F : Hp) (mu : List Addr) : List (Key × V) → List (Str × D) → Prop
  | nil : Rkv K F mu [] []
  | cons {x : Str} {v : V} {d : D} {ks : List (Key × V)} {kvs : List (Str × D)} : Rp K F mu v d → Rkv K F mu ks kvs → Rkv K F mu ((.inr x, v) :: ks) ((x, d) :: kvs)
theorem Rkv.mono (e : Same F F1) (p : ∃ nu, mu1 = mu ++ nu) : ∀ {ks : List (Key × V)} {kvs : List (Str × D)}, Rkv K F mu ks kvs → Rkv K F1 mu1 ks kvs
  | _, _, .nil => .nil
  | _, _, .cons r t => .cons (Rp.mono e p _ _ r) (Rkv.mono e p t)
theorem Rkv.length : ∀ {ks : List (Key × V)} {kvs : List (Str × D)}, Rkv K F mu ks kvs → ks.length = kvs.length
  | _, _, .nil => rfl
  | _, _, .cons _ t => by simp [Rkv.length t]
theorem Rkv.any (k : Str) : ∀ {ks : List (Key × V)} {kvs : List (Str × D)}, Rkv K F mu ks kvs → (ks.any fun kv => decide (kv.1 = (Sum.inr k : Key))) = kvs.any fun kv => decide (kv.1 = k)
  | _, _, .nil => rfl
  | _, _, .cons (x := x) _ t => by
    rw [List.any_cons, List.any_cons, Rkv.any k t]
    congr 1
    exact decide_eq_decide.mpr ⟨fun z => by injection z, fun z => congrArg Sum.inr z⟩
theorem Rkv.look (k : Str) : ∀ {ks : List (Key × V)} {kvs : List (Str × D)}, Rkv K F mu ks kvs → ∀ {d : D}, lookS kvs k = some d → ∃ v, valV ks (.inr k) = some v ∧ Rp K F mu v d
  | _, _, .nil, _, e => by cases e
  | _, _, .cons (x := x) (v := v) (d := d0) (kvs := kvs0) r t, d, e => by
    by_cases h : x = k
    · subst h
      have e' : lookS ((x, d0) :: kvs0) x = some d0 := by simp [lookS, List.find?_cons]
      rw [e'] at e
      cases e
      exact ⟨v, valV_pos rfl, r⟩
    · have hn : ¬ ((Sum.inr x : Key) = Sum.inr k) := fun z => h (by injection z)
      rw [valV_neg hn]
      refine Rkv.look k t ?_
      simpa [lookS, List.find?_cons, h] using e
theorem Rkv.lookN (k : Str) : ∀ {ks : List (Key × V)} {kvs : List (Str × D)}, Rkv K F mu ks kvs → lookS kvs k = none → valV ks (.inr k) = none
  | _, _, .nil, _ => rfl
  | _, _, .cons (x := x) (v := v) (d := d0) (kvs := kvs0) r t, e => by
    by_cases h : x = k
    · subst h
      have e' : lookS ((x, d0) :: kvs0) x = some d0 := by simp [lookS, List.find?_cons]
      rw [e'] at e
      cases e
    · rw [valV_neg (fun z => h (by injection z))]
      refine Rkv.lookN k t ?_
      simpa [lookS, List.find?_cons, h] using e
theorem Rkv.repl (k : Str) {v : V} {d : D} (r : Rp K F mu v d) : ∀ {ks : List (Key × V)} {kvs : List (Str × D)}, Rkv K F mu ks kvs → Rkv K F mu (ks.map fun kv => if kv.1 = (Sum.inr k : Key) then (kv.1, v) else kv) (kvs.map fun kv => if kv.1 = k then (kv.1, d) else kv)
  | _, _, .nil => .nil
  | _, _, .cons (x := x) q t => by
    rw [List.map_cons, List.map_cons]
    by_cases h : x = k
    · subst h
      rw [if_pos rfl, if_pos rfl]
      exact .cons r (Rkv.repl x r t)
    · rw [if_neg (fun z => h (by injection z)), if_neg h]
      exact .cons q (Rkv.repl k r t)
theorem Rkv.snoc {k : Str} {v : V} {d : D} (r : Rp K F mu v d) : ∀ {ks : List (Key × V)} {kvs : List (Str × D)}, Rkv K F mu ks kvs → Rkv K F mu (ks ++ [(.inr k, v)]) (kvs ++ [(k, d)])
  | _, _, .nil => .cons r .nil
  | _, _, .cons q t => .cons q (Rkv.snoc r t)
theorem Rkv.put {k : Str} {v : V} {d : D} (r : Rp K F mu v d) {ks : List (Key × V)} {kvs : List (Str × D)} (h : Rkv K F mu ks kvs) : Rkv K F mu (putK ks (.inr k) v) (putS kvs k d) := by
  unfold putK putS
  rw [h.any k]
  split
  · exact h.repl k r
  · exact h.snoc r
theorem Rkv.merge {more : List (Key × V)} {mores : List (Str × D)} (g : Rkv K F mu more mores) : ∀ {ks : List (Key × V)} {kvs : List (Str × D)}, Rkv K F mu ks kvs → Rkv K F mu (mergeK ks more) (mergeS kvs mores) := by
  induction g with
  | nil => exact fun h => h
  | cons r t ih => exact fun h => ih (h.put r)
theorem Rkv.zip : ∀ {ks : List Str} {vs : List V} {ds : List D}, Rps K F mu vs ds → Rkv K F mu (List.zipWith (fun (k : Str) (v : V) => ((Sum.inr k : Key), v)) ks vs) (ks.zip ds)
  | [], _, _, r => by
    cases r with
    | nil => exact .nil
    | cons _ _ => exact .nil
  | k :: ks, _, _, r => by
    cases r with
    | nil => exact .nil
    | cons r t => exact .cons r (Rkv.zip t)

theorem Rkv.vals : ∀ {ks : List (Key × V)} {kvs : List (Str × D)}, Rkv K F mu ks kvs → Rps K F mu (ks.map (·.2)) (kvs.map (·.2))
  | _, _, .nil => .nil
  | _, _, .cons r t => .cons r (Rkv.vals t)
theorem Rkv.unzip : ∀ {ks : List (Key × V)} {kvs : List (Str × D)}, Rkv K F mu ks kvs → ∃ vs, ks = List.zipWith (fun (k : Str) (v : V) => ((Sum.inr k : Key), v)) (kvs.map (·.1)) vs ∧ Rps K F mu vs (kvs.map (·.2))
  | _, _, .nil => ⟨[], rfl, .nil⟩
  | _, _, .cons (x := x) (v := v) r t => by
    obtain ⟨vs, e, h⟩ := Rkv.unzip t
    exact ⟨v :: vs, by rw [e]; rfl, .cons r h⟩

/-- an object of the store as it stands in the heap -/
def SoOk (K : PySem.W.Frag) (F : Hp) (mu : List Addr) (H : Hp) (a : Addr) : SO → Prop
  | .lst ds => ∃ xs, H a = some (.lst xs) ∧ Rps K F mu xs ds
  | .dct kvs => ∃ ks, H a = some (.dK ks) ∧ Rkv K F mu ks kvs

structure Sr (K : PySem.W.Frag) (F : Hp) (mu : List Addr) (S : Store) (H : Hp) : Prop where
  sub : Same F H
  len : mu.length = S.length
  nd : mu.Nodup
  nf : ∀ a ∈ mu, F a = none
  obj : ∀ (i : Nat) (a : Addr) (o : SO), mu[i]? = some a → S[i]? = some o → SoOk K F mu H a o

theorem Sr.lst (r : Sr K F mu S H) {i : Nat} {a : Addr} {ds : List D} (h : mu[i]? = some a) (e : lstAt S i = some ds) : ∃ xs, H a = some (.lst xs) ∧ Rps K F mu xs ds := by
  unfold lstAt at e
  cases q : S[i]? with
  | none => rw [q] at e; cases e
  | some o =>
    cases o with
    | lst ys =>
      rw [q] at e
      cases e
      exact r.obj i a _ h q
    | dct kvs => rw [q] at e; cases e
theorem Sr.dct (r : Sr K F mu S H) {i : Nat} {a : Addr} {kvs : List (Str × D)} (h : mu[i]? = some a) (e : dctAt S i = some kvs) : ∃ ks, H a = some (.dK ks) ∧ Rkv K F mu ks kvs := by
  unfold dctAt at e
  cases q : S[i]? with
  | none => rw [q] at e; cases e
  | some o =>
    cases o with
    | lst ys => rw [q] at e; cases e
    | dct ys =>
      rw [q] at e
      cases e
      exact r.obj i a _ h q
theorem lstAt_ix {i : Nat} {ds : List D} (e : lstAt S i = some ds) : S[i]? = some (.lst ds) := by
  unfold lstAt at e
  cases q : S[i]? with
  | none => rw [q] at e; cases e
  | some o => cases o with
    | lst ys => rw [q] at e; cases e; rfl
    | dct ys => rw [q] at e; cases e
theorem Sr.place (r : Sr K F mu S H) {i : Nat} {ds : List D} (e : lstAt S i = some ds) : ∃ a, mu[i]? = some a := by
  have h := (List.getElem?_eq_some_iff.mp (lstAt_ix e)).1
  rw [← r.len] at h
  exact ⟨_, List.getElem?_eq_getElem h⟩
theorem Sr.mem_some (r : Sr K F mu S H) {a : Addr} (h : a ∈ mu) : H a ≠ none := by
  obtain ⟨i, hi, e⟩ := List.mem_iff_getElem.mp h
  have q : mu[i]? = some a := by rw [List.getElem?_eq_getElem hi, e]
  have hs : i < S.length := by rw [← r.len]; exact hi
  have o := r.obj i a S[i] q (List.getElem?_eq_getElem hs)
  cases w : S[i] with
  | lst ds =>
    rw [w] at o
    obtain ⟨xs, e, _⟩ := o
    rw [e]
    simp
  | dct kvs =>
    rw [w] at o
    obtain ⟨xs, e, _⟩ := o
    rw [e]
    simp
theorem SoOk.mono {a : Addr} {o : SO} (e : Same F F1) (p : ∃ nu, mu1 = mu ++ nu) (h : SoOk K F mu H a o) (k : H1 a = H a) : SoOk K F1 mu1 H1 a o := by
  cases o with
  | lst ds =>
    obtain ⟨xs, h1, h2⟩ := h
    exact ⟨xs, k.trans h1, Rps.mono e p ds xs h2⟩
  | dct kvs =>
    obtain ⟨xs, h1, h2⟩ := h
    exact ⟨xs, k.trans h1, h2.mono e p⟩

/-- a new object that never changes -/
theorem Sr.frz (r : Sr K F mu S H) {p : Addr} {o : HO} (hp : H p = none) : Sr K (upd F p o) mu S (upd H p o) ∧ Stp F mu H (upd F p o) mu (upd H p o) := by
  have fp : F p = none := by
    cases e : F p with
    | none => rfl
    | some u => rw [r.sub p u e] at hp; cases hp
  have sF : Same F (upd F p o) := fun a u e => by rw [upd_ne (ne_of_none e fp)]; exact e
  have pm : p ∉ mu := fun m => r.mem_some m hp
  refine ⟨⟨fun a u e => ?_, r.len, r.nd, fun a m => ?_, fun i a so h1 h2 => ?_⟩, ⟨sF, ⟨[], by simp⟩, fun a u e _ => ?_, fun a e => ?_, fun a e1 e2 => ?_, fun a m n => absurd m n⟩⟩
  · by_cases q : a = p
    · subst q; rw [upd_same] at e ⊢; exact e
    · rw [upd_ne q] at e ⊢; exact r.sub a u e
  · rw [upd_ne (show a ≠ p from fun q => pm (q ▸ m))]; exact r.nf a m
  · have ma : a ∈ mu := List.mem_of_getElem? h1
    exact (r.obj i a so h1 h2).mono sF ⟨[], by simp⟩ (upd_ne (fun q => pm (q ▸ ma)))
  · rw [upd_ne (ne_of_none e hp)]; exact e
  · by_cases q : a = p
    · subst q; exact absurd hp e
    · rw [upd_ne q]; exact e
  · by_cases q : a = p
    · subst q; exact absurd hp e2
    · rw [upd_ne q]; exact e1

/-- a new object of the store -/
theorem Sr.newO (r : Sr K F mu S H) {p : Addr} {ho : HO} {so0 : SO} (hp : H p = none) (h : SoOk K F (mu ++ [p]) (upd H p ho) p so0) :
    Sr K F (mu ++ [p]) (S ++ [so0]) (upd H p ho) ∧ Stp F mu H F (mu ++ [p]) (upd H p ho) := by
  have fp : F p = none := by
    cases e : F p with
    | none => rfl
    | some u => rw [r.sub p u e] at hp; cases hp
  have pm : p ∉ mu := fun m => r.mem_some m hp
  refine ⟨⟨fun a u e => ?_, by simp [r.len], ?_, fun a m => ?_, fun i a so h1 h2 => ?_⟩, ⟨Same.refl F, ⟨[p], rfl⟩, fun a u e _ => ?_, fun a e => ?_, fun a e1 _ => e1, fun a m n => ?_⟩⟩
  · rw [upd_ne (ne_of_none e fp)]; exact r.sub a u e
  · rw [List.nodup_append]
    exact ⟨r.nd, by simp, fun a ma b mb q => by simp at mb; subst mb; subst q; exact pm ma⟩
  · rcases List.mem_append.mp m with m | m
    · exact r.nf a m
    · simp at m; subst m; exact fp
  · by_cases hi : i < mu.length
    · rw [List.getElem?_append_left hi] at h1
      rw [List.getElem?_append_left (by rw [← r.len]; exact hi)] at h2
      have ma : a ∈ mu := List.mem_of_getElem? h1
      exact (r.obj i a so h1 h2).mono (Same.refl F) ⟨[p], rfl⟩ (upd_ne (fun q => pm (q ▸ ma)))
    · rw [List.getElem?_append_right (by omega)] at h1
      rw [List.getElem?_append_right (by rw [← r.len]; omega), ← r.len] at h2
      cases q : i - mu.length with
      | zero =>
        rw [q] at h1 h2
        simp at h1 h2
        subst h1; subst h2
        exact h
      | succ n => rw [q] at h1; simp at h1
  · rw [upd_ne (ne_of_none e hp)]; exact e
  · by_cases q : a = p
    · subst q; exact absurd hp e
    · rw [upd_ne q]; exact e
  · rcases List.mem_append.mp m with m | m
    · exact absurd m n
    · simp at m; subst m; exact hp

/-- a new list of the store -/
theorem Sr.new (r : Sr K F mu S H) {p : Addr} {xs : List V} {ds : List D} (hp : H p = none) (h : Rps K F mu xs ds) :
    Sr K F (mu ++ [p]) (S ++ [.lst ds]) (upd H p (.lst xs)) ∧ Stp F mu H F (mu ++ [p]) (upd H p (.lst xs)) := r.newO hp ⟨xs, upd_same, Rps.mono (Same.refl F) ⟨[p], rfl⟩ ds xs h⟩
/-- a new dict of the store -/
theorem Sr.newD (r : Sr K F mu S H) {p : Addr} {ks : List (Key × V)} {kvs : List (Str × D)} (hp : H p = none) (h : Rkv K F mu ks kvs) :
    Sr K F (mu ++ [p]) (S ++ [.dct kvs]) (upd H p (.dK ks)) ∧ Stp F mu H F (mu ++ [p]) (upd H p (.dK ks)) := r.newO hp ⟨ks, upd_same, h.mono (Same.refl F) ⟨[p], rfl⟩⟩

/-- an object of the store changed -/
theorem Sr.putO (r : Sr K F mu S H) {i : Nat} {a : Addr} {ho : HO} {so0 : SO} (ha : mu[i]? = some a) (h : SoOk K F mu (upd H a ho) a so0) :
    Sr K F mu (S.set i so0) (upd H a ho) ∧ Stp F mu H F mu (upd H a ho) := by
  have ma : a ∈ mu := List.mem_of_getElem? ha
  have fa := r.nf a ma
  refine ⟨⟨fun b u e => ?_, by simp [r.len], r.nd, r.nf, fun j b so h1 h2 => ?_⟩, ⟨Same.refl F, ⟨[], by simp⟩, fun b u e n => ?_, fun b e => ?_, fun b e1 _ => e1, fun b m n => absurd m n⟩⟩
  · rw [upd_ne (ne_of_none e fa)]; exact r.sub b u e
  · by_cases q : j = i
    · subst q
      rw [ha] at h1; cases h1
      have hj : j < S.length := by rw [← r.len]; exact (List.getElem?_eq_some_iff.mp ha).1
      rw [List.getElem?_set_self hj] at h2
      cases h2
      exact h
    · rw [List.getElem?_set_ne (Ne.symm q)] at h2
      have nb : b ≠ a := fun e => q (nd_ix r.nd h1 (e ▸ ha))
      exact (r.obj j b so h1 h2).mono (Same.refl F) ⟨[], by simp⟩ (upd_ne nb)
  · rw [upd_ne (show b ≠ a from fun q => n (by rw [q]; exact ma))]; exact e
  · by_cases q : b = a
    · subst q; rw [upd_same]; simp
    · rw [upd_ne q]; exact e

/-- a list of the store changed -/
theorem Sr.put (r : Sr K F mu S H) {i : Nat} {a : Addr} {xs : List V} {ds : List D} (ha : mu[i]? = some a) (h : Rps K F mu xs ds) :
    Sr K F mu (S.set i (.lst ds)) (upd H a (.lst xs)) ∧ Stp F mu H F mu (upd H a (.lst xs)) := r.putO ha ⟨xs, upd_same, h⟩
/-- a dict of the store changed -/
theorem Sr.putD (r : Sr K F mu S H) {i : Nat} {a : Addr} {ks : List (Key × V)} {kvs : List (Str × D)} (ha : mu[i]? = some a) (h : Rkv K F mu ks kvs) :
    Sr K F mu (S.set i (.dct kvs)) (upd H a (.dK ks)) ∧ Stp F mu H F mu (upd H a (.dK ks)) := r.putO ha ⟨ks, upd_same, h⟩

/-- what is wanted behind an evaluation to d, leaving S1 -/
def Post (K : PySem.W.Frag) (F : Hp) (mu : List Addr) (H : Hp) (d : D) (S1 : Store) (Q : VK) : Prop :=
  ∀ v F1 mu1 H1, Stp F mu H F1 mu1 H1 → Sr K F1 mu1 S1 H1 → Rp K F1 mu1 v d → Q v H1

theorem Post.at {d : D} {Q : VK} {v : V} (p : Post K F mu H d S Q) (r : Sr K F mu S H) (h : Rp K F mu v d) : Q v H := p v F mu H Stp.refl r h
theorem Post.later {d : D} {Q : VK} (p : Post K F mu H d S1 Q) (a : Stp F mu H F1 mu1 H1) : Post K F1 mu1 H1 d S1 Q := fun v F2 m2 H2 b r h => p v F2 m2 H2 (a.trans b) r h
theorem Post.newT {xs : List V} {ds : List D} {Q : VK} (p : Post K F mu H (.tup ds) S Q) (r : Sr K F mu S H) (h : Rps K F mu xs ds) {a : Addr} (ha : H a = none) : Q (.ref a) (upd H a (.tup xs)) := by
  obtain ⟨r1, s1⟩ := r.frz (o := .tup xs) ha
  exact p _ _ _ _ s1 r1 (.tup (.inl (.inl upd_same)) (s1.rps h))
theorem Post.newL {xs : List V} {ds : List D} {Q : VK} {m : Bool} {d : D} (e : mkL m ds S = .ok d S1) (p : Post K F mu H d S1 Q) (r : Sr K F mu S H) (h : Rps K F mu xs ds) {a : Addr} (ha : H a = none) : Q (.ref a) (upd H a (.lst xs)) := by
  unfold mkL at e
  split at e
  · cases m with
    | true =>
      simp only [if_true] at e
      injection e with e1 e2
      subst e1 e2
      obtain ⟨r1, s1⟩ := r.new ha h
      refine p _ _ _ _ s1 r1 (.ref ?_)
      rw [← r.len, List.getElem?_append_right (Nat.le_refl _)]
      simp
    | false =>
      simp only [Bool.false_eq_true, if_false] at e
      injection e with e1 e2
      subst e1 e2
      obtain ⟨r1, s1⟩ := r.frz (o := .lst xs) ha
      exact p _ _ _ _ s1 r1 (.lst upd_same (s1.rps h))
  · cases e
theorem mkL_len {m : Bool} {ds : List D} {d : D} (e : mkL m ds S = .ok d S1) : ds.length ≤ sizeLine := by
  unfold mkL at e
  split at e
  · assumption
  · cases e
/-- the items of a sequence as the heap has them -/
theorem Sr.seq (r : Sr K F mu S H) {v : V} {d : D} {ds : List D} (h : Rp K F mu v d) (e : seqOf S d = some ds) : ∃ a xs, v = .ref a ∧ (SqL K H a xs ∨ SqT K H a xs) ∧ Rps K F mu xs ds := by
  cases h with
  | tup h1 h2 => cases e; exact ⟨_, _, rfl, .inr (sqT_mono r.sub h1), h2⟩
  | lst h1 h2 => cases e; exact ⟨_, _, rfl, .inl (.inl (.inl (r.sub _ _ h1))), h2⟩
  | rol h1 h2 => cases e; exact ⟨_, _, rfl, .inl (sqL_mono r.sub h1), h2⟩
  | ref h1 =>
    obtain ⟨xs, e1, e2⟩ := r.lst h1 e
    exact ⟨_, xs, rfl, .inl (.inl (.inl e1)), e2⟩
  | _ => cases e
theorem Sr.lists (r : Sr K F mu S H) {v : V} {d : D} {ds : List D} (h : Rp K F mu v d) (e : listOf S d = some ds) : ∃ a xs, v = .ref a ∧ SqL K H a xs ∧ Rps K F mu xs ds := by
  cases h with
  | lst h1 h2 => cases e; exact ⟨_, _, rfl, .inl (.inl (r.sub _ _ h1)), h2⟩
  | rol h1 h2 => cases e; exact ⟨_, _, rfl, sqL_mono r.sub h1, h2⟩
  | ref h1 =>
    obtain ⟨xs, e1, e2⟩ := r.lst h1 e
    exact ⟨_, xs, rfl, .inl (.inl e1), e2⟩
  | _ => cases e

/-! data -/
mutual
theorem dp_of (r : Sr K F mu S H) : ∀ (d : D) (v : V) (p : PyData), Rp K F mu v d → toPy d = some p → Dp K H v p
  | .non, _, _, h, e => by cases h; simp only [toPy] at e; cases e; exact .non
  | .bl b, _, _, h, e => by cases h; simp only [toPy] at e; cases e; exact .bl b
  | .int i, _, _, h, e => by cases h; simp only [toPy] at e; cases e; exact .int i
  | .str x, _, _, h, e => by cases h; simp only [toPy] at e; cases e; exact .str x
  | .tup ds, _, _, h, e => by
    cases h with
    | tup h1 h2 =>
      simp only [toPy] at e
      cases q : toPys ds with
      | none => rw [q] at e; cases e
      | some ps =>
        rw [q] at e
        cases e
        exact .tup (sqT_mono r.sub h1) (dps_of r ds _ ps h2 q)
  | .lst ds, _, _, h, e => by
    cases h with
    | lst h1 h2 =>
      simp only [toPy] at e
      cases q : toPys ds with
      | none => rw [q] at e; cases e
      | some ps =>
        rw [q] at e
        cases e
        exact .lst (.inl (.inl (r.sub _ _ h1))) (dps_of r ds _ ps h2 q)
  | .rol ds, _, _, h, e => by
    cases h with
    | rol h1 h2 =>
      simp only [toPy] at e
      cases q : toPys ds with
      | none => rw [q] at e; cases e
      | some ps =>
        rw [q] at e
        cases e
        exact .lst (sqL_mono r.sub h1) (dps_of r ds _ ps h2 q)
  | .ref i, _, _, _, e => by simp only [toPy] at e; cases e
  | .ty t, _, _, _, e => by simp only [toPy] at e; cases e
  | .dct ks ds, _, _, _, e => by simp only [toPy] at e; cases e
  | .dref i, _, _, _, e => by simp only [toPy] at e; cases e
  | .err c ks ds, _, _, _, e => by simp only [toPy] at e; cases e
theorem dps_of (r : Sr K F mu S H) : ∀ (ds : List D) (vs : List V) (ps : List PyData), Rps K F mu vs ds → toPys ds = some ps → DpAll K H vs ps
  | [], _, _, h, e => by cases h; simp only [toPys] at e; cases e; exact .nil
  | d :: ds, _, _, h, e => by
    cases h with
    | cons h1 h2 =>
      simp only [toPys] at e
      cases q1 : toPy d with
      | none => rw [q1] at e; cases e
      | some p =>
        cases q2 : toPys ds with
        | none => rw [q1, q2] at e; cases e
        | some ps =>
          rw [q1, q2] at e
          cases e
          exact .cons (dp_of r d _ p h1 q1) (dps_of r ds _ ps h2 q2)
end
theorem Sr.data (r : Sr K F mu S H) {d : D} {v : V} {p : PyData} (h : Rp K F mu v d) (e : pyOf S d = some p) : Dp K H v p := by
  cases d with
  | ref i =>
    cases h with
    | ref h1 =>
      unfold pyOf at e
      cases q : lstAt S i with
      | none => simp [q] at e
      | some xs =>
        simp only [q, Option.bind_some] at e
        cases q2 : toPys xs with
        | none => simp [q2] at e
        | some ps =>
          simp [q2] at e
          subst e
          obtain ⟨ys, e1, e2⟩ := r.lst h1 q
          exact .lst (.inl (.inl e1)) (dps_of r xs ys ps e2 q2)
  | _ => exact dp_of r _ v p h e
end
end Ev2
/-! E3: the operations of the evaluator are the model's. -/
namespace Ev2
open PySem L2 PyProof.Rows

/-- a two-place operation of the evaluator, read over the heap -/
def rF2 (K : PySem.W.Frag) (f : D → D → M D) : R2 := fun x y H Q =>
  ∃ F mu S a b d S1, Sr K F mu S H ∧ Rp K F mu x a ∧ Rp K F mu y b ∧ f a b S = .ok d S1 ∧ Post K F mu H d S1 Q
def rF1 (K : PySem.W.Frag) (f : D → M D) : V → Hp → VK → Prop := fun x H Q =>
  ∃ F mu S a d S1, Sr K F mu S H ∧ Rp K F mu x a ∧ f a S = .ok d S1 ∧ Post K F mu H d S1 Q

section
variable {X : Cx}

theorem no_bad {α : Type} {a : α} {S S1 : Store} (h : (M.bad : M α) S = .ok a S1) : False := by
  unfold M.bad at h
  cases h
theorem pu_ok {α : Type} {a b : α} {S S1 : Store} (h : M.pu a S = .ok b S1) : b = a ∧ S1 = S := by
  unfold M.pu at h
  cases h
  exact ⟨rfl, rfl⟩
theorem bnd_ok {α β : Type} {m : M α} {f : α → M β} {b : β} {S S1 : Store} (h : M.bnd m f S = .ok b S1) : ∃ a S0, m S = .ok a S0 ∧ f a S0 = .ok b S1 := by
  unfold M.bnd at h
  cases q : m S with
  | ok a S0 => rw [q] at h; exact ⟨a, S0, rfl, h⟩
  | exc c fs S0 => rw [q] at h; cases h
  | bad => rw [q] at h; cases h

theorem sound_add (m : Bool) : OpR X (binaryOp .Add) (rF2 X.K (addOp m)) := by
  intro pins s σ H x y v u Q I rx ry h
  obtain ⟨F, mu, S, a, b, d, S1, hS, hx, hy, e, p⟩ := h
  cases hx <;> cases hy <;> first | (exfalso; cases e; done) | skip
  case int.int i j =>
    obtain ⟨rfl, rfl⟩ := pu_ok e
    exact op_add pins s σ H _ _ v u Q I rx ry ⟨i, j, rfl, rfl, p.at hS (.int _)⟩
  case str.str i j =>
    have e : (if i.length + j.length ≤ sizeLine then M.pu (D.str (i ++ j)) else M.bad) S = .ok d S1 := e
    split at e
    · obtain ⟨rfl, rfl⟩ := pu_ok e
      exact op_add_str pins s σ H _ _ v u Q I rx ry ⟨i, j, rfl, rfl, by assumption, p.at hS (.str _)⟩
    · exact (no_bad e).elim
  case tup.tup a1 xs ds h1 h2 a2 ys es h3 h4 =>
    have e : (if ds.length + es.length ≤ sizeLine then M.pu (D.tup (ds ++ es)) else M.bad) S = .ok d S1 := e
    split at e
    next hz =>
      obtain ⟨rfl, rfl⟩ := pu_ok e
      have l1 := h2.length
      have l2 := h4.length
      refine op_catA pins s σ H _ _ v u Q I rx ry ⟨a1, a2, xs, ys, rfl, rfl, sqT_mono hS.sub h1, sqT_mono hS.sub h3, by omega, fun e => ?_, fun _ e => ?_, fun _ _ q hq => ?_⟩
      · subst e
        cases h2
        exact p.at hS (.tup h3 h4)
      · subst e
        cases h4
        rw [List.append_nil] at p
        exact p.at hS (.tup h1 h2)
      · exact p.newT hS (h2.append h4) hq
    next => exact (no_bad e).elim
  case lst.lst a1 xs ds h1 h2 a2 ys es h3 h4 =>
    have e' : mkL m (ds ++ es) S = .ok d S1 := e
    have l := mkL_len e'
    have l1 := h2.length
    have l2 := h4.length
    rw [List.length_append] at l
    exact op_cat pins s σ H _ _ v u Q I rx ry ⟨a1, a2, xs, ys, rfl, rfl, hS.sub _ _ h1, hS.sub _ _ h3, by omega, fun q hq => p.newL e' hS (h2.append h4) hq⟩
  case lst.ref a1 xs ds h1 h2 a2 j h3 =>
    have e' : (match lstAt S j with | some ys => mkL m (ds ++ ys) S | none => .bad) = .ok d S1 := e
    cases q : lstAt S j with
    | none => rw [q] at e'; cases e'
    | some es =>
      rw [q] at e'
      obtain ⟨ys, h4, h5⟩ := hS.lst h3 q
      have l := mkL_len e'
      have l1 := h2.length
      have l2 := h5.length
      rw [List.length_append] at l
      exact op_cat pins s σ H _ _ v u Q I rx ry ⟨a1, a2, xs, ys, rfl, rfl, hS.sub _ _ h1, h4, by omega, fun q hq => p.newL e' hS (h2.append h5) hq⟩
  case ref.lst a1 j h1 a2 ys es h3 h4 =>
    have e' : (match lstAt S j with | some xs => mkL m (xs ++ es) S | none => .bad) = .ok d S1 := e
    cases q : lstAt S j with
    | none => rw [q] at e'; cases e'
    | some ds =>
      rw [q] at e'
      obtain ⟨xs, h5, h6⟩ := hS.lst h1 q
      have l := mkL_len e'
      have l1 := h6.length
      have l2 := h4.length
      rw [List.length_append] at l
      exact op_cat pins s σ H _ _ v u Q I rx ry ⟨a1, a2, xs, ys, rfl, rfl, h5, hS.sub _ _ h3, by omega, fun q hq => p.newL e' hS (h6.append h4) hq⟩
  case ref.ref a1 i h1 a2 j h2 =>
    have e' : (match lstAt S i, lstAt S j with | some xs, some ys => mkL m (xs ++ ys) S | _, _ => .bad) = .ok d S1 := e
    cases q : lstAt S i with
    | none => rw [q] at e'; cases e'
    | some ds =>
      cases q2 : lstAt S j with
      | none => rw [q, q2] at e'; cases e'
      | some es =>
        rw [q, q2] at e'
        obtain ⟨xs, h3, h4⟩ := hS.lst h1 q
        obtain ⟨ys, h5, h6⟩ := hS.lst h2 q2
        have l := mkL_len e'
        have l1 := h4.length
        have l2 := h6.length
        rw [List.length_append] at l
        exact op_cat pins s σ H _ _ v u Q I rx ry ⟨a1, a2, xs, ys, rfl, rfl, h3, h5, by omega, fun q hq => p.newL e' hS (h4.append h6) hq⟩

theorem sound_mul (m : Bool) : OpR X (binaryOp .Mult) (rF2 X.K (mulOp m)) := by
  intro pins s σ H x y v u Q I rx ry h
  obtain ⟨F, mu, S, a, b, d, S1, hS, hx, hy, e, p⟩ := h
  cases hx <;> cases hy <;> first | (exfalso; cases e; done) | skip
  case int.int i j =>
    have e : (if i.natAbs.log2 + j.natAbs.log2 < 1000000 then M.pu (D.int (i * j)) else M.bad) S = .ok d S1 := e
    split at e
    · obtain ⟨rfl, rfl⟩ := pu_ok e
      exact op_mulW pins s σ H _ _ v u Q I rx ry ⟨i, j, rfl, rfl, by assumption, p.at hS (.int _)⟩
    · exact (no_bad e).elim
  case tup.int a1 xs ds h1 h2 k =>
    have e : (if ds ≠ [] ∧ 2 ≤ k ∧ k ≤ 1000 ∧ ds.length ≤ 1000 then M.pu (D.tup (List.replicate k.toNat ds).flatten) else M.bad) S = .ok d S1 := e
    split at e
    next hc =>
      obtain ⟨rfl, rfl⟩ := pu_ok e
      have l1 := h2.length
      refine op_repT pins s σ H _ _ v u Q I rx ry ⟨a1, k, xs, rfl, rfl, sqT_mono hS.sub h1, fun z => hc.1 ?_, hc.2.1, hc.2.2.1, by omega, fun q hq => p.newT hS (h2.flat _) hq⟩
      subst z
      cases h2
      rfl
    next => exact (no_bad e).elim
  case lst.int a1 xs ds h1 h2 k =>
    have e : (if 0 ≤ k ∧ k ≤ 1000 ∧ ds.length ≤ 1000 then mkL m (List.replicate k.toNat ds).flatten else M.bad) S = .ok d S1 := e
    split at e
    next hc =>
      have l1 := h2.length
      refine op_rep pins s σ H _ _ v u Q I rx ry ⟨a1, k, xs, rfl, rfl, hS.sub _ _ h1, by omega, by omega, ?_, fun q hq => p.newL e hS (h2.flat _) hq⟩
      have a1 : xs.length * k.toNat ≤ 1000 * 1000 := Nat.mul_le_mul (by omega) (by omega)
      rw [sizeLine_eq]
      omega
    next => exact (no_bad e).elim

theorem sound_bin (m : Bool) (op : Operator) : OpR X (binaryOp op) (rF2 X.K (binOp m op)) := by
  cases op with
  | Add => exact sound_add m
  | Mult => exact sound_mul m
  | Sub =>
    intro pins s σ H x y v u Q I rx ry h
    obtain ⟨F, mu, S, a, b, d, S1, hS, hx, hy, e, p⟩ := h
    cases hx <;> cases hy <;> first | (exfalso; cases e; done) | skip
    obtain ⟨rfl, rfl⟩ := pu_ok e
    exact op_sub pins s σ H _ _ v u Q I rx ry ⟨_, _, rfl, rfl, p.at hS (.int _)⟩
  | Mod =>
    intro pins s σ H x y v u Q I rx ry h
    obtain ⟨F, mu, S, a, b, d, S1, hS, hx, hy, e, p⟩ := h
    cases hx <;> cases hy <;> first | (exfalso; cases e; done) | skip
    unfold binOp at e
    simp only at e
    split at e
    · obtain ⟨rfl, rfl⟩ := pu_ok e
      exact op_mod pins s σ H _ _ v u Q I rx ry ⟨_, _, rfl, rfl, by assumption, p.at hS (.int _)⟩
    · exact (no_bad e).elim
  | FloorDiv =>
    intro pins s σ H x y v u Q I rx ry h
    obtain ⟨F, mu, S, a, b, d, S1, hS, hx, hy, e, p⟩ := h
    cases hx <;> cases hy <;> first | (exfalso; cases e; done) | skip
    unfold binOp at e
    simp only at e
    split at e
    · obtain ⟨rfl, rfl⟩ := pu_ok e
      exact op_fdivW pins s σ H _ _ v u Q I rx ry ⟨_, _, rfl, rfl, by assumption, p.at hS (.int _)⟩
    · exact (no_bad e).elim
  | Pow =>
    intro pins s σ H x y v u Q I rx ry h
    obtain ⟨F, mu, S, a, b, d, S1, hS, hx, hy, e, p⟩ := h
    cases hx <;> cases hy <;> first | (exfalso; cases e; done) | skip
    unfold binOp at e
    simp only at e
    split at e
    next hc =>
      obtain ⟨rfl, rfl⟩ := pu_ok e
      obtain ⟨t, rfl⟩ := rx
      obtain ⟨t', rfl⟩ := ry
      exact PyProof.Rows.pow_int hc.1 hc.2 ⟨.int _, H, I.tok _, ⟨_, rfl⟩, p.at hS (.int _)⟩
    next => exact (no_bad e).elim
  | _ =>
    intro pins s σ H x y v u Q I rx ry h
    obtain ⟨F, mu, S, a, b, d, S1, hS, hx, hy, e, p⟩ := h
    exact (no_bad (S := S) e).elim

/-! ### comparisons -/
theorem eqS_sound {K : PySem.W.Frag} {F : Hp} {mu : List Addr} {x y : V} {a b : D} {r : Bool} (hx : Rp K F mu x a) (hy : Rp K F mu y b) (e : eqS a b = some r) : scal x y = true ∧ decide (x = y) = r := by
  cases hx <;> cases hy <;> first | (simp [eqS] at e; done) | skip
  all_goals
    simp only [eqS, Option.some.injEq] at e
    subst e
    refine ⟨rfl, ?_⟩
    first | rfl | exact decide_eq_false (by intro z; cases z) | exact decide_eq_true rfl | (simp)

theorem op_eqNil (hu : X.A.units + 64 < cLine) : OpR X (compareOp .Eq) (fun x y H Q => ∃ a b xs, x = .ref a ∧ y = .ref b ∧ SqT X.K H a xs ∧ SqT X.K H b [] ∧ Q (.bl xs.isEmpty) H) := by
  intro pins s σ H x y v u Q I rx ry h
  obtain ⟨a, b, xs, rfl, rfl, ha, hb, q⟩ := h
  cases rx
  cases ry
  obtain ⟨its, rv, ⟨o, ho, hc, n, hd⟩, _⟩ := I.tuple ha
  obtain ⟨its2, rv2, ⟨o2, ho2, hc2, n2, hd2⟩, _⟩ := I.tuple hb
  cases rv2
  refine SeqAt.eq_tupleAt (e := fun _ => true) ⟨o, ho, hc, n, hd⟩ ⟨o2, ho2, hc2, n2, hd2⟩ (by omega) (fun j _ h2 => absurd h2 (Nat.not_lt_zero j)) ⟨.bl _, H, I, rfl, ?_⟩
  have e : ((List.range (min its.toArray.size (#[] : Array Value).size)).all (fun _ => true) && its.toArray.size == (#[] : Array Value).size) = xs.isEmpty := by cases rv <;> simp
  exact e ▸ q
theorem op_neNil (hu : X.A.units + 64 < cLine) : OpR X (compareOp .NotEq) (fun x y H Q => ∃ a b xs, x = .ref a ∧ y = .ref b ∧ SqT X.K H a xs ∧ SqT X.K H b [] ∧ Q (.bl (!xs.isEmpty)) H) := by
  intro pins s σ H x y v u Q I rx ry h
  obtain ⟨a, b, xs, rfl, rfl, ha, hb, q⟩ := h
  cases rx
  cases ry
  obtain ⟨its, rv, ⟨o, ho, hc, n, hd⟩, _⟩ := I.tuple ha
  obtain ⟨its2, rv2, ⟨o2, ho2, hc2, n2, hd2⟩, _⟩ := I.tuple hb
  cases rv2
  refine SeqAt.RcNeAt.tuples (e := fun _ => true) ⟨o, ho, hc, n, hd⟩ ⟨o2, ho2, hc2, n2, hd2⟩ (by omega) (fun j _ h2 => absurd h2 (Nat.not_lt_zero j)) _ _ _ _ ⟨.bl _, H, I, rfl, ?_⟩
  have e : (!((List.range (min its.toArray.size (#[] : Array Value).size)).all (fun _ => true) && its.toArray.size == (#[] : Array Value).size)) = !xs.isEmpty := by cases rv <;> simp
  exact e ▸ q
theorem nil_rp {K : PySem.W.Frag} {F H : Hp} {mu : List Addr} {S : Store} (hS : Sr K F mu S H) {x y : V} {a b : D} {r : Bool} (hx : Rp K F mu x a) (hy : Rp K F mu y b) (e : eqNil a b = some r) : ∃ ax ay xs, x = .ref ax ∧ y = .ref ay ∧ SqT K H ax xs ∧ SqT K H ay [] ∧ r = xs.isEmpty := by
  cases hx <;> first | (exfalso; cases e; done) | skip
  rename_i ax xs ds h1 h2
  cases hy <;> first | (exfalso; cases e; done) | skip
  rename_i ay ys es g1 g2
  cases g2 with
  | nil =>
    cases e
    refine ⟨_, _, _, rfl, rfl, sqT_mono hS.sub h1, sqT_mono hS.sub g1, ?_⟩
    cases h2 <;> rfl
  | cons _ _ => exfalso; cases e
theorem sound_eq (hu : X.A.units + 64 < cLine) : OpR X (compareOp .Eq) (rF2 X.K (cmpOp .Eq)) := by
  intro pins s σ H x y v u Q I rx ry h
  obtain ⟨F, mu, S, a, b, d, S1, hS, hx, hy, e, p⟩ := h
  have e' : (match eqD S a b with | some r => R.ok (D.bl r) S | none => .bad) = .ok d S1 := e
  cases q : eqD S a b with
  | none => rw [q] at e'; cases e'
  | some r =>
    rw [q] at e'
    injection e' with e1 e2
    subst e1 e2
    unfold eqD at q
    cases q2 : eqS a b with
    | some r2 =>
      rw [q2] at q
      cases q
      obtain ⟨h1, h2⟩ := eqS_sound hx hy q2
      refine op_eq pins s σ H _ _ v u Q I rx ry ⟨h1, ?_⟩
      rw [h2]
      exact p.at hS (.bl _)
    | none =>
      rw [q2] at q
      simp only at q
      cases q5 : eqDeep S a b with
      | none =>
        rw [q5] at q
        simp only at q
        obtain ⟨ax, ay, xs, rfl, rfl, n1, n2, rfl⟩ := nil_rp hS hx hy q
        exact op_eqNil hu pins s σ H _ _ v u Q I rx ry ⟨_, _, xs, rfl, rfl, n1, n2, p.at hS (.bl _)⟩
      | some r5 =>
      rw [q5] at q
      cases q
      simp only [eqDeep] at q5
      cases q3 : pyOf S a with
      | none => rw [q3] at q5; cases q5
      | some pa =>
        cases q4 : pyOf S b with
        | none => rw [q3, q4] at q5; cases q5
        | some pb =>
          rw [q3, q4] at q5
          simp only at q5
          split at q5
          next hc =>
            rw [Bool.and_eq_true] at hc
            cases q5
            exact op_eqD hu pins s σ H _ _ v u Q I rx ry ⟨pa, pb, hS.data hx q3, hS.data hy q4, hc.1, hc.2, p.at hS (.bl _)⟩
          next => cases q5

theorem sound_ne (hu : X.A.units + 64 < cLine) : OpR X (compareOp .NotEq) (rF2 X.K (cmpOp .NotEq)) := by
  intro pins s σ H x y v u Q I rx ry h
  obtain ⟨F, mu, S, a, b, d, S1, hS, hx, hy, e, p⟩ := h
  have e' : (match eqD S a b with | some r => R.ok (D.bl (!r)) S | none => .bad) = .ok d S1 := e
  cases q : eqD S a b with
  | none => rw [q] at e'; cases e'
  | some r =>
    rw [q] at e'
    injection e' with e1 e2
    subst e1 e2
    unfold eqD at q
    cases q2 : eqS a b with
    | some r2 =>
      rw [q2] at q
      cases q
      obtain ⟨h1, h2⟩ := eqS_sound hx hy q2
      refine op_ne pins s σ H _ _ v u Q I rx ry ⟨h1, ?_⟩
      rw [h2]
      exact p.at hS (.bl _)
    | none =>
      rw [q2] at q
      simp only at q
      cases q5 : eqDeep S a b with
      | none =>
        rw [q5] at q
        simp only at q
        obtain ⟨ax, ay, xs, rfl, rfl, n1, n2, rfl⟩ := nil_rp hS hx hy q
        exact op_neNil hu pins s σ H _ _ v u Q I rx ry ⟨_, _, xs, rfl, rfl, n1, n2, p.at hS (.bl _)⟩
      | some r5 =>
      rw [q5] at q
      cases q
      simp only [eqDeep] at q5
      cases q3 : pyOf S a with
      | none => rw [q3] at q5; cases q5
      | some pa =>
        cases q4 : pyOf S b with
        | none => rw [q3, q4] at q5; cases q5
        | some pb =>
          rw [q3, q4] at q5
          simp only at q5
          split at q5
          next hc =>
            rw [Bool.and_eq_true] at hc
            cases q5
            exact op_neD hu pins s σ H _ _ v u Q I rx ry ⟨pa, pb, hS.data hx q3, hS.data hy q4, hc.1, hc.2, p.at hS (.bl _)⟩
          next => cases q5

theorem flat_rp {K : PySem.W.Frag} {F : Hp} {mu : List Addr} {x : V} {a : D} (h : Rp K F mu x a) (e : flatD a = true) : flatV x = true := by
  cases h <;> first | rfl | (simp [flatD] at e; done)
theorem flat_rps {K : PySem.W.Frag} {F : Hp} {mu : List Addr} : ∀ {xs : List V} {ds : List D}, Rps K F mu xs ds → ds.all flatD = true → xs.all flatV = true
  | _, _, .nil, _ => rfl
  | _, _, .cons r t, e => by
    rw [List.all_cons, Bool.and_eq_true] at e
    rw [List.all_cons, Bool.and_eq_true]
    exact ⟨flat_rp r e.1, flat_rps t e.2⟩
theorem eqV_rp {K : PySem.W.Frag} {F : Hp} {mu : List Addr} {x y : V} {a b : D} (h : Rp K F mu x a) (h2 : Rp K F mu y b) (e : flatD a = true) (e2 : flatD b = true) : eqV x y = eqF a b := by
  cases h <;> first | (simp [flatD] at e; done) | skip
  all_goals
    cases h2 <;> first | (simp [flatD] at e2; done) | rfl
theorem inV_rp {K : PySem.W.Frag} {F : Hp} {mu : List Addr} {x : V} {a : D} (h : Rp K F mu x a) (e : flatD a = true) : ∀ {xs : List V} {ds : List D}, Rps K F mu xs ds → ds.all flatD = true → inV x xs = inF a ds
  | _, _, .nil, _ => rfl
  | _, _, .cons r t, e2 => by
    rw [List.all_cons, Bool.and_eq_true] at e2
    have ih := inV_rp h e t e2.2
    unfold inV inF at ih ⊢
    rw [List.any_cons, List.any_cons, ih, eqV_rp r h e2.1 e]

theorem sound_in (hu : X.A.units + 65 < cLine) : OpR X (compareOp .In) (rF2 X.K (cmpOp .In)) := by
  intro pins s σ H x y v u Q I rx ry h
  obtain ⟨F, mu, S, a, b, d, S1, hS, hx, hy, e, p⟩ := h
  have e' : (match seqOf S b with | some xs => if flatD a && xs.all flatD then R.ok (D.bl (inF a xs)) S else (match inDeep S a b with | some r => R.ok (D.bl r) S | none => .bad) | none => .bad) = .ok d S1 := e
  cases q : seqOf S b with
  | none => rw [q] at e'; cases e'
  | some ds =>
    rw [q] at e'
    simp only at e'
    split at e'
    next hc =>
      rw [Bool.and_eq_true] at hc
      injection e' with e1 e2
      subst e1 e2
      obtain ⟨ad, xs, rfl, hs, hr⟩ := hS.seq hy q
      refine op_in_seq pins s σ H _ _ v u Q I rx ry ⟨ad, xs, rfl, hs, flat_rp hx hc.1, flat_rps hr hc.2, ?_⟩
      rw [if_neg Bool.false_ne_true, inV_rp hx hc.1 hr hc.2]
      exact p.at hS (.bl _)
    next =>
      cases q2 : inDeep S a b with
      | none => rw [q2] at e'; cases e'
      | some r =>
        rw [q2] at e'
        injection e' with e1 e2
        subst e1 e2
        unfold inDeep at q2
        split at q2
        next p1 qs q3 q4 =>
          split at q2
          next hc =>
            rw [Bool.and_eq_true] at hc
            cases q2
            exact op_inD hu pins s σ H _ _ v u Q I rx ry ⟨_, _, hS.data hx q3, hS.data hy q4, hc.1, hc.2, p.at hS (.bl _)⟩
          next => cases q2
        next => cases q2
theorem sound_notin (hu : X.A.units + 65 < cLine) : OpR X (compareOp .NotIn) (rF2 X.K (cmpOp .NotIn)) := by
  intro pins s σ H x y v u Q I rx ry h
  obtain ⟨F, mu, S, a, b, d, S1, hS, hx, hy, e, p⟩ := h
  have e' : (match seqOf S b with | some xs => if flatD a && xs.all flatD then R.ok (D.bl (!inF a xs)) S else (match inDeep S a b with | some r => R.ok (D.bl (!r)) S | none => .bad) | none => .bad) = .ok d S1 := e
  cases q : seqOf S b with
  | none => rw [q] at e'; cases e'
  | some ds =>
    rw [q] at e'
    simp only at e'
    split at e'
    next hc =>
      rw [Bool.and_eq_true] at hc
      injection e' with e1 e2
      subst e1 e2
      obtain ⟨ad, xs, rfl, hs, hr⟩ := hS.seq hy q
      refine op_notIn_seq pins s σ H _ _ v u Q I rx ry ⟨ad, xs, rfl, hs, flat_rp hx hc.1, flat_rps hr hc.2, ?_⟩
      rw [if_pos rfl, inV_rp hx hc.1 hr hc.2]
      exact p.at hS (.bl _)
    next =>
      cases q2 : inDeep S a b with
      | none => rw [q2] at e'; cases e'
      | some r =>
        rw [q2] at e'
        injection e' with e1 e2
        subst e1 e2
        unfold inDeep at q2
        split at q2
        next p1 qs q3 q4 =>
          split at q2
          next hc =>
            rw [Bool.and_eq_true] at hc
            cases q2
            exact op_notInD hu pins s σ H _ _ v u Q I rx ry ⟨_, _, hS.data hx q3, hS.data hy q4, hc.1, hc.2, p.at hS (.bl _)⟩
          next => cases q2
        next => cases q2

theorem sound_cmp (hv : X.A.units + 65 < cLine) (op : CmpOp) : OpR X (compareOp op) (rF2 X.K (cmpOp op)) := by
  have hu : X.A.units + 64 < cLine := Nat.lt_trans (Nat.lt_succ_self _) hv
  cases op with
  | Eq => exact sound_eq hu
  | NotEq => exact sound_ne hu
  | In => exact sound_in hv
  | NotIn => exact sound_notin hv
  | Lt =>
    intro pins s σ H x y v u Q I rx ry h
    obtain ⟨F, mu, S, a, b, d, S1, hS, hx, hy, e, p⟩ := h
    cases hx <;> cases hy <;> first | (exfalso; cases e; done) | skip
    · obtain ⟨rfl, rfl⟩ := pu_ok e
      exact op_lt pins s σ H _ _ v u Q I rx ry ⟨_, _, rfl, rfl, p.at hS (.bl _)⟩
    · obtain ⟨rfl, rfl⟩ := pu_ok e
      exact op_lt_str pins s σ H _ _ v u Q I rx ry ⟨_, _, rfl, rfl, p.at hS (.bl _)⟩
  | LtE =>
    intro pins s σ H x y v u Q I rx ry h
    obtain ⟨F, mu, S, a, b, d, S1, hS, hx, hy, e, p⟩ := h
    cases hx <;> cases hy <;> first | (exfalso; cases e; done) | skip
    obtain ⟨rfl, rfl⟩ := pu_ok e
    exact op_le pins s σ H _ _ v u Q I rx ry ⟨_, _, rfl, rfl, p.at hS (.bl _)⟩
  | Gt =>
    intro pins s σ H x y v u Q I rx ry h
    obtain ⟨F, mu, S, a, b, d, S1, hS, hx, hy, e, p⟩ := h
    cases hx <;> cases hy <;> first | (exfalso; cases e; done) | skip
    · obtain ⟨rfl, rfl⟩ := pu_ok e
      exact op_gt pins s σ H _ _ v u Q I rx ry ⟨_, _, rfl, rfl, p.at hS (.bl _)⟩
    · obtain ⟨rfl, rfl⟩ := pu_ok e
      obtain ⟨t, rfl⟩ := rx
      obtain ⟨t', rfl⟩ := ry
      exact PySem.P.gt_str (fin_bl I (p.at hS (.bl _)) rfl)
  | GtE =>
    intro pins s σ H x y v u Q I rx ry h
    obtain ⟨F, mu, S, a, b, d, S1, hS, hx, hy, e, p⟩ := h
    cases hx <;> cases hy <;> first | (exfalso; cases e; done) | skip
    obtain ⟨rfl, rfl⟩ := pu_ok e
    exact op_ge pins s σ H _ _ v u Q I rx ry ⟨_, _, rfl, rfl, p.at hS (.bl _)⟩
  | Is =>
    intro pins s σ H x y v u Q I rx ry h
    obtain ⟨F, mu, S, a, b, d, S1, hS, hx, hy, e, p⟩ := h
    cases hy <;> first | (exfalso; cases e; done) | skip
    · obtain ⟨rfl, rfl⟩ := pu_ok e
      refine op_isN pins s σ H _ _ v u Q I rx ry ⟨rfl, ?_⟩
      cases hx <;> exact p.at hS (.bl _)
    · cases hx <;> first | (exfalso; cases e; done) | skip
      obtain ⟨rfl, rfl⟩ := pu_ok e
      exact op_isBl pins s σ H _ _ v u Q I rx ry ⟨_, _, rfl, rfl, p.at hS (.bl _)⟩
  | IsNot =>
    intro pins s σ H x y v u Q I rx ry h
    obtain ⟨F, mu, S, a, b, d, S1, hS, hx, hy, e, p⟩ := h
    cases hy <;> first | (exfalso; cases e; done) | skip
    · obtain ⟨rfl, rfl⟩ := pu_ok e
      refine op_notN pins s σ H _ _ v u Q I rx ry ⟨rfl, ?_⟩
      cases hx <;> exact p.at hS (.bl _)
    · cases hx <;> first | (exfalso; cases e; done) | skip
      obtain ⟨rfl, rfl⟩ := pu_ok e
      exact op_notBl pins s σ H _ _ v u Q I rx ry ⟨_, _, rfl, rfl, p.at hS (.bl _)⟩

/-! ### subscripts -/
theorem atI_rps {K : PySem.W.Frag} {F : Hp} {mu : List Addr} {xs : List V} {ds : List D} {i : Int} {d : D} (h : Rps K F mu xs ds) (e : atI ds i = some d) : ∃ v, atI xs i = some v ∧ Rp K F mu v d := by
  unfold atI at e ⊢
  rw [h.length]
  cases q : ixN ds.length i with
  | none => rw [q] at e; cases e
  | some j =>
    rw [q] at e
    exact h.get (i := j) e

theorem sound_ix : IxR X (rF2 X.K ixOp) := by
  intro value slice pins s σ H x y v u Q I rx ry h hs
  obtain ⟨F, mu, S, a, b, d, S1, hS, hx, hy, e, p⟩ := h
  cases hy <;> first | (exfalso; cases hx <;> cases e; done) | skip
  rename_i i
  have key : ∀ ds, seqOf S a = some ds → (match atI ds i with | some d => R.ok d S | none => .bad) = .ok d S1 → wpAny (model X.prog X.w) X.A (subscriptTail value slice v u) (EP X pins σ Q) X.xe s := by
    intro ds q e'
    cases q2 : atI ds i with
    | none => rw [q2] at e'; cases e'
    | some d' =>
      rw [q2] at e'
      injection e' with e1 e2
      subst e1 e2
      obtain ⟨ad, xs, rfl, hq, hr⟩ := hS.seq hx q
      obtain ⟨w, hw, rw'⟩ := atI_rps hr q2
      rcases hq with hq | hq
      · exact ix_seq value slice pins s σ H _ _ v u Q I rx ry (.inl ⟨ad, xs, i, w, rfl, rfl, hq, hw, p.at hS rw'⟩) hs
      · exact ix_seq value slice pins s σ H _ _ v u Q I rx ry (.inr (.inl ⟨ad, xs, i, w, rfl, rfl, hq, hw, p.at hS rw'⟩)) hs
  cases hx with
  | str z =>
    have e' : (if z.length ≤ sizeLine then (match atI z.cps.toList i with | some c => M.pu (D.str ⟨#[c]⟩) | none => M.bad) else M.bad) S = R.ok d S1 := e
    split at e'
    next hz =>
      cases q : atI z.cps.toList i with
      | none => rw [q] at e'; exact (no_bad e').elim
      | some c =>
        rw [q] at e'
        obtain ⟨rfl, rfl⟩ := pu_ok e'
        exact ix_seq value slice pins s σ H _ _ v u Q I rx ry (.inr (.inr ⟨z, i, c, rfl, rfl, hz, q, p.at hS (.str _)⟩)) hs
    next => exact (no_bad e').elim
  | tup h1 h2 => exact key _ rfl e
  | lst h1 h2 => exact key _ rfl e
  | rol h1 h2 => exact key _ rfl e
  | ref h1 =>
    rename_i ad j
    have e' : (match lstAt S j with | some xs => (match atI xs i with | some d => R.ok d S | none => .bad) | none => .bad) = R.ok d S1 := e
    cases q : lstAt S j with
    | none => rw [q] at e'; cases e'
    | some ds => rw [q] at e'; exact key ds q e'
  | non => cases e
  | bl b => cases e
  | int b => cases e
  | ty t => cases e
  | dct h1 h2 => cases e
  | dref h1 => cases e
  | err h1 h2 h3 h4 => cases e

theorem cutV_rps {K : PySem.W.Frag} {F : Hp} {mu : List Addr} {xs : List V} {ds : List D} (lo hi : Option Int) (h : Rps K F mu xs ds) : Rps K F mu (cutV xs lo hi) (cutD ds lo hi) := by
  unfold cutV cutD
  rw [h.length]
  exact (h.drop _).take _
theorem cutV_all (xs : List V) (lo hi : Option Int) (h : HT.sIx xs.length 0 lo = 0 ∧ HT.sIx xs.length xs.length hi = xs.length) : cutV xs lo hi = xs := by
  unfold cutV
  rw [h.1, h.2]
  simp
theorem cutD_all (xs : List D) (lo hi : Option Int) (h : HT.sIx xs.length 0 lo = 0 ∧ HT.sIx xs.length xs.length hi = xs.length) : cutD xs lo hi = xs := by
  unfold cutD
  rw [h.1, h.2]
  simp

def rSlE (K : PySem.W.Frag) (m : Bool) : V → Option Int → Option Int → Hp → VK → Prop := fun x lo hi H Q =>
  ∃ F mu S a d S1, Sr K F mu S H ∧ Rp K F mu x a ∧ slOp m a lo hi S = .ok d S1 ∧ Post K F mu H d S1 Q
theorem sound_sl (m : Bool) : SlR X (rSlE X.K m) := by
  intro pins s σ H x v vl vu lo hi sl Q I rx hs pl pu h
  obtain ⟨F, mu, S, a, d, S1, hS, hx, e, p⟩ := h
  cases hx with
  | str z =>
    have e' : (if z.length ≤ sizeLine then M.pu (D.str (cutS z lo hi)) else M.bad) S = R.ok d S1 := e
    split at e'
    next hz =>
      obtain ⟨rfl, rfl⟩ := pu_ok e'
      exact sl_str pins s σ H _ v vl vu lo hi sl Q I rx hs pl pu ⟨z, rfl, hz, p.at hS (.str _)⟩
    next => exact (no_bad e').elim
  | tup h1 h2 =>
    obtain ⟨rfl, rfl⟩ := pu_ok e
    refine sl_tupA pins s σ H _ v vl vu lo hi sl Q I rx hs pl pu ⟨_, _, rfl, sqT_mono hS.sub h1, fun hw => ?_, fun _ q hq => ?_⟩
    · have hw' := hw
      rw [h2.length] at hw'
      rw [cutD_all _ lo hi hw'] at p
      exact p.at hS (.tup h1 h2)
    · exact p.newT hS (cutV_rps lo hi h2) hq
  | lst h1 h2 =>
    exact sl_list pins s σ H _ v vl vu lo hi sl Q I rx hs pl pu ⟨_, _, rfl, .inl (.inl (hS.sub _ _ h1)), fun q hq => p.newL e hS (cutV_rps lo hi h2) hq⟩
  | ref h1 =>
    rename_i ad j
    have e' : (match lstAt S j with | some xs => mkL m (cutD xs lo hi) S | none => .bad) = R.ok d S1 := e
    cases q : lstAt S j with
    | none => rw [q] at e'; cases e'
    | some ds =>
      rw [q] at e'
      obtain ⟨xs, h3, h4⟩ := hS.lst h1 q
      exact sl_list pins s σ H _ v vl vu lo hi sl Q I rx hs pl pu ⟨_, _, rfl, .inl (.inl h3), fun q hq => p.newL e' hS (cutV_rps lo hi h4) hq⟩
  | _ => exfalso; cases e

/-! ### truth, not, minus -/
theorem Sr.truth {K : PySem.W.Frag} {F H : Hp} {mu : List Addr} {S : Store} (r : Sr K F mu S H) {x : V} {a : D} {k : Bool} (h : Rp K F mu x a) (e : truth S a = some k) : TruV K x H k := by
  have key : ∀ {ad : Addr} {ds : List D} {xs : List V}, (SqL K H ad xs ∨ SqT K H ad xs) → Rps K F mu xs ds → k = !ds.isEmpty → TruV K (.ref ad) H k := by
    intro ad ds xs hq hr e
    have ee : (!ds.isEmpty) = !xs.isEmpty := by cases hr <;> rfl
    rcases hq with hq | hq
    · exact .inl ⟨xs, hq, e.trans ee⟩
    · exact .inr (.inl ⟨xs, hq, e.trans ee⟩)
  cases h with
  | non => cases e; rfl
  | bl b => cases e; rfl
  | int i => cases e; rfl
  | str z =>
    have e' : (if z.length ≤ sizeLine then some ((z.length : Int) != 0) else none) = some k := e
    split at e'
    next hz => cases e'; exact ⟨hz, rfl⟩
    next => cases e'
  | tup h1 h2 => cases e; exact key (.inr (sqT_mono r.sub h1)) h2 rfl
  | lst h1 h2 => cases e; exact key (.inl (.inl (.inl (r.sub _ _ h1)))) h2 rfl
  | rol h1 h2 => cases e; exact key (.inl (sqL_mono r.sub h1)) h2 rfl
  | ref h1 =>
    rename_i ad j
    have e' : (lstAt S j).map (fun xs => !xs.isEmpty) = some k := e
    cases q : lstAt S j with
    | none => rw [q] at e'; cases e'
    | some ds =>
      rw [q] at e'
      cases e'
      obtain ⟨xs, h3, h4⟩ := r.lst h1 q
      exact key (.inl (.inl (.inl h3))) h4 rfl
  | ty t => cases e
  | dct h1 h2 => cases e
  | dref h1 => cases e
  | err h1 h2 h3 h4 => cases e

theorem sound_neg : UnR X (unaryOp .USub) (rF1 X.K negOp) := by
  intro pins s σ H x v Q I rx h
  obtain ⟨F, mu, S, a, d, S1, hS, hx, e, p⟩ := h
  cases hx <;> first | (exfalso; cases e; done) | skip
  obtain ⟨rfl, rfl⟩ := pu_ok e
  exact un_neg pins s σ H _ v Q I rx ⟨_, rfl, p.at hS (.int _)⟩
end
end Ev2
/-! E4: calls of built-ins, list methods, tuple.index. -/
namespace Ev2
open PySem L2 PyProof.Rows

/-- the value of a built-in by its name -/
def Blt.val : Blt → Value
  | .len => .builtin "len" | .tuple => .type "tuple" | .list => .type "list" | .all => .builtin "all" | .any => .builtin "any" | .sum => .builtin "sum" | .max => .builtin "max"
  | .min => .builtin "min" | .abs => .builtin "abs" | .int => .type "int" | .repr => .builtin "repr" | .isi => .builtin "isinstance" | .str => .type "str"

def rCallE (K : PySem.W.Frag) (f : List D → M D) : List V → Hp → VK → Prop := fun xs H Q =>
  ∃ F mu S as d S1, Sr K F mu S H ∧ Rps K F mu xs as ∧ f as S = .ok d S1 ∧ Post K F mu H d S1 Q

section
variable {X : Cx}

theorem rps1 {K : PySem.W.Frag} {F : Hp} {mu : List Addr} {xs : List V} {a : D} (h : Rps K F mu xs [a]) : ∃ x, xs = [x] ∧ Rp K F mu x a := by
  cases h with
  | cons r t => cases t; exact ⟨_, rfl, r⟩
theorem rps2 {K : PySem.W.Frag} {F : Hp} {mu : List Addr} {xs : List V} {a b : D} (h : Rps K F mu xs [a, b]) : ∃ x y, xs = [x, y] ∧ Rp K F mu x a ∧ Rp K F mu y b := by
  cases h with
  | cons r t =>
    obtain ⟨y, rfl, q⟩ := rps1 t
    exact ⟨_, _, rfl, r, q⟩

theorem sound_len (m : Bool) : CallR X (Blt.val .len) (rCallE X.K (callB m .len)) := by
  intro pins s σ H xs us Q I r h
  obtain ⟨F, mu, S, as, d, S1, hS, hr, e, p⟩ := h
  rcases as with _ | ⟨a, _ | ⟨b, as⟩⟩
  · cases e
  · obtain ⟨x, rfl, hx⟩ := rps1 hr
    have key : ∀ ds, seqOf S a = some ds → R.ok (D.int ds.length) S = R.ok d S1 → wpAny (model X.prog X.w) X.A (call (Blt.val .len) us) (EP X pins σ Q) X.xe s := by
      intro ds q e'
      injection e' with e1 e2
      subst e1 e2
      obtain ⟨ad, ys, rfl, hq, hrs⟩ := hS.seq hx q
      refine call_len_seq pins s σ H _ us Q I r ⟨ad, ys, rfl, hq, ?_⟩
      rw [hrs.length]
      exact p.at hS (.int _)
    cases hx with
    | str z =>
      have e : (if z.length ≤ sizeLine then M.pu (D.int z.length) else M.bad) S = .ok d S1 := e
      split at e
      next hz =>
        obtain ⟨rfl, rfl⟩ := pu_ok e
        exact call_len_str pins s σ H _ us Q I r ⟨z, rfl, hz, p.at hS (.int _)⟩
      next => exact (no_bad e).elim
    | tup h1 h2 => exact key _ rfl e
    | lst h1 h2 => exact key _ rfl e
    | rol h1 h2 => exact key _ rfl e
    | ref h1 =>
      rename_i ad j
      have e' : (match lstAt S j with | some xs => R.ok (D.int xs.length) S | none => .bad) = R.ok d S1 := e
      cases q : lstAt S j with
      | none => rw [q] at e'; cases e'
      | some ds => rw [q] at e'; exact key ds q e'
    | non => cases e
    | bl b => cases e
    | int b => cases e
    | ty t => cases e
    | dct h1 h2 => cases e
    | err h1 h2 h3 h4 => cases e
    | dref h1 =>
      rename_i ad j
      have e' : (match dctAt S j with | some kvs => R.ok (D.int kvs.length) S | none => .bad) = R.ok d S1 := e
      cases q : dctAt S j with
      | none => rw [q] at e'; cases e'
      | some kvs =>
        rw [q] at e'
        injection e' with e1 e2
        subst e1 e2
        obtain ⟨ks, h3, h4⟩ := hS.dct h1 q
        obtain ⟨u, rfl, ru⟩ := vals1 r
        cases ru
        refine d_len I (.inl h3) fun t s' I' => ⟨.int _, H, I', ⟨t, rfl⟩, ?_⟩
        rw [h4.length]
        exact p.at hS (.int _)
  · cases a <;> cases e

theorem sound_tuple (m : Bool) : CallR X (Blt.val .tuple) (rCallE X.K (callB m .tuple)) := by
  intro pins s σ H xs us Q I r h
  obtain ⟨F, mu, S, as, d, S1, hS, hr, e, p⟩ := h
  rcases as with _ | ⟨a, _ | ⟨b, as⟩⟩
  · cases e
  · obtain ⟨x, rfl, hx⟩ := rps1 hr
    have e' : (match seqOf S a with | some xs => R.ok (D.tup xs) S | none => .bad) = R.ok d S1 := e
    cases q : seqOf S a with
    | none => rw [q] at e'; cases e'
    | some ds =>
      rw [q] at e'
      injection e' with e1 e2
      subst e1 e2
      cases hx with
      | tup h1 h2 =>
        cases q
        exact call_tuple_of pins s σ H _ us Q I r ⟨_, _, rfl, .inr ⟨sqT_mono hS.sub h1, p.at hS (.tup h1 h2)⟩⟩
      | lst h1 h2 =>
        cases q
        exact call_tuple_of pins s σ H _ us Q I r ⟨_, _, rfl, .inl ⟨.inl (.inl (hS.sub _ _ h1)), fun l hl => p.newT hS h2 hl⟩⟩
      | rol h1 h2 =>
        cases q
        exact call_tuple_of pins s σ H _ us Q I r ⟨_, _, rfl, .inl ⟨sqL_mono hS.sub h1, fun l hl => p.newT hS h2 hl⟩⟩
      | ref h1 =>
        obtain ⟨ys, h3, h4⟩ := hS.lst h1 q
        exact call_tuple_of pins s σ H _ us Q I r ⟨_, _, rfl, .inl ⟨.inl (.inl h3), fun l hl => p.newT hS h4 hl⟩⟩
      | _ => cases q
  · cases e

theorem sound_list (m : Bool) : CallR X (Blt.val .list) (rCallE X.K (callB m .list)) := by
  intro pins s σ H xs us Q I r h
  obtain ⟨F, mu, S, as, d, S1, hS, hr, e, p⟩ := h
  rcases as with _ | ⟨a, _ | ⟨b, as⟩⟩
  · cases e
  · obtain ⟨x, rfl, hx⟩ := rps1 hr
    have e' : (match seqOf S a with | some xs => mkL m xs S | none => .bad) = R.ok d S1 := e
    cases q : seqOf S a with
    | none => rw [q] at e'; cases e'
    | some ds =>
      rw [q] at e'
      obtain ⟨ad, ys, rfl, hq, hrs⟩ := hS.seq hx q
      exact call_list_of pins s σ H _ us Q I r ⟨ad, ys, rfl, hq, fun l hl => p.newL e' hS hrs hl⟩
  · cases e

theorem bools_rps {K : PySem.W.Frag} {F : Hp} {mu : List Addr} : ∀ {ds : List D} {xs : List V} {bs : List Bool}, Rps K F mu xs ds → boolsOf ds = some bs → xs = bs.map V.bl
  | [], _, _, .nil, e => by cases e; rfl
  | d :: ds, _, _, .cons r t, e => by
    cases r <;> first | (exfalso; cases e; done) | skip
    rename_i b
    have e' : (boolsOf ds).map (fun bs => b :: bs) = some _ := e
    cases q : boolsOf ds with
    | none => rw [q] at e'; cases e'
    | some bs =>
      rw [q] at e'
      cases e'
      rw [bools_rps t q]
      rfl
theorem ints_rps {K : PySem.W.Frag} {F : Hp} {mu : List Addr} : ∀ {ds : List D} {xs : List V} {bs : List Int}, Rps K F mu xs ds → intsOf ds = some bs → xs = bs.map V.int
  | [], _, _, .nil, e => by cases e; rfl
  | d :: ds, _, _, .cons r t, e => by
    cases r <;> first | (exfalso; cases e; done) | skip
    rename_i b
    have e' : (intsOf ds).map (fun bs => b :: bs) = some _ := e
    cases q : intsOf ds with
    | none => rw [q] at e'; cases e'
    | some bs =>
      rw [q] at e'
      cases e'
      rw [ints_rps t q]
      rfl

theorem list_bools {K : PySem.W.Frag} {F H : Hp} {mu : List Addr} {S : Store} (hS : Sr K F mu S H) {x : V} {a : D} {bs : List Bool} (hx : Rp K F mu x a) (e : (listOf S a).bind boolsOf = some bs) : ∃ ad, x = .ref ad ∧ SqL K H ad (bs.map V.bl) := by
  cases q : listOf S a with
  | none => rw [q] at e; cases e
  | some ds =>
    rw [q] at e
    obtain ⟨ad, ys, rfl, hq, hrs⟩ := hS.lists hx q
    rw [bools_rps hrs e] at hq
    exact ⟨ad, rfl, hq⟩
theorem list_ints {K : PySem.W.Frag} {F H : Hp} {mu : List Addr} {S : Store} (hS : Sr K F mu S H) {x : V} {a : D} {bs : List Int} (hx : Rp K F mu x a) (e : (listOf S a).bind intsOf = some bs) : ∃ ad, x = .ref ad ∧ SqL K H ad (bs.map V.int) := by
  cases q : listOf S a with
  | none => rw [q] at e; cases e
  | some ds =>
    rw [q] at e
    obtain ⟨ad, ys, rfl, hq, hrs⟩ := hS.lists hx q
    rw [ints_rps hrs e] at hq
    exact ⟨ad, rfl, hq⟩

theorem sound_all (hc : X.calm = true) (m : Bool) : CallR X (Blt.val .all) (rCallE X.K (callB m .all)) := by
  intro pins s σ H xs us Q I r h
  obtain ⟨F, mu, S, as, d, S1, hS, hr, e, p⟩ := h
  rcases as with _ | ⟨a, _ | ⟨b, as⟩⟩
  · cases e
  · obtain ⟨x, rfl, hx⟩ := rps1 hr
    have e' : (match (listOf S a).bind boolsOf with | some bs => R.ok (D.bl (bs.all id)) S | none => .bad) = R.ok d S1 := e
    cases q : (listOf S a).bind boolsOf with
    | none => rw [q] at e'; cases e'
    | some bs =>
      rw [q] at e'
      injection e' with e1 e2
      subst e1 e2
      obtain ⟨ad, rfl, hq⟩ := list_bools hS hx q
      exact cr_all hc pins s σ H _ us Q I r ⟨ad, bs, rfl, hq, p.at hS (.bl _)⟩
  · cases e
theorem sound_any (hc : X.calm = true) (m : Bool) : CallR X (Blt.val .any) (rCallE X.K (callB m .any)) := by
  intro pins s σ H xs us Q I r h
  obtain ⟨F, mu, S, as, d, S1, hS, hr, e, p⟩ := h
  rcases as with _ | ⟨a, _ | ⟨b, as⟩⟩
  · cases e
  · obtain ⟨x, rfl, hx⟩ := rps1 hr
    have e' : (match (listOf S a).bind boolsOf with | some bs => R.ok (D.bl (bs.any id)) S | none => .bad) = R.ok d S1 := e
    cases q : (listOf S a).bind boolsOf with
    | none => rw [q] at e'; cases e'
    | some bs =>
      rw [q] at e'
      injection e' with e1 e2
      subst e1 e2
      obtain ⟨ad, rfl, hq⟩ := list_bools hS hx q
      exact cr_any hc pins s σ H _ us Q I r ⟨ad, bs, rfl, hq, p.at hS (.bl _)⟩
  · cases e
theorem sound_sum (hc : X.calm = true) (m : Bool) : CallR X (Blt.val .sum) (rCallE X.K (callB m .sum)) := by
  intro pins s σ H xs us Q I r h
  obtain ⟨F, mu, S, as, d, S1, hS, hr, e, p⟩ := h
  rcases as with _ | ⟨a, _ | ⟨b, as⟩⟩
  · cases e
  · obtain ⟨x, rfl, hx⟩ := rps1 hr
    have e' : (match (listOf S a).bind intsOf with | some ns => R.ok (D.int ns.sum) S | none => .bad) = R.ok d S1 := e
    cases q : (listOf S a).bind intsOf with
    | none => rw [q] at e'; cases e'
    | some bs =>
      rw [q] at e'
      injection e' with e1 e2
      subst e1 e2
      obtain ⟨ad, rfl, hq⟩ := list_ints hS hx q
      exact cr_sum hc pins s σ H _ us Q I r ⟨ad, bs, rfl, hq, p.at hS (.int _)⟩
  · cases e

theorem two_ints {K : PySem.W.Frag} {F : Hp} {mu : List Addr} {S S1 : Store} {f : Blt} {g : Int → Int → Int} {m : Bool} {as : List D} {d : D} {xs : List V} (hr : Rps K F mu xs as) (e : callB m f as S = .ok d S1) (hf : f = .max) :
    ∃ i j, xs = [.int i, .int j] ∧ as = [.int i, .int j] := by
  subst hf
  all_goals
    rcases as with _ | ⟨a, _ | ⟨b, _ | ⟨c, as⟩⟩⟩
    · cases e
    · cases a <;> cases e
    · obtain ⟨x, y, rfl, hx, hy⟩ := rps2 hr
      cases hx <;> cases hy <;> first | (exfalso; cases e; done) | exact ⟨_, _, rfl, rfl⟩
    · cases a <;> cases b <;> cases e
theorem sound_max (hc : X.calm = true) (m : Bool) : CallR X (Blt.val .max) (rCallE X.K (callB m .max)) := by
  intro pins s σ H xs us Q I r h
  obtain ⟨F, mu, S, as, d, S1, hS, hr, e, p⟩ := h
  obtain ⟨i, j, rfl, rfl⟩ := two_ints (g := fun i _ => i) hr e rfl
  obtain ⟨rfl, rfl⟩ := pu_ok e
  exact call_max2 hc pins s σ H _ us Q I r ⟨i, j, rfl, p.at hS (.int _)⟩
theorem minI_le : ∀ (ns : List Int) (n : Int), minI n ns ≤ n ∧ (∀ y ∈ ns, minI n ns ≤ y) ∧ (minI n ns = n ∨ minI n ns ∈ ns)
  | [], n => ⟨Int.le_refl _, (fun _ z => nomatch z), .inl rfl⟩
  | m :: ns, n => by
    obtain ⟨h1, h2, h3⟩ := minI_le ns (if m < n then m else n)
    have e : minI n (m :: ns) = minI (if m < n then m else n) ns := rfl
    rw [e]
    have hk : (if m < n then m else n) ≤ n ∧ (if m < n then m else n) ≤ m := by constructor <;> split <;> omega
    refine ⟨Int.le_trans h1 hk.1, ?_, ?_⟩
    · intro y hy
      rcases List.mem_cons.mp hy with rfl | hy
      · exact Int.le_trans h1 hk.2
      · exact h2 y hy
    · rcases h3 with h3 | h3
      · rw [h3]
        split
        · exact .inr (.head _)
        · exact .inl rfl
      · exact .inr (.tail _ h3)
theorem sound_min (hc : X.calm = true) (m : Bool) : CallR X (Blt.val .min) (rCallE X.K (callB m .min)) := by
  intro pins s σ H xs us Q I r h
  obtain ⟨F, mu, S, as, d, S1, hS, hr, e, p⟩ := h
  rcases as with _ | ⟨a, _ | ⟨b, as⟩⟩
  · cases e
  · obtain ⟨x, rfl, hx⟩ := rps1 hr
    have e' : (match (listOf S a).bind intsOf with | some (n :: ns) => R.ok (D.int (minI n ns)) S | _ => .bad) = R.ok d S1 := by cases a <;> exact e
    cases q : (listOf S a).bind intsOf with
    | none => rw [q] at e'; cases e'
    | some bs =>
      rw [q] at e'
      cases bs with
      | nil => cases e'
      | cons n ns =>
        injection e' with e1 e2
        subst e1 e2
        obtain ⟨ad, rfl, hq⟩ := list_ints hS hx q
        refine cr_min hc pins s σ H _ us Q I r ⟨ad, n :: ns, rfl, hq, Nat.succ_pos _, fun m hm hle => ?_⟩
        obtain ⟨h1, h2, h3⟩ := minI_le ns n
        have em : m = minI n ns := by
          refine Int.le_antisymm (hle _ ?_) ?_
          · rcases h3 with h3 | h3
            · rw [h3]; exact .head _
            · exact .tail _ h3
          · rcases List.mem_cons.mp hm with rfl | hm
            · exact h1
            · exact h2 m hm
        rw [em]
        exact p.at hS (.int _)
  · have e2 : ∃ i j, xs = [.int i, .int j] ∧ a :: b :: as = [.int i, .int j] := by
      rcases as with _ | ⟨c, as⟩
      · obtain ⟨x, y, rfl, hx, hy⟩ := rps2 hr
        cases hx <;> cases hy <;> first | (exfalso; cases e; done) | exact ⟨_, _, rfl, rfl⟩
      · cases a <;> cases b <;> cases e
    obtain ⟨i, j, rfl, e3⟩ := e2
    rw [e3] at e
    obtain ⟨rfl, rfl⟩ := pu_ok e
    exact call_min2 hc pins s σ H _ us Q I r ⟨i, j, rfl, p.at hS (.int _)⟩
theorem sound_abs (m : Bool) : CallR X (Blt.val .abs) (rCallE X.K (callB m .abs)) := by
  intro pins s σ H xs us Q I r h
  obtain ⟨F, mu, S, as, d, S1, hS, hr, e, p⟩ := h
  rcases as with _ | ⟨a, _ | ⟨b, as⟩⟩
  · cases e
  · obtain ⟨x, rfl, hx⟩ := rps1 hr
    cases hx <;> first | (exfalso; cases e; done) | skip
    obtain ⟨rfl, rfl⟩ := pu_ok e
    exact call_abs pins s σ H _ us Q I r ⟨_, rfl, p.at hS (.int _)⟩
  · cases a <;> cases e
theorem sound_int (m : Bool) : CallR X (Blt.val .int) (rCallE X.K (callB m .int)) := by
  intro pins s σ H xs us Q I r h
  obtain ⟨F, mu, S, as, d, S1, hS, hr, e, p⟩ := h
  rcases as with _ | ⟨a, _ | ⟨b, as⟩⟩
  · cases e
  · obtain ⟨x, rfl, hx⟩ := rps1 hr
    cases hx <;> first | (exfalso; cases e; done) | skip
    · obtain ⟨rfl, rfl⟩ := pu_ok e
      exact call_int1 pins s σ H _ us Q I r (.inr ⟨_, rfl, p.at hS (.int _)⟩)
    · obtain ⟨rfl, rfl⟩ := pu_ok e
      exact call_int1 pins s σ H _ us Q I r (.inl ⟨_, rfl, p.at hS (.int _)⟩)
  · cases a <;> cases e

/-! isinstance -/
def tyNm : Option Ty → String
  | none => "NoneType"
  | some t => t.nm
theorem kit_tab : ∀ (t : Option Ty) (u : Ty), kitB (tyNm t) u.nm = some (isTy t u) := by
  intro t u
  cases t with
  | none => cases u <;> decide +kernel
  | some a => cases a <;> cases u <;> decide +kernel
theorem sqT_ty {K : PySem.W.Frag} {H : Hp} {a : Addr} {xs : List V} (h : SqT K H a xs) : TyX K H (.ref a) (.type "tuple") := by
  rcases h with (h | ⟨o, h⟩) | ⟨o, its, n, h1, h2, h3, h4⟩
  · exact .base (.tup h)
  · exact .fTuple h
  · exact .kTuple h1 h2
theorem sqL_ty {K : PySem.W.Frag} {H : Hp} {a : Addr} {xs : List V} (h : SqL K H a xs) : TyX K H (.ref a) (.type "list") := by
  rcases h with (h | ⟨o, h⟩) | ⟨o, its, n, h1, h2, h3, h4⟩
  · exact .base (.lst h)
  · exact .base (.frz h)
  · exact .kList h1 h2
theorem Sr.ty {K : PySem.W.Frag} {F H : Hp} {mu : List Addr} {S : Store} (hS : Sr K F mu S H) {x : V} {a : D} {t : Option Ty} (hx : Rp K F mu x a) (e : tyOf a = some t) : TyX K H x (.type (tyNm t)) := by
  cases hx with
  | non => cases e; exact .base .non
  | bl b => cases e; exact .base (.bl b)
  | int b => cases e; exact .base (.int b)
  | str b => cases e; exact .base (.str b)
  | tup h1 h2 => cases e; exact sqT_ty (sqT_mono hS.sub h1)
  | lst h1 h2 => cases e; exact .base (.lst (hS.sub _ _ h1))
  | rol h1 h2 => cases e; exact sqL_ty (sqL_mono hS.sub h1)
  | ref h1 => cases e
  | dref h1 => cases e
  | err h1 h2 h3 h4 => cases e
  | ty t => cases e
  | dct h1 h2 =>
    cases e
    rcases h1 with h1 | ⟨o, h1⟩
    · exact .base (.dK (hS.sub _ _ h1))
    · exact .fDict (hS.sub _ _ h1)
theorem sound_isi (m : Bool) : CallR X (Blt.val .isi) (rCallE X.K (callB m .isi)) := by
  intro pins s σ H xs us Q I r h
  obtain ⟨F, mu, S, as, d, S1, hS, hr, e, p⟩ := h
  rcases as with _ | ⟨a, _ | ⟨b, _ | ⟨c, as⟩⟩⟩
  · cases e
  · cases e
  · obtain ⟨x, y, rfl, hx, hy⟩ := rps2 hr
    cases hy <;> first | (exfalso; cases e; done) | skip
    rename_i u
    have e' : (match tyOf a with | some t => M.pu (D.bl (isTy t u)) | none => M.bad) S = .ok d S1 := e
    cases q : tyOf a with
    | none => rw [q] at e'; exact (no_bad e').elim
    | some t =>
      rw [q] at e'
      obtain ⟨rfl, rfl⟩ := pu_ok e'
      exact call_isi pins s σ H _ us Q I r ⟨x, _, _, _, _, rfl, .ty _, hS.ty hx q, kit_ty (kit_tab t u), p.at hS (.bl _)⟩
  · cases b <;> cases e

/-! repr -/
mutual
theorem noDict : ∀ (d : D) (p : PyData), toPy d = some p → p.hasDict = false
  | .non, _, e => by simp only [toPy] at e; cases e; rfl
  | .bl _, _, e => by simp only [toPy] at e; cases e; rfl
  | .int _, _, e => by simp only [toPy] at e; cases e; rfl
  | .str _, _, e => by simp only [toPy] at e; cases e; rfl
  | .tup ds, _, e => by
    simp only [toPy] at e
    cases q : toPys ds with
    | none => rw [q] at e; cases e
    | some ps => rw [q] at e; cases e; simp only [PyData.hasDict]; exact noDicts ds ps q
  | .lst ds, _, e => by
    simp only [toPy] at e
    cases q : toPys ds with
    | none => rw [q] at e; cases e
    | some ps => rw [q] at e; cases e; simp only [PyData.hasDict]; exact noDicts ds ps q
  | .rol ds, _, e => by
    simp only [toPy] at e
    cases q : toPys ds with
    | none => rw [q] at e; cases e
    | some ps => rw [q] at e; cases e; simp only [PyData.hasDict]; exact noDicts ds ps q
  | .ref i, _, e => by simp only [toPy] at e; cases e
  | .ty t, _, e => by simp only [toPy] at e; cases e
  | .dct ks ds, _, e => by simp only [toPy] at e; cases e
theorem noDicts : ∀ (ds : List D) (ps : List PyData), toPys ds = some ps → PyData.hasDictAll ps = false
  | [], _, e => by simp only [toPys] at e; cases e; rfl
  | d :: ds, _, e => by
    simp only [toPys] at e
    cases q1 : toPy d with
    | none => rw [q1] at e; cases e
    | some p =>
      cases q2 : toPys ds with
      | none => rw [q1, q2] at e; cases e
      | some ps =>
        rw [q1, q2] at e
        cases e
        simp only [PyData.hasDictAll, noDict d p q1, noDicts ds ps q2, Bool.or_self]
end
theorem noDictS {S : Store} {d : D} {p : PyData} (e : pyOf S d = some p) : p.hasDict = false := by
  cases d with
  | ref i =>
    unfold pyOf at e
    cases q : lstAt S i with
    | none => simp [q] at e
    | some xs =>
      simp only [q, Option.bind_some] at e
      cases q2 : toPys xs with
      | none => simp [q2] at e
      | some ps =>
        simp [q2] at e
        subst e
        simp only [PyData.hasDict]
        exact noDicts xs ps q2
  | _ => exact noDict _ p e

/-! data with dicts: read off the heap -/
theorem Inv.noSys {pins : List (Addr × Obj)} {σ : L2.St} {H : Hp} {s : Shared} (hy : ∃ o, X.base.get? sysModules = some o) (I : L2.Inv X pins σ H s) : H sysModules = none := by
  obtain ⟨o, ho⟩ := hy
  exact (I.bs _ _ ho).2
theorem toPysD_len : ∀ (ds : List D) (ps : List PyData), toPysD ds = some ps → ps.length = ds.length
  | [], _, e => by simp only [toPysD] at e; cases e; rfl
  | d :: ds, _, e => by
    simp only [toPysD] at e
    cases q1 : toPyD d with
    | none => rw [q1] at e; cases e
    | some p =>
      cases q2 : toPysD ds with
      | none => rw [q1, q2] at e; cases e
      | some ps =>
        rw [q1, q2] at e
        cases e
        simp [toPysD_len ds ps q2]
theorem dict_split {P : Program} {w : World} : ∀ {ks : List Str} {xs : List V} {vs : List (Key × Value)} {es : List DictEntry}, ks.length = xs.length → KV (List.zipWith (fun (k : Str) (v : V) => ((Sum.inr k : Key), v)) ks xs) vs → Pairs (mixKind P w) es vs →
    Vals xs (es.map (·.val)) ∧ ∃ ts : List Tok, ts.length = ks.length ∧ es.map (·.key) = List.zipWith (fun k t => Value.str k t) ks ts
  | [], [], _, _, _, kv, ps => by
    cases kv
    cases ps
    exact ⟨.nil, [], rfl, rfl⟩
  | k :: ks, x :: xs, _, _, hl, kv, ps => by
    cases kv with
    | cons h1 t1 =>
      cases ps with
      | cons a b c =>
        obtain ⟨v1, ts, l, e⟩ := dict_split (by simpa using hl) t1 c
        have a' := a
        rw [← h1.1] at a'
        obtain ⟨t, et⟩ := Value.isStrOf_shape (x := k) a'
        refine ⟨.cons (by have h2 := h1.2; rw [← b] at h2; exact h2) v1, t :: ts, by simp [l], ?_⟩
        simp only [List.map_cons, List.zipWith_cons_cons, e]
        rw [et]
theorem keys_read {h : Heap} : ∀ (ks : List Str) (ts : List Tok), ts.length = ks.length → ReadsAll h (List.zipWith (fun k t => Value.str k t) ks ts) (ks.map PyData.str) []
  | [], [], _ => .nil
  | k :: ks, t :: ts, hl => ReadsAll.cons (as := []) (bs := []) (.str k t) (keys_read ks ts (by simpa using hl))
theorem zip_fst : ∀ (ks : List Str) (ps : List PyData), ks.length = ps.length → (List.zipWith (fun k p => (PyData.str k, p)) ks ps).map (·.1) = ks.map PyData.str ∧ (List.zipWith (fun k p => (PyData.str k, p)) ks ps).map (·.2) = ps
  | [], [], _ => ⟨rfl, rfl⟩
  | k :: ks, p :: ps, hl => by
    obtain ⟨h1, h2⟩ := zip_fst ks ps (by simpa using hl)
    exact ⟨by simp only [List.zipWith_cons_cons, List.map_cons, h1], by simp only [List.zipWith_cons_cons, List.map_cons, h2]⟩
mutual
theorem reads_of (hy : ∃ o, X.base.get? sysModules = some o) {pins : List (Addr × Obj)} {σ : L2.St} {H F : Hp} {mu : List Addr} {S : Store} {s : Shared} (I : L2.Inv X pins σ H s) (hS : Sr X.K F mu S H) : ∀ (d : D) (v : V) (u : Value) (p : PyData), Rp X.K F mu v d → toPyD d = some p → RelV v u → ∃ as, Reads s.heap u p as ∧ sysModules ∉ as
  | .non, _, _, _, h, e, r => by cases h; simp only [toPyD] at e; cases e; cases r; exact ⟨_, .none, by simp⟩
  | .bl b, _, _, _, h, e, r => by cases h; simp only [toPyD] at e; cases e; cases r; exact ⟨_, .bool b, by simp⟩
  | .int i, _, _, _, h, e, r => by cases h; simp only [toPyD] at e; cases e; obtain ⟨t, rfl⟩ := r; exact ⟨_, .int i t, by simp⟩
  | .str x, _, _, _, h, e, r => by cases h; simp only [toPyD] at e; cases e; obtain ⟨t, rfl⟩ := r; exact ⟨_, .str x t, by simp⟩
  | .tup ds, _, _, _, h, e, r => by
    cases h with
    | tup h1 h2 =>
      simp only [toPyD] at e
      cases q : toPysD ds with
      | none => rw [q] at e; cases e
      | some ps =>
        rw [q] at e
        cases e
        cases r
        obtain ⟨its, rv, ⟨o, ho, hc, n, hd⟩, hz⟩ := I.tuple (sqT_mono hS.sub h1)
        obtain ⟨as, ra, na⟩ := readsAll_of hy I hS ds _ _ ps h2 q rv
        exact ⟨as, .tuple ho hc hd (by simpa using ra), na⟩
  | .lst ds, _, _, _, h, e, r => by
    cases h with
    | lst h1 h2 =>
      simp only [toPyD] at e
      cases q : toPysD ds with
      | none => rw [q] at e; cases e
      | some ps =>
        rw [q] at e
        cases e
        cases r
        have hH := hS.sub _ _ h1
        obtain ⟨_, its, n, rv, ho⟩ := I.hok _ _ hH
        obtain ⟨as, ra, na⟩ := readsAll_of hy I hS ds _ _ ps h2 q rv
        refine ⟨_, .list ho rfl rfl (by simpa using ra), ?_⟩
        simp only [List.mem_cons, not_or]
        exact ⟨(fun z => by (rw [← z, Inv.noSys hy I] at hH; cases hH)), na⟩
  | .rol ds, _, _, _, h, e, r => by simp only [toPyD] at e; cases e
  | .ref i, _, _, _, _, e, _ => by simp only [toPyD] at e; cases e
  | .ty t, _, _, _, _, e, _ => by simp only [toPyD] at e; cases e
  | .dct ks ds, _, _, _, h, e, r => by
    cases h with
    | dct h1 h2 =>
      rename_i a xs
      simp only [toPyD] at e
      cases q : toPysD ds with
      | none => rw [q] at e; cases e
      | some ps =>
        rw [q] at e
        simp only [Option.bind_some] at e
        split at e
        next hl =>
          cases e
          cases r
          obtain ⟨_, hns, vs, kv, o, es, ep, ho, hx, hd, hk, hp, _⟩ := dk_rd I.hok (h1.imp (hS.sub _ _) fun ⟨o, z⟩ => ⟨o, hS.sub _ _ z⟩)
          have lx : ks.length = xs.length := by rw [hl, toPysD_len ds ps q, h2.length]
          obtain ⟨rv, ts, lt, ek⟩ := dict_split lx kv hp
          obtain ⟨z1, z2⟩ := zip_fst ks ps hl
          obtain ⟨bs, rb, nb⟩ := readsAll_of hy I hS ds _ _ ps h2 q rv
          refine ⟨_, Reads.dict (as := []) (bs := bs) ho hx.1 hd (by rw [ek, z1]; exact keys_read ks ts lt) (by rw [z2]; exact rb), ?_⟩
          simp only [List.append_nil, List.cons_append, List.mem_cons, not_or]
          exact ⟨(fun z => by (rw [← z] at hns; simp at hns)), nb⟩
        next => cases e
theorem readsAll_of (hy : ∃ o, X.base.get? sysModules = some o) {pins : List (Addr × Obj)} {σ : L2.St} {H F : Hp} {mu : List Addr} {S : Store} {s : Shared} (I : L2.Inv X pins σ H s) (hS : Sr X.K F mu S H) : ∀ (ds : List D) (vs : List V) (us : List Value) (ps : List PyData), Rps X.K F mu vs ds → toPysD ds = some ps → Vals vs us → ∃ as, ReadsAll s.heap us ps as ∧ sysModules ∉ as
  | [], _, _, _, h, e, r => by cases h; simp only [toPysD] at e; cases e; cases r; exact ⟨_, .nil, by simp⟩
  | d :: ds, _, _, _, h, e, r => by
    cases h with
    | cons h1 h2 =>
      simp only [toPysD] at e
      cases q1 : toPyD d with
      | none => rw [q1] at e; cases e
      | some p =>
        cases q2 : toPysD ds with
        | none => rw [q1, q2] at e; cases e
        | some ps =>
          rw [q1, q2] at e
          cases e
          cases r with
          | cons r1 r2 =>
            obtain ⟨as, ra, na⟩ := reads_of hy I hS d _ _ p h1 q1 r1
            obtain ⟨bs, rb, nb⟩ := readsAll_of hy I hS ds _ _ ps h2 q2 r2
            exact ⟨_, .cons ra rb, by simp only [List.mem_append, not_or]; exact ⟨na, nb⟩⟩
end

theorem sound_repr (hy : ∃ o, X.base.get? sysModules = some o) (hg : X.A.guards = some []) (hu : X.A.units + 70 < cLine) (m : Bool) : CallR X (Blt.val .repr) (rCallE X.K (callB m .repr)) := by
  intro pins s σ H xs us Q I r h
  obtain ⟨F, mu, S, as, d, S1, hS, hr, e, p⟩ := h
  rcases as with _ | ⟨a, _ | ⟨b, as⟩⟩
  · cases e
  · obtain ⟨x, rfl, hx⟩ := rps1 hr
    have e' : (match pyAny S a with | some p => (if p.showable && decide (p.shown.length ≤ sizeLine) && decide (p.depth ≤ 64) then R.ok (D.str p.shown) S else .bad) | none => .bad) = R.ok d S1 := e
    cases q0 : pyAny S a with
    | none => rw [q0] at e'; cases e'
    | some pd =>
      rw [q0] at e'
      simp only at e'
      split at e'
      next hc =>
        simp only [Bool.and_eq_true, decide_eq_true_eq] at hc
        obtain ⟨⟨c1, c2⟩, c3⟩ := hc
        injection e' with e1 e2
        subst e1 e2
        obtain ⟨u, rfl, ru⟩ := vals1 r
        have fin : ∀ (h' : Heap) (tk tk' : Nat), (∀ b o, s.heap.get? b = some o → h'.get? b = some o) → EP X pins σ Q (.str pd.shown tk') { s with heap := h', toks := tk } :=
          fun h' tk tk' k => ⟨.str _, H, I.kept k, ⟨_, rfl⟩, p.at hS (.str _)⟩
        show wpAny _ _ (call (.builtin "repr") [u]) _ _ _
        unfold pyAny at q0
        cases q1 : toPyD a with
        | some pd2 =>
          rw [q1] at q0
          cases q0
          obtain ⟨as', rd, na⟩ := reads_of hy I hS a x u pd hx q1 ru
          cases hx with
          | non => simp only [toPyD] at q1; cases q1; cases ru; exact P.repr_of_none (fin s.heap _ _ fun _ _ e => e)
          | bl b => simp only [toPyD] at q1; cases q1; cases ru; exact P.repr_of_bool (fin s.heap _ _ fun _ _ e => e)
          | int i =>
            simp only [toPyD] at q1
            cases q1
            obtain ⟨t, rfl⟩ := ru
            exact P.repr_of_int (by simpa [PyData.showable] using c1) (fin s.heap _ _ fun _ _ e => e)
          | str z =>
            simp only [toPyD] at q1
            cases q1
            obtain ⟨t, rfl⟩ := ru
            exact P.repr_of_str (fin s.heap _ _ fun _ _ e => e) c2
          | tup h1 h2 => cases ru; exact repr_of_reads' rd c1 (fun _ => na) hg (by omega) (fun _ _ e => e) (fun h' u tk k => fin h' tk u k) c2
          | lst h1 h2 => cases ru; exact repr_of_reads' rd c1 (fun _ => na) hg (by omega) (fun _ _ e => e) (fun h' u tk k => fin h' tk u k) c2
          | dct h1 h2 => cases ru; exact repr_of_reads' rd c1 (fun _ => na) hg (by omega) (fun _ _ e => e) (fun h' u tk k => fin h' tk u k) c2
          | rol h1 h2 => simp only [toPyD] at q1; cases q1
          | ref h1 => simp only [toPyD] at q1; cases q1
          | ty t => simp only [toPyD] at q1; cases q1
          | dref h1 => simp only [toPyD] at q1; cases q1
          | err h1 h2 h3 h4 => simp only [toPyD] at q1; cases q1
        | none =>
          rw [q1] at q0
          have q : pyOf S a = some pd := q0
          have hd := hS.data hx q
          cases hd with
          | non => cases ru; exact P.repr_of_none (fin s.heap _ _ fun _ _ e => e)
          | bl b => cases ru; exact P.repr_of_bool (fin s.heap _ _ fun _ _ e => e)
          | int i =>
            obtain ⟨t, rfl⟩ := ru
            exact P.repr_of_int (by simpa [PyData.showable] using c1) (fin s.heap _ _ fun _ _ e => e)
          | str z =>
            obtain ⟨t, rfl⟩ := ru
            exact P.repr_of_str (fin s.heap _ _ fun _ _ e => e) c2
          | lst h1 h2 =>
            cases ru
            obtain ⟨ads, rd⟩ := Dp.reads I _ _ _ (.lst h1 h2) rfl
            exact repr_of_reads' rd c1 (PyData.noDict_hsm (noDictS q)) hg (by omega) (fun _ _ e => e) (fun h' u tk k => fin h' tk u k) c2
          | tup h1 h2 =>
            cases ru
            obtain ⟨ads, rd⟩ := Dp.reads I _ _ _ (.tup h1 h2) rfl
            exact repr_of_reads' rd c1 (PyData.noDict_hsm (noDictS q)) hg (by omega) (fun _ _ e => e) (fun h' u tk k => fin h' tk u k) c2
      next => cases e'
  · cases e

theorem sound_str (hy : ∃ o, X.base.get? sysModules = some o) (hg : X.A.guards = some []) (hu : X.A.units + 70 < cLine) (m : Bool) : CallR X (Blt.val .str) (rCallE X.K (callB m .str)) := by
  intro pins s σ H xs us Q I r h
  obtain ⟨F, mu, S, as, d, S1, hS, hr, e, p⟩ := h
  rcases as with _ | ⟨a, _ | ⟨b, as⟩⟩
  · cases e
  · obtain ⟨x, rfl, hx⟩ := rps1 hr
    by_cases hstr : ∃ z, a = .str z
    · obtain ⟨z, rfl⟩ := hstr
      cases hx
      obtain ⟨rfl, rfl⟩ := pu_ok (show M.pu (D.str z) S = _ from e)
      exact SkE.call_str_str pins s σ H _ us Q I r ⟨z, rfl, p.at hS (.str _)⟩
    have e' : (match pyAny S a with | some p => (if p.showable && decide (p.shown.length ≤ sizeLine) && decide (p.depth ≤ 64) then R.ok (D.str p.shown) S else .bad) | none => .bad) = R.ok d S1 := by
      cases a <;> first | exact e | (exfalso; exact hstr ⟨_, rfl⟩)
    cases q0 : pyAny S a with
    | none => rw [q0] at e'; cases e'
    | some pd =>
      rw [q0] at e'
      simp only at e'
      split at e'
      next hc =>
        simp only [Bool.and_eq_true, decide_eq_true_eq] at hc
        obtain ⟨⟨c1, c2⟩, c3⟩ := hc
        injection e' with e1 e2
        subst e1 e2
        obtain ⟨u, rfl, ru⟩ := vals1 r
        have fin : ∀ (h' : Heap) (tk tk' : Nat), (∀ b o, s.heap.get? b = some o → h'.get? b = some o) → EP X pins σ Q (.str pd.shown tk') { s with heap := h', toks := tk } :=
          fun h' tk tk' k => ⟨.str _, H, I.kept k, ⟨_, rfl⟩, p.at hS (.str _)⟩
        show wpAny _ _ (call (.type "str") [u]) _ _ _
        unfold pyAny at q0
        cases q1 : toPyD a with
        | some pd2 =>
          rw [q1] at q0
          cases q0
          obtain ⟨as', rd, na⟩ := reads_of hy I hS a x u pd hx q1 ru
          cases hx with
          | non => simp only [toPyD] at q1; cases q1; cases ru; exact P.str_of_none (fin s.heap _ _ fun _ _ e => e)
          | bl b => simp only [toPyD] at q1; cases q1; cases ru; exact P.str_of_bool (fin s.heap _ _ fun _ _ e => e)
          | int i =>
            simp only [toPyD] at q1
            cases q1
            obtain ⟨t, rfl⟩ := ru
            exact P.str_of_int (by simpa [PyData.showable] using c1) (fin s.heap _ _ fun _ _ e => e)
          | str z => exact (hstr ⟨_, rfl⟩).elim
          | tup h1 h2 => cases ru; exact str_of_reads rd c1 (fun _ => na) hg (by omega) (fun _ _ e => e) (fun h' u tk k => fin h' tk u k) c2
          | lst h1 h2 => cases ru; exact str_of_reads rd c1 (fun _ => na) hg (by omega) (fun _ _ e => e) (fun h' u tk k => fin h' tk u k) c2
          | dct h1 h2 => cases ru; exact str_of_reads rd c1 (fun _ => na) hg (by omega) (fun _ _ e => e) (fun h' u tk k => fin h' tk u k) c2
          | rol h1 h2 => simp only [toPyD] at q1; cases q1
          | ref h1 => simp only [toPyD] at q1; cases q1
          | ty t => simp only [toPyD] at q1; cases q1
          | dref h1 => simp only [toPyD] at q1; cases q1
          | err h1 h2 h3 h4 => simp only [toPyD] at q1; cases q1
        | none =>
          rw [q1] at q0
          have q : pyOf S a = some pd := q0
          have hd := hS.data hx q
          cases hd with
          | non => cases ru; exact P.str_of_none (fin s.heap _ _ fun _ _ e => e)
          | bl b => cases ru; exact P.str_of_bool (fin s.heap _ _ fun _ _ e => e)
          | int i =>
            obtain ⟨t, rfl⟩ := ru
            exact P.str_of_int (by simpa [PyData.showable] using c1) (fin s.heap _ _ fun _ _ e => e)
          | str z => exact (hstr (by cases hx; exact ⟨_, rfl⟩)).elim
          | lst h1 h2 =>
            cases ru
            obtain ⟨ads, rd⟩ := Dp.reads I _ _ _ (.lst h1 h2) rfl
            exact str_of_reads rd c1 (PyData.noDict_hsm (noDictS q)) hg (by omega) (fun _ _ e => e) (fun h' u tk k => fin h' tk u k) c2
          | tup h1 h2 =>
            cases ru
            obtain ⟨ads, rd⟩ := Dp.reads I _ _ _ (.tup h1 h2) rfl
            exact str_of_reads rd c1 (PyData.noDict_hsm (noDictS q)) hg (by omega) (fun _ _ e => e) (fun h' u tk k => fin h' tk u k) c2
      next => cases e'
  · cases a <;> cases e

theorem sound_blt (hy : ∃ o, X.base.get? sysModules = some o) (hc : X.calm = true) (hg : X.A.guards = some []) (hu : X.A.units + 70 < cLine) (m : Bool) (b : Blt) : CallR X b.val (rCallE X.K (callB m b)) := by
  cases b with
  | len => exact sound_len m
  | tuple => exact sound_tuple m
  | list => exact sound_list m
  | all => exact sound_all hc m
  | any => exact sound_any hc m
  | sum => exact sound_sum hc m
  | max => exact sound_max hc m
  | min => exact sound_min hc m
  | abs => exact sound_abs m
  | int => exact sound_int m
  | repr => exact sound_repr hy hg hu m
  | isi => exact sound_isi m
  | str => exact sound_str hy hg hu m

/-! ### methods of lists -/
def Mth.id : Mth → String
  | .append => "list.append"
  | .extend => "list.extend"
  | .update => "dict.update"
  | .get => "dict.get"
theorem sound_append {K : PySem.W.Frag} {F H : Hp} {mu : List Addr} {S S1 : Store} {x y : V} {a b d : D} {Q : VK} (hS : Sr K F mu S H) (hx : Rp K F mu x a) (hy : Rp K F mu y b) (e : methOp .append a b S = .ok d S1) (p : Post K F mu H d S1 Q) : rAppend x [y] H Q := by
  cases hx <;> first | (exfalso; cases e; done) | skip
  rename_i ad i h1
  have e' : (match lstAt S i with | some xs => if xs.length < sizeLine then R.ok D.non (S.set i (.lst (xs ++ [b]))) else .bad | none => .bad) = R.ok d S1 := e
  cases q : lstAt S i with
  | none => rw [q] at e'; cases e'
  | some ds =>
    rw [q] at e'
    simp only at e'
    split at e'
    next hz =>
      injection e' with e1 e2
      subst e1 e2
      obtain ⟨xs, h3, h4⟩ := hS.lst h1 q
      have l := h4.length
      obtain ⟨r1, s1⟩ := hS.put h1 (h4.append (.cons hy .nil))
      exact ⟨ad, xs, y, rfl, rfl, h3, by omega, p _ _ _ _ s1 r1 .non⟩
    next => cases e'
theorem list_extend_tupG (l : Addr) (items : Array Value) (n : Nat) (b : Addr) (items2 : Array Value) (n2 : Nat) (dd : Option Addr) (sl : Array (Option Value)) (hs0 : ¬(!items.isEmpty && Builtin.List.listTooLong (items.size + items2.size)) = true) (hs1 : items.size ≤ sizeLine) (hs2 : items.size + items2.size ≤ sizeLine + 1) :
    Meets (Builtin.«list.extend» ⟨[.ref l, .ref b], []⟩) (fun _ R s => s.heap.get? l = some { cls := .type "list", dict := none, data := .seq items n, slots := #[] } ∧ s.heap.get? b = some { cls := .type "tuple", dict := dd, data := .seq items2 n2, slots := sl } ∧ R (.ok (.ret Value.none)) { s with heap := s.heap.update l (Obj.mapSeq fun x => x ++ items2), toks := s.toks }) :=
  .of_wp fun prog w A R s h => by
    obtain ⟨hp, g, d, tk, os⟩ := s; obtain ⟨hl, hb, h⟩ := h; have f1 := AutoSeq1.idx_int; have f2 := AutoSeq1.sub_tuple_tuple; have f3 := AutoSeq1.sub_list_list; have f4 := AutoSeq1.sub_tuple_list; have f5 := AutoSeq1.sub_list_tuple;
    have hz' : (items ++ items2).size ≤ sizeLine + 1 := by rw [Array.size_append]; exact hs2
    wp_walk using (wpAny_updateSeq hl rfl (hz := hs1) (_hz' := hz')), wpAny_loadPart' hl, wpAny_loadPart' hb; exact ⟨_, rfl, h⟩
def rExtA (K : PySem.W.Frag) : V → List V → Hp → VK → Prop := fun x vs H Q => rExtend x vs H Q ∨ ∃ l b xs zs, x = .ref l ∧ vs = [.ref b] ∧ H l = some (.lst xs) ∧ SqT K H b zs ∧ xs.length + zs.length ≤ sizeLine ∧ Q .non (upd H l (.lst (xs ++ zs)))
theorem mt_extA : MtM X "list.extend" (rExtA X.K) := by
  intro pins s σ H x vs v us Q I rx rv h
  rcases h with h | h
  · exact mt_extend pins s σ H x vs v us Q I rx rv h
  obtain ⟨l, b, xs, zs, rfl, rfl, hH, hB, hz, q⟩ := h
  cases rx
  obtain ⟨u, rfl, ru⟩ := rv.one
  cases ru
  obtain ⟨z, its, n, r, hl, e⟩ := I.lstM hH
  obtain ⟨its2, r2, ⟨⟨cls2, dd2, data2, sl2⟩, e2, hc2, n2, hd2⟩, hz2⟩ := I.tuple hB
  cases (show cls2 = .type "tuple" from hc2)
  cases (show data2 = .seq its2.toArray n2 from hd2)
  have l2 := r2.length
  have hsz : its.toArray.size + its2.toArray.size ≤ sizeLine := by rw [List.size_toArray, List.size_toArray]; omega
  have hlong : ¬ (!its.toArray.isEmpty && Builtin.List.listTooLong (its.toArray.size + its2.toArray.size)) = true := by
    rw [notLongL hsz, Bool.and_false]
    exact Bool.false_ne_true
  refine call_meets PySem.F.slot_list_extend ⟨_, e, rfl⟩ PySem.F.entry_list_extend (PySem.F.args_list_extend_2 _ _)
    (list_extend_tupG l its.toArray n b its2.toArray n2 dd2 sl2 hlong (by rw [List.size_toArray]; omega) (by omega)) ⟨e, e2, ?_⟩
  refine ⟨.non, _, I.lset (its' := its ++ its2) hH e (by simp) (r.append r2) ?_, rfl, q⟩
  rw [List.length_append]
  omega
theorem sound_extend {K : PySem.W.Frag} {F H : Hp} {mu : List Addr} {S S1 : Store} {x y : V} {a b d : D} {Q : VK} (hS : Sr K F mu S H) (hx : Rp K F mu x a) (hy : Rp K F mu y b) (e : methOp .extend a b S = .ok d S1) (p : Post K F mu H d S1 Q) : rExtA K x [y] H Q := by
  cases hx <;> first | (exfalso; cases e; done) | skip
  rename_i ad i h1
  have e' : extend1 i b S = R.ok d S1 := e
  unfold extend1 at e'
  cases q : lstAt S i with
  | none => rw [q] at e'; cases b <;> cases e'
  | some ds =>
    rw [q] at e'
    cases hy <;> first | (exfalso; cases e'; done) | skip
    · rename_i a2 ys es h5 h6
      simp only at e'
      split at e'
      next hz =>
        injection e' with e1 e2
        subst e1 e2
        obtain ⟨xs, h3, h4⟩ := hS.lst h1 q
        have l := h4.length
        have l2 := h6.length
        obtain ⟨r1, s1⟩ := hS.put h1 (h4.append h6)
        exact .inr ⟨ad, a2, xs, ys, rfl, rfl, h3, sqT_mono hS.sub h5, by omega, p _ _ _ _ s1 r1 .non⟩
      next => cases e'
    · rename_i a2 ys es h5 h6
      simp only at e'
      split at e'
      next hz =>
        injection e' with e1 e2
        subst e1 e2
        obtain ⟨xs, h3, h4⟩ := hS.lst h1 q
        have l := h4.length
        have l2 := h6.length
        obtain ⟨r1, s1⟩ := hS.put h1 (h4.append h6)
        exact .inl ⟨ad, a2, xs, ys, rfl, rfl, h3, hS.sub _ _ h5, by omega, p _ _ _ _ s1 r1 .non⟩
      next => cases e'

/-! ### dict.update -/
/-- d.update(e) -/
theorem d_update {pins : List (Addr × Obj)} {σ : L2.St} {H : Hp} {s : Shared} {a b : Addr} {kvs more : List (Key × V)} {A : Around} {E : Value → Shared → Prop} {Q : Value → Shared → Prop} (I : Inv X pins σ H s) (e : H a = some (.dK kvs)) (e2 : Rd H b (.dK more)) (hne : a ≠ b) (hz : kvs.length + more.length ≤ sizeLine)
    (h : ∀ s', Inv X pins σ (upd H a (.dK (mergeK kvs more))) s' → Q .none s') : wpAny (model X.prog X.w) A (call (.builtin "dict.update") [.ref a, .ref b]) Q E s := by
  obtain ⟨z, hd, vs, rel, dd⟩ := dk_of I.hok e
  obtain ⟨z2, hd2, rs, rel2, dd2⟩ := dk_rd I.hok e2
  refine call_meetsIn PySem.F.slot_dict_update dd.typeIs PySem.F.entry_dict_update (PySem.F.args_dict_update_2 _ _) (meets_dict_update (mixKind X.prog X.w) a b hne hd2)
    ⟨vs, rs, dd, dd2, by rw [← rel.length, ← rel2.length]; exact hz, fun h' dd' _ hs => h _ ?_⟩
  have he : ∃ q, h'.get? a = some q := let ⟨q, _, _, hq, _⟩ := dd'; ⟨q, hq⟩
  exact d_write I (by rw [e]; exact True.intro) hs he (dk_new (Nat.le_trans (length_mergeK more kvs) hz) hd (rel2.merge rel) dd')
def tUpd (td ty : TE) : TE := fun σ H Q => td σ H fun x H1 => ∃ a, x = .ref a ∧ IsD H1 a ∧ ty σ H1 fun y H2 => ∃ b kvs more, y = .ref b ∧ H2 a = some (.dK kvs) ∧ Rd H2 b (.dK more) ∧ a ≠ b ∧ kvs.length + more.length ≤ sizeLine ∧ Q .non (upd H2 a (.dK (mergeK kvs more)))
theorem pe_upd {o e : Expr} {apos cpos : Pos} {td ty : TE} (ho : PE X o td) (he : PE X e ty) (m : M1 X o "update" apos e cpos) : PE X (.Call (.Attribute o "update" apos) [e] [] cpos) (tUpd td ty) := by
  refine ⟨fun pins s σ H Q I h => ?_⟩
  refine wpAny_Call_method m.base m.few m.line PySem.F.plainAttrs_dict PySem.F.slot_dict_update PySem.F.type_dict_update (thn (ho.run pins s σ H _ I h) fun u s1 ⟨x, H1, I1, rx, a, ex, d, q1⟩ => ?_)
  subst ex
  obtain rfl : u = Value.ref a := rx
  obtain ⟨t1, t2, _⟩ := isD_at I1 d
  refine ⟨t1, t2, ?_⟩
  rw [m.trees]
  refine Calls.callWith_builtin rfl (Calls.evalArgs_plain (Calls.spliced_cons (thn (he.run pins s1 σ H1 _ I1 q1) fun iv s2 ⟨y, H2, I2, ry, b, kvs, more, ey, ea, eb, hne, hz, q2⟩ => Calls.spliced_nil ?_)))
  subst ey
  obtain rfl : iv = Value.ref b := ry
  exact d_update I2 ea eb hne hz fun s3 I3 => ⟨.non, _, I3, rfl, q2⟩
theorem sound_update {K : PySem.W.Frag} {F H : Hp} {mu : List Addr} {S S1 : Store} {y : V} {i : Nat} {b d : D} {Q : VK} {a : Addr} (hS : Sr K F mu S H) (hx : Rp K F mu (.ref a) (.dref i)) (hy : Rp K F mu y b) (e : methOp .update (.dref i) b S = .ok d S1) (p : Post K F mu H d S1 Q) :
    ∃ b kvs more, y = .ref b ∧ H a = some (.dK kvs) ∧ Rd H b (.dK more) ∧ a ≠ b ∧ kvs.length + more.length ≤ sizeLine ∧ Q .non (upd H a (.dK (mergeK kvs more))) := by
  cases hx with
  | dref h1 =>
    have e' : update1 i b S = R.ok d S1 := e
    unfold update1 at e'
    cases q : dctAt S i with
    | none => rw [q] at e'; cases b <;> cases e'
    | some kvs =>
      rw [q] at e'
      cases hy <;> first | (exfalso; cases e'; done) | skip
      rename_i a2 ys ks es h5 h6
      simp only at e'
      split at e'
      next hz =>
        injection e' with e1 e2
        subst e1 e2
        obtain ⟨ks0, h3, h4⟩ := hS.dct h1 q
        have hl := h4.length
        obtain ⟨r1, s1⟩ := hS.putD h1 ((Rkv.zip h6).merge h4)
        have hRd : Rd H a2 (.dK (List.zipWith (fun (k : Str) (v : V) => ((Sum.inr k : Key), v)) ks ys)) := h5.imp (hS.sub _ _) fun ⟨o, z⟩ => ⟨o, hS.sub _ _ z⟩
        have hne : a ≠ a2 := by
          intro z
          have fa := hS.nf a (List.mem_of_getElem? h1)
          rw [z] at fa
          rcases h5 with h5 | ⟨o, h5⟩
          · rw [fa] at h5; cases h5
          · rw [fa] at h5; cases h5
        refine ⟨a2, ks0, _, rfl, h3, hRd, hne, ?_, p _ _ _ _ s1 r1 .non⟩
        rw [List.length_zipWith, hl]
        omega
      next => cases e'

/-! ### tuple.index -/
theorem indexOf_spec {x : D} : ∀ {xs : List D} {n k : Nat}, indexOf x xs n = some k → ∃ j, k = n + j ∧ (∃ z, xs[j]? = some z ∧ eqF z x = true) ∧ ∀ m z, m < j → xs[m]? = some z → eqF z x = false
  | [], _, _, e => by cases e
  | y :: ys, n, k, e => by
    unfold indexOf at e
    split at e
    next h =>
      cases e
      exact ⟨0, rfl, ⟨y, rfl, h⟩, fun m _ hm => absurd hm (Nat.not_lt_zero m)⟩
    next h =>
      obtain ⟨j, rfl, h1, h2⟩ := indexOf_spec e
      refine ⟨j + 1, by omega, h1, fun m z hm hz => ?_⟩
      cases m with
      | zero => simp at hz; subst hz; simpa using h
      | succ m => exact h2 m z (by omega) (by simpa using hz)

def rIndexT (K : PySem.W.Frag) : V → List V → Hp → VK → Prop := fun x xs H Q => ∃ (a : Addr) (ys : List V) (y : V) (j : Nat) (z : V), x = V.ref a ∧ xs = [y] ∧ SqT K H a ys ∧ flatV y = true ∧ ys.all flatV = true ∧ ys[j]? = some z ∧ eqV z y = true ∧
  (∀ (m : Nat) (z' : V), m < j → ys[m]? = some z' → eqV z' y = false) ∧ Q (.int (j : Nat)) H

theorem eqU_at {y : V} {ys : List V} {its : List Value} (rv : Vals ys its) (f : ys.all flatV = true) {m : Nat} {z : V} (hz : ys[m]? = some z) : ∃ u, its[m]? = some u ∧ eqU y u = eqV z y := by
  obtain ⟨u, hu, ru⟩ := rv.get hz
  exact ⟨u, hu, eqU_of ru (flat_at f hz)⟩

theorem mt_indexT : MtR X "tuple.index" (rIndexT X.K) := by
  intro pins s σ H x xs v us Q I rx rxs h
  obtain ⟨a, ys, y, j, z, rfl, rfl, hs, fy, fys, hz, hzj, hno, q⟩ := h
  obtain ⟨uy, rfl, ry⟩ := rxs.one
  cases rx
  obtain ⟨its, rv, ⟨⟨cls, dd, data, sl⟩, ho, hc, n, hd⟩, hsz⟩ := I.tuple hs
  cases (show cls = .type "tuple" from hc)
  cases (show data = .seq its.toArray n from hd)
  have lenE := rv.length
  obtain ⟨u0, hu0, eu0⟩ := eqU_at (y := y) rv fys hz
  have jl : j < its.length := (List.getElem?_eq_some_iff.mp hu0).1
  have js : j < its.toArray.size := by rw [List.size_toArray]; exact jl
  refine call_meets PySem.F.slot_tuple_index ⟨_, ho, rfl⟩ PySem.F.entry_tuple_index (PySem.F.args_tuple_index_2 _ _)
    (SeqAt.tuple_index2_found a its.toArray n dd sl uy (fun m => match its[m]? with | some u => eqU y u | none => false) j js (Nat.zero_le j) js ?_ ?_) ⟨ho, fun m hm => ?_, ⟨.int (j : Nat), H, I.tok _, ⟨_, rfl⟩, q⟩⟩
  · show (match its[j]? with | some u => eqU y u | none => false) = true
    rw [hu0]
    exact eu0.trans hzj
  · intro m hm _ hmj
    have ml : m < ys.length := by rw [lenE]; rw [List.size_toArray] at hm; exact hm
    obtain ⟨u1, hu1, eu1⟩ := eqU_at (y := y) rv fys (List.getElem?_eq_getElem ml)
    show (match its[m]? with | some u => eqU y u | none => false) = false
    rw [hu1]
    exact eu1.trans (hno m _ hmj (List.getElem?_eq_getElem ml))
  · rw [List.size_toArray] at hm
    have hg : its[m]? = some its[m] := List.getElem?_eq_getElem hm
    show SeqAt.EqAt X.A.in1 s its.toArray[m] uy (match its[m]? with | some u => eqU y u | none => false)
    rw [hg]
    exact mem_eqAt ry fy rv fys its[m] (List.getElem_mem hm)

theorem sound_index {K : PySem.W.Frag} {F H : Hp} {mu : List Addr} {S S1 : Store} {a : Addr} {ys : List V} {y : V} {xs : List D} {b d : D} {Q : VK} (hS : Sr K F mu S H) (ht : SqT K H a ys) (hr : Rps K F mu ys xs) (hy : Rp K F mu y b)
    (e : indexOp xs b S = .ok d S1) (p : Post K F mu H d S1 Q) : rIndexT K (.ref a) [y] H Q := by
  unfold indexOp at e
  split at e
  next hc =>
    rw [Bool.and_eq_true] at hc
    cases q : indexOf b xs 0 with
    | none => rw [q] at e; exact (no_bad e).elim
    | some k =>
      rw [q] at e
      obtain ⟨rfl, rfl⟩ := pu_ok e
      obtain ⟨j, rfl, ⟨z, hz, ez⟩, hno⟩ := indexOf_spec q
      obtain ⟨w, hw, rw'⟩ := hr.get hz
      have fz : ∀ {m : Nat} {c : D}, xs[m]? = some c → flatD c = true := fun h => List.all_eq_true.mp hc.2 _ (List.mem_of_getElem? h)
      refine ⟨a, ys, y, j, w, rfl, rfl, ht, flat_rp hy hc.1, flat_rps hr hc.2, hw, (eqV_rp rw' hy (fz hz) hc.1).trans ez, fun m z' hm hz' => ?_, ?_⟩
      · obtain ⟨c, hcm, rc⟩ := hr.got hz'
        exact (eqV_rp rc hy (fz hcm) hc.1).trans (hno m c hm hcm)
      · have := p.at hS (.int _)
        simpa using this
  next => exact (no_bad e).elim
end
end Ev2
/-! E5: readings by the evaluator; contexts; arguments, targets, iterables. -/
namespace Ev2
open PySem L2 PyProof.Rows

/-- the slots hold what the environment says -/
structure Er (K : PySem.W.Frag) (F : Hp) (mu : List Addr) (σ : L2.St) (ρ : Ev2.Env) : Prop where
  len : σ.length = ρ.length
  at_ : ∀ (i : Nat) (d : D), ρ[i]? = some (some d) → ∃ v, σ[i]? = some (some v) ∧ Rp K F mu v d

theorem Er.later {K : PySem.W.Frag} {F H F1 H1 : Hp} {mu mu1 : List Addr} {σ : L2.St} {ρ : Ev2.Env} (h : Er K F mu σ ρ) (a : Stp F mu H F1 mu1 H1) : Er K F1 mu1 σ ρ :=
  ⟨h.len, fun i d e => let ⟨v, h1, h2⟩ := h.at_ i d e; ⟨v, h1, a.rp h2⟩⟩
theorem Er.set {K : PySem.W.Frag} {F : Hp} {mu : List Addr} {σ : L2.St} {ρ : Ev2.Env} (h : Er K F mu σ ρ) {v : V} {d : D} (r : Rp K F mu v d) (i : Nat) : Er K F mu (σ.set i (some v)) (ρ.set i (some d)) := by
  refine ⟨by rw [List.length_set, List.length_set]; exact h.len, fun j c e => ?_⟩
  by_cases q : i = j
  · subst q
    have hi : i < ρ.length := by
      have := (List.getElem?_eq_some_iff.mp e).1
      rw [List.length_set] at this
      exact this
    rw [List.getElem?_set_self hi] at e
    cases e
    exact ⟨v, by rw [List.getElem?_set_self (by rw [h.len]; exact hi)], r⟩
  · rw [List.getElem?_set_ne q] at e ⊢
    exact h.at_ j c e

/-- a computation of the evaluator, read over the heap: rel says how its result lies there -/
def Rdg {α β : Type} (K : PySem.W.Frag) (rel : Hp → List Addr → β → α → Prop) (m : Ev2.Env → M α) : L2.St → Hp → (β → Hp → Prop) → Prop := fun σ H Q =>
  ∃ F mu ρ S a S1, Er K F mu σ ρ ∧ Sr K F mu S H ∧ m ρ S = .ok a S1 ∧ ∀ v F1 mu1 H1, Stp F mu H F1 mu1 H1 → Sr K F1 mu1 S1 H1 → rel F1 mu1 v a → Q v H1

abbrev rdE (K : PySem.W.Frag) (m : Ev2.Env → M D) : TE := Rdg K (Rp K) m
abbrev rdT (K : PySem.W.Frag) (m : Ev2.Env → M Bool) : TT := Rdg K (fun _ _ (b c : Bool) => b = c) m
abbrev rdA (K : PySem.W.Frag) (m : Ev2.Env → M (List D)) : TA := Rdg K (Rps K) m
abbrev rdO (K : PySem.W.Frag) (m : Ev2.Env → M (Option Int)) : TO := Rdg K (fun _ _ (b c : Option Int) => b = c) m

/-- one computation, then the rest -/
theorem Rdg.seq {α β α' : Type} {K : PySem.W.Frag} {rel : Hp → List Addr → β → α → Prop} {m : Ev2.Env → M α} {F H : Hp} {mu : List Addr} {σ : L2.St} {ρ : Ev2.Env} {S S2 : Store} {f : α → M α'} {c : α'} {Q : β → Hp → Prop}
    (hr : Er K F mu σ ρ) (hS : Sr K F mu S H) (e : M.bnd (m ρ) f S = .ok c S2)
    (k : ∀ a S1 v F1 mu1 H1, f a S1 = .ok c S2 → Stp F mu H F1 mu1 H1 → Sr K F1 mu1 S1 H1 → Er K F1 mu1 σ ρ → rel F1 mu1 v a → Q v H1) : Rdg K rel m σ H Q := by
  obtain ⟨a, S1, e1, e2⟩ := bnd_ok e
  exact ⟨F, mu, ρ, S, a, S1, hr, hS, e1, fun v F1 mu1 H1 st h1 h2 => k a S1 v F1 mu1 H1 e2 st h1 (hr.later st) h2⟩

/-! ### the law's text in its world -/
/-- a dict of the module: where it lies, what its keys have -/
def KdAt (w : World) (K : PySem.W.Frag) (mg : Str → Option Value) (x : Str) (ks : List Str) (vs : List D) : Prop := ∃ a es n, mg x = some (.ref a) ∧ KDict K w a es n ∧
  ∀ z, ∃ r, PySem.W.nsIn K a z = some r ∧ r.isSome = ks.contains z ∧ ∀ d, dGet ks vs z = some d → ∃ u v, r = some u ∧ RelV v u ∧ Rp K (fun _ => none) [] v d
/-- how an error of a class is made: by its one field, or by nothing -/
def ExMk (K : PySem.W.Frag) (C : Addr) (i : ExI) : Prop := match i.fld with
  | some f => ∃ fI fd, InitOf K C fI f fd
  | none => PySem.W.excIn K C PySem.HandSPX.veTail "ValueError.__new__" = true ∧ PySem.W.keepIn K (.ref C) = true ∧ PySem.W.subIn K (.ref C) (.type "BaseException") = some true ∧ PySem.W.typeIn K (.ref C) = some (.type "type")
/-- an error class of the text, at C -/
structure ExAt (K : PySem.W.Frag) (mg : Str → Option Value) (exs : Str → Option ExI) (x : Str) (i : ExI) (C : Addr) : Prop where
  ns : PySem.W.nsIn K mainGlobals x = some (some (.ref C))
  at_ : mg x = some (.ref C)
  xc : ExcC K C
  xf : XfC K C
  mks : i.made = true → ExMk K C i
  is : ∀ y j, exs y = some j → ∃ D, mg y = some (.ref D) ∧ PySem.W.kitOne K (.ref C) (.ref D) = some (i.sup.contains y) ∧ PySem.W.exmOne K (.ref C) (.ref D) = some (i.sup.contains y)
  isv : PySem.W.kitOne K (.ref C) (.type "ValueError") = some true
  nv : x ≠ "ValueError"
  no : ∀ f, i.fld = some f → PySem.W.findIn K (.ref C) f = some none
structure Wld (w : World) (K : PySem.W.Frag) (mg : Str → Option Value) (PR : Prg) : Prop where
  exs : ∀ x i, PR.exs x = some i → ∃ C, ExAt K mg PR.exs x i C
  kd : ∀ x ks vs, PR.kds x = some (ks, vs) → KdAt w K mg x ks vs
  cst : ∀ x d, PR.consts x = some d → ∃ u v, mg x = some u ∧ RelV v u ∧ Rp K (fun _ => none) [] v d
  cstT : ∀ x ds, PR.consts x = some (.tup ds) → ∃ a o, mg x = some (.ref a) ∧ K.lookup a = some o ∧ o.cls = .type "tuple" ∧ o.dict = none
  blt : ∀ x, PR.blt x = true → mg x = none

/-- how a call of this form with keywords binds -/
def KwB (K : PySem.W.Frag) (fd : FuncData) (ps : List Str) (p : KwP) : Prop := ∀ (s : Shared) (us ws : List Value), K.In s.heap → us.length = p.n → ws.length = p.ks.length → BindsTo s fd ⟨us, p.ks.zip ws⟩ (ps.zip (byIx p.ix (us ++ ws)))
theorem byIx_vals {vs : List V} {us : List Value} (h : Vals vs us) : ∀ ix : List Nat, Vals (byIx ix vs) (byIx ix us)
  | [] => .nil
  | i :: ix => by
    have ih := byIx_vals h ix
    have hl := h.length
    unfold byIx at ih ⊢
    cases q : vs[i]? with
    | none =>
      have q2 : us[i]? = none := List.getElem?_eq_none (by rw [← hl]; exact List.getElem?_eq_none_iff.mp q)
      rw [List.filterMap_cons_none q, List.filterMap_cons_none q2]
      exact ih
    | some v =>
      obtain ⟨u, hu, r⟩ := h.get q
      rw [List.filterMap_cons_some q, List.filterMap_cons_some hu]
      exact .cons r ih
theorem byIx_rps {K : PySem.W.Frag} {F : Hp} {mu : List Addr} {vs : List V} {ds : List D} (h : Rps K F mu vs ds) : ∀ ix : List Nat, Rps K F mu (byIx ix vs) (byIx ix ds)
  | [] => .nil
  | i :: ix => by
    have ih := byIx_rps h ix
    have hl := h.length
    unfold byIx at ih ⊢
    cases q : ds[i]? with
    | none =>
      have q2 : vs[i]? = none := List.getElem?_eq_none (by rw [hl]; exact List.getElem?_eq_none_iff.mp q)
      rw [List.filterMap_cons_none q, List.filterMap_cons_none q2]
      exact ih
    | some d =>
      obtain ⟨v, hv, r⟩ := h.get q
      rw [List.filterMap_cons_some q, List.filterMap_cons_some hv]
      exact .cons r ih

/-- as FnOk, where no repr is under way -/
structure FnG (P : Program) (w : World) (K : PySem.W.Frag) (mg : Str → Option Value) (base : Heap) (CX : CXT) (k : Nat) (f : Addr) (fd : FuncData) (ps : List Str) (sp : Sp) : Prop where
  len : ∀ vs H Q E, sp vs H Q E → vs.length = ps.length
  run : ∀ (A : Around) (outer : List PySem.Env) (s : Shared) (H : Hp) (args : Args) (us : List Value) (vs : List V) (Q : VK) (E : XK),
    Room k A → A.guards = some [] → Env0 P w K mg base A outer s H → BindsTo s fd args (ps.zip us) → Vals vs us → sp vs H Q E →
    codeAny (model P w) A (.call (.ref f) args) (CR CX outer P w H s Q E) s

/-- what a def promises: the evaluator's answer -/
def spK (K : PySem.W.Frag) (PR : Prg) (k : Nat) (x : Str) (ps : List Str) : Sp := fun vs H Q _ =>
  vs.length = ps.length ∧ ∃ F mu S ds d S1 g, callK PR k x = some g ∧ Sr K F mu S H ∧ Rps K F mu vs ds ∧ g ds [] S = .ok d S1 ∧ Post K F mu H d S1 Q

def textV : D → V
  | .str x => .str x
  | _ => .non

/-- a def that returns a written tuple: a new tuple whose object is plain -/
def spC (ds : List D) : Sp := fun vs H Q _ => vs = [] ∧ ∀ (p : Addr) (o : Obj), H p = none → o.dict = none → Q (.ref p) (upd H p (.frz o (.tup (ds.map textV))))

structure Fns (P : Program) (w : World) (K : PySem.W.Frag) (mg : Str → Option Value) (base : Heap) (PR : Prg) (k : Nat) : Prop where
  fn : ∀ x d, PR.defs x = some d → ∃ f fd, mg x = some (.ref f) ∧ PySem.W.keepIn K (.ref f) = true ∧ Binds K fd d.ps [] ∧ (∀ p ∈ d.kp, KwB K fd d.ps p) ∧ FnG P w K mg base CX0 (k + 2) f fd d.ps (spK K PR k x d.ps)
  ctup : ∀ x ds, PR.ctups k x = some ds → (∃ es, txtsOf es = some ds) ∧ ∃ f fd, mg x = some (.ref f) ∧ PySem.W.keepIn K (.ref f) = true ∧ Binds K fd [] [] ∧ FnG P w K mg base CX0 (k + 2) f fd [] (spC ds)
  sys : ∃ o, base.get? sysModules = some o

structure Ctx (PR : Prg) (k : Nat) (X : Cx) (C : Cxt) : Prop where
  wld : Wld X.w X.K X.mg PR
  fns : Fns X.prog X.w X.K X.mg X.base PR k
  N : X.N = C.N
  sc : X.env.scope = C.sc
  nd : C.N.Nodup
  calm : X.calm = true
  fn : ∀ x, C.fn x = true → X.fn x = true
  gd : X.A.guards = some []
  room : Room (k + 2) X.A
  xe : X.xe = fun _ _ => False

theorem ixOf_get : ∀ {N : List Str} {x : Str} {i : Nat}, ixOf N x = some i → N[i]? = some x
  | [], _, _, e => by cases e
  | y :: ys, x, i, e => by
    unfold ixOf at e
    split at e
    next h => cases e; rw [h]; rfl
    next h =>
      cases q : ixOf ys x with
      | none => rw [q] at e; cases e
      | some j =>
        rw [q] at e
        cases e
        show ys[j]? = some x
        exact ixOf_get q

section
variable {PR : Prg} {k : Nat} {X : Cx} {C : Cxt}

theorem odd_of {x : Str} (h : odd x = false) : (x == ("__debug__" : Str)) = false ∧ (x == ("__classdict__" : Str)) = false ∧ x ≠ "__name__" := by
  unfold odd at h
  simp only [Bool.or_eq_false_iff] at h
  exact ⟨h.1.1, h.1.2, fun e => by have := h.2; rw [e] at this; simp at this⟩
theorem vis_of (c : Ctx PR k X C) {x : Str} (h : isVis C.sc x = true) : Vis X.env.scope x := by
  rw [c.sc]
  unfold isVis at h
  split at h
  next q => exact .inl q
  next q => exact .inr (.inl q)
  next q => exact .inr (.inr q)
  next => cases h
theorem gl_of (c : Ctx PR k X C) {x : Str} (h : isGl C.sc x = true) : Gl X x := by
  show X.env.scope.names.lookup x = some .globalImplicit
  rw [c.sc]
  unfold isGl at h
  split at h
  next q => exact q
  next => cases h

theorem PE.imp {e : Expr} {t u : TE} (h : PE X e t) (i : ∀ σ H Q, u σ H Q → t σ H Q) : PE X e u := ⟨fun pins s σ H Q I q => h.run pins s σ H Q I (i σ H Q q)⟩
theorem PT.imp {e : Expr} {t u : TT} (h : PT X e t) (i : ∀ σ H Q, u σ H Q → t σ H Q) : PT X e u := ⟨fun pins s σ H Q I q => h.run pins s σ H Q I (i σ H Q q)⟩
theorem PA.imp {es : List Expr} {t u : TA} (h : PA X es t) (i : ∀ σ H Q, u σ H Q → t σ H Q) : PA X es u := ⟨fun pos pins s σ H Q I q => h.run pos pins s σ H Q I (i σ H Q q)⟩
theorem PO.imp {e : Option Expr} {t u : TO} (h : PO X e t) (i : ∀ σ H Q, u σ H Q → t σ H Q) : PO X e u := ⟨fun pins s σ H Q I q => h.run pins s σ H Q I (i σ H Q q)⟩

/-- nothing is claimed -/
theorem PE.none {e : Expr} {t : TE} (i : ∀ σ H Q, ¬ t σ H Q) : PE X e t := ⟨fun pins s σ H Q I q => (i σ H Q q).elim⟩
theorem PT.none {e : Expr} {t : TT} (i : ∀ σ H Q, ¬ t σ H Q) : PT X e t := ⟨fun pins s σ H Q I q => (i σ H Q q).elim⟩
theorem PE.of {e : Expr} {t : TE} (i : ∀ σ H Q, t σ H Q → ∃ u : TE, PE X e u ∧ u σ H Q) : PE X e t := ⟨fun pins s σ H Q I q => let ⟨_, h, q2⟩ := i σ H Q q; h.run pins s σ H Q I q2⟩
theorem PT.of {e : Expr} {t : TT} (i : ∀ σ H Q, t σ H Q → ∃ u : TT, PT X e u ∧ u σ H Q) : PT X e t := ⟨fun pins s σ H Q I q => let ⟨_, h, q2⟩ := i σ H Q q; h.run pins s σ H Q I q2⟩
theorem PA.of {e : List Expr} {t : TA} (i : ∀ σ H Q, t σ H Q → ∃ u : TA, PA X e u ∧ u σ H Q) : PA X e t := ⟨fun pos pins s σ H Q I q => let ⟨_, h, q2⟩ := i σ H Q q; h.run pos pins s σ H Q I q2⟩

/-- a value that is at hand -/
theorem rdE_pu {K : PySem.W.Frag} {F H : Hp} {mu : List Addr} {S S1 : Store} {a d : D} {v : V} {Q : VK} (hS : Sr K F mu S H) (e : M.pu a S = .ok d S1) (q : ∀ v F1 mu1 H1, Stp F mu H F1 mu1 H1 → Sr K F1 mu1 S1 H1 → Rp K F1 mu1 v d → Q v H1) (r : Rp K F mu v a) : Q v H := by
  obtain ⟨rfl, rfl⟩ := pu_ok e
  exact q v F mu H Stp.refl hS r

theorem rp_const {K : PySem.W.Frag} {F : Hp} {mu : List Addr} {v : V} {d : D} (h : Rp K (fun _ => none) [] v d) : Rp K F mu v d := Rp.mono (fun _ _ e => by cases e) ⟨mu, by simp⟩ d v h

theorem boot_ty : ∀ (x : Str) (t : Ty), tyTable.lookup x = some t → bootBuiltins x = some (.type t.nm) := by
  intro x t h
  have key : ∀ (l : List (Str × Ty)), (∀ p ∈ l, bootBuiltins p.1 = some (.type p.2.nm)) → l.lookup x = some t → bootBuiltins x = some (.type t.nm) := by
    intro l hl e
    exact hl (x, t) (PySem.mem_of_lookup e)
  refine key tyTable ?_ h
  intro p hp
  simp only [tyTable, List.mem_cons, List.not_mem_nil, or_false] at hp
  rcases hp with rfl | rfl | rfl | rfl | rfl | rfl <;> decide +kernel

theorem sound_name (c : Ctx PR k X C) (cl : Str → Option (List D → List (Str × D) → M D)) (x : Str) (pos : Pos) : PE X (.Name x pos) (rdE X.K (getVar (PR.gx k cl) C x)) := by
  refine PE.of fun σ H Q h => ?_
  obtain ⟨F, mu, ρ, S, d, S1, hr, hS, e, q⟩ := h
  unfold getVar at e
  split at e
  · exact (no_bad e).elim
  next ho =>
    obtain ⟨o1, o2, o3⟩ := odd_of (by simpa using ho)
    split at e
    next hv =>
      cases q1 : ixOf C.N x with
      | none => rw [q1] at e; exact (no_bad e).elim
      | some i =>
        rw [q1] at e
        simp only at e
        cases q2 : ρ[i]? with
        | none => rw [q2] at e; exact (no_bad e).elim
        | some o =>
          cases o with
          | none => rw [q2] at e; exact (no_bad e).elim
          | some d' =>
            rw [q2] at e
            obtain ⟨v, h1, h2⟩ := hr.at_ i d' q2
            exact ⟨_, pe_var (i := i) (by rw [c.N]; exact ixOf_get q1) (vis_of c hv) o1 o2, v, h1, rdE_pu hS e q h2⟩
    next hv =>
      split at e
      next hg =>
        cases q1 : PR.consts x with
        | some d' =>
          have e' : (match PR.consts x with | some d => M.pu d | none => if PR.blt x then (match tyTable.lookup x with | some t => M.pu (.ty t) | none => M.bad) else M.bad) S = .ok d S1 := e
          rw [q1] at e'
          obtain ⟨u, v, h1, h2, h3⟩ := c.wld.cst x d' q1
          exact ⟨_, pe_glob (gl_of c hg) h1 h2 o1, rdE_pu hS e' q (rp_const h3)⟩
        | none =>
          have e' : (match PR.consts x with | some d => M.pu d | none => if PR.blt x then (match tyTable.lookup x with | some t => M.pu (.ty t) | none => M.bad) else M.bad) S = .ok d S1 := e
          rw [q1] at e'
          simp only at e'
          split at e'
          next hb =>
            cases q2 : tyTable.lookup x with
            | none => rw [q2] at e'; exact (no_bad e').elim
            | some t =>
              rw [q2] at e'
              exact ⟨_, pe_bltn (v := .ty t.nm) (gl_of c hg) (c.wld.blt x hb) (boot_ty x t q2) rfl o3 o1, rdE_pu hS e' q (.ty t)⟩
          next => exact (no_bad e').elim
      next => exact (no_bad e).elim

/-! ### argument lists -/
theorem star_plain {e : Expr} {es : List Expr} {env : PySem.Env} (h : isStar e = false) : starEach (e :: es) env = (false, eval e env) :: starEach es env := by
  cases e <;> first | rfl | (simp [isStar] at h; done)

theorem sound_args (G : Gx) (r : Rec) (C : Cxt) (hE : ∀ e, PE X e (rdE X.K (r.E C e))) : ∀ es : List Expr, PA X es (rdA X.K fun ρ => evA G r C ρ es)
  | [] => by
    refine PA.imp pa_nil fun σ H Q h => ?_
    obtain ⟨F, mu, ρ, S, d, S1, hr, hS, e, q⟩ := h
    obtain ⟨rfl, rfl⟩ := pu_ok (show M.pu [] S = _ from e)
    exact q [] F mu H Stp.refl hS .nil
  | e :: es => by
    have ih := sound_args G r C hE es
    by_cases hs : isStar e = true
    · cases e <;> first | (exfalso; simp [isStar] at hs; done) | skip
      rename_i e p
      refine PA.imp (StX.pa_star (hE e) ih) fun σ H Q h => ?_
      obtain ⟨F, mu, ρ, S, d, S1, hr, hS, e1, q⟩ := h
      refine Rdg.seq hr hS e1 fun a S2 v F1 mu1 H1 e2 st hS1 hr1 hv => ?_
      obtain ⟨xs, S3, e3, e4⟩ := bnd_ok e2
      have e5 : (match seqOf S2 a with | some xs => R.ok xs S2 | none => .bad) = .ok xs S3 := e3
      cases q1 : seqOf S2 a with
      | none => rw [q1] at e5; cases e5
      | some ys =>
        rw [q1] at e5
        injection e5 with e6 e7
        subst e6 e7
        obtain ⟨ad, ws, rfl, hq, hrs⟩ := hS1.seq hv q1
        refine ⟨ad, ws, rfl, hq.symm, ?_⟩
        refine Rdg.seq hr1 hS1 e4 fun ds S4 us F2 mu2 H2 e8 st2 hS2 hr2 hu => ?_
        obtain ⟨rfl, rfl⟩ := pu_ok e8
        exact q _ F2 mu2 H2 (st.trans st2) hS2 ((st2.rps hrs).append hu)
    · have hs' : isStar e = false := by simpa using hs
      refine PA.imp (pa_cons (hE e) ih (star_plain hs')) fun σ H Q h => ?_
      obtain ⟨F, mu, ρ, S, d, S1, hr, hS, e1, q⟩ := h
      have e1' : M.bnd (r.E C e ρ) (fun d => M.bnd (evA G r C ρ es) fun ds => M.pu (d :: ds)) S = .ok d S1 := by
        cases e <;> first | exact e1 | (simp [isStar] at hs'; done)
      refine Rdg.seq hr hS e1' fun a S2 v F1 mu1 H1 e2 st hS1 hr1 hv => ?_
      refine Rdg.seq hr1 hS1 e2 fun ds S4 us F2 mu2 H2 e8 st2 hS2 hr2 hu => ?_
      obtain ⟨rfl, rfl⟩ := pu_ok e8
      exact q _ F2 mu2 H2 (st.trans st2) hS2 (.cons (st2.rp hv) hu)

/-! ### parts of a slice -/
theorem sound_part (r : Rec) (C : Cxt) (hE : ∀ e, PE X e (rdE X.K (r.E C e))) : ∀ o : Option Expr, PO X o (rdO X.K fun ρ => evPart r C ρ o)
  | none => by
    refine PO.imp po_none fun σ H Q h => ?_
    obtain ⟨F, mu, ρ, S, d, S1, hr, hS, e, q⟩ := h
    obtain ⟨rfl, rfl⟩ := pu_ok (show M.pu none S = _ from e)
    exact q none F mu H Stp.refl hS rfl
  | some e => by
    refine PO.imp (po_some (hE e)) fun σ H Q h => ?_
    obtain ⟨F, mu, ρ, S, d, S1, hr, hS, e1, q⟩ := h
    refine Rdg.seq hr hS e1 fun a S2 v F1 mu1 H1 e2 st hS1 hr1 hv => ?_
    cases hv <;> first | (exfalso; exact no_bad e2) | skip
    obtain ⟨rfl, rfl⟩ := pu_ok e2
    exact ⟨_, rfl, q _ F1 mu1 H1 st hS1 rfl⟩

/-! ### targets -/
def SameOut (l : List Nat) (σ σ1 : L2.St) : Prop := σ1.length = σ.length ∧ ∀ i, i ∉ l → σ1[i]? = σ[i]?
theorem SameOut.refl (l : List Nat) (σ : L2.St) : SameOut l σ σ := ⟨rfl, fun _ _ => rfl⟩
theorem SameOut.set (σ : L2.St) (i : Nat) (v : Option V) : SameOut [i] σ (σ.set i v) := ⟨by simp, fun j hj => List.getElem?_set_ne (by simp at hj; exact fun e => hj e.symm)⟩
theorem SameOut.trans {l l' : List Nat} {σ σ1 σ2 : L2.St} (a : SameOut l σ σ1) (b : SameOut l' σ1 σ2) : SameOut (l ++ l') σ σ2 :=
  ⟨b.1.trans a.1, fun i hi => (b.2 i fun m => hi (List.mem_append_right _ m)).trans (a.2 i fun m => hi (List.mem_append_left _ m))⟩

theorem setVar_ok (c : Ctx PR k X C) {x : Str} {d : D} {ρ ρ1 : Ev2.Env} (e : setVar C x d ρ = some ρ1) : ∃ i, ixOf C.N x = some i ∧ ρ1 = ρ.set i (some d) ∧ Loc X.env.scope x ∧ (X.fn x = true ∨ X.env.scope.names.lookup x = some .local) := by
  unfold setVar at e
  rw [c.sc]
  split at e
  next q =>
    cases q1 : ixOf C.N x with
    | none => rw [q1] at e; cases e
    | some i =>
      rw [q1] at e
      cases e
      exact ⟨i, rfl, rfl, .inl q, .inr q⟩
  next q =>
    split at e
    next hf =>
      cases q1 : ixOf C.N x with
      | none => rw [q1] at e; cases e
      | some i =>
        rw [q1] at e
        cases e
        exact ⟨i, rfl, rfl, .inr q, .inl (c.fn x hf)⟩
    next => cases e
  next => cases e

def rdG (K : PySem.W.Frag) (C : Cxt) (tg : Expr) : TG := fun v σ H Q =>
  ∃ F mu d ρ ρ1, Same F H ∧ Er K F mu σ ρ ∧ Rp K F mu v d ∧ setTgt C tg d ρ = some ρ1 ∧ ∀ σ1, Er K F mu σ1 ρ1 → SameOut (slotsT C.N tg) σ σ1 → Q σ1 H
def rdGs (K : PySem.W.Frag) (C : Cxt) (ts : List Expr) : TGs := fun vs σ H Q =>
  ∃ F mu ds ρ ρ1, Same F H ∧ Er K F mu σ ρ ∧ Rps K F mu vs ds ∧ setAll C ts ds ρ = some ρ1 ∧ ∀ σ1, Er K F mu σ1 ρ1 → SameOut (slotsOf C.N ts) σ σ1 → Q σ1 H

theorem sound_tgName (c : Ctx PR k X C) (x : Str) (p : Pos) : PG X (.Name x p) (rdG X.K C (.Name x p)) := by
  refine ⟨fun pins s σ H v u Q I r h => ?_⟩
  obtain ⟨F, mu, d, ρ, ρ1, sb, hr, hv, e, q⟩ := h
  obtain ⟨i, q1, rfl, hl, hf⟩ := setVar_ok c (show setVar C x d ρ = some ρ1 from e)
  refine (pg_name (i := i) (by rw [c.N]; exact c.nd) (by rw [c.N]; exact ixOf_get q1) hl hf).run pins s σ H v u Q I r ?_
  refine q _ (hr.set hv i) ?_
  have e1 : slotsT C.N (.Name x p) = [i] := by simp [slotsT, q1]
  rw [e1]
  exact SameOut.set σ i (some v)

theorem sound_tgs (c : Ctx PR k X C) : ∀ ts : List Expr, PGs X ts (rdGs X.K C ts)
  | [] => by
    refine ⟨fun pins s σ H vs us Q I r h => ?_⟩
    obtain ⟨F, mu, ds, ρ, ρ1, sb, hr, hv, e, q⟩ := h
    cases hv with
    | nil =>
      cases e
      exact (pgs_nil (X := X)).run pins s σ H _ us Q I r ⟨rfl, q σ hr (SameOut.refl _ _)⟩
    | cons _ _ => cases e
  | t :: ts => by
    have ih := sound_tgs c ts
    refine ⟨fun pins s σ H vs us Q I r h => ?_⟩
    obtain ⟨F, mu, ds, ρ, ρ1, sb, hr, hv, e, q⟩ := h
    cases t <;> first | (exfalso; cases ds <;> cases e; done) | skip
    rename_i x p
    cases hv with
    | nil => cases e
    | cons hv hvs =>
      rename_i v vs d ds
      have e' : (setVar C x d ρ).bind (fun ρ1 => setAll C ts ds ρ1) = some ρ1 := e
      cases q1 : setVar C x d ρ with
      | none => rw [q1] at e'; cases e'
      | some ρ2 =>
        rw [q1] at e'
        refine (pgs_cons (sound_tgName c x p) ih rfl).run pins s σ H _ us Q I r ⟨v, vs, rfl, ?_⟩
        refine ⟨F, mu, d, ρ, ρ2, sb, hr, hv, q1, fun σ1 hr1 so1 => ?_⟩
        exact ⟨F, mu, ds, ρ2, ρ1, sb, hr1, hvs, e', fun σ2 hr2 so2 => q σ2 hr2 (so1.trans so2)⟩

theorem assignEach_names (c : Ctx PR k X C) : ∀ (ts : List Expr) (ds : List D) (ρ ρ1 : Ev2.Env), setAll C ts ds ρ = some ρ1 → (assignEach ts X.env).length = ts.length ∧ (assignEach ts X.env).findIdx? (·.1) = none ∧ ts.length = ds.length
  | [], ds, ρ, ρ1, e => by cases ds <;> first | exact ⟨rfl, rfl, rfl⟩ | cases e
  | t :: ts, ds, ρ, ρ1, e => by
    cases t <;> first | (exfalso; cases ds <;> cases e; done) | skip
    rename_i x p
    cases ds with
    | nil => cases e
    | cons d ds =>
      have e' : (setVar C x d ρ).bind (fun ρ1 => setAll C ts ds ρ1) = some ρ1 := e
      cases q1 : setVar C x d ρ with
      | none => rw [q1] at e'; cases e'
      | some ρ2 =>
        rw [q1] at e'
        obtain ⟨h1, h2, h3⟩ := assignEach_names c ts ds ρ2 ρ1 e'
        refine ⟨?_, ?_, by simp [h3]⟩
        · show (assignEach ts X.env).length + 1 = ts.length + 1
          rw [h1]
        · show List.findIdx? (·.1) ((false, assign (.Name x p) X.env) :: assignEach ts X.env) = none
          rw [List.findIdx?_cons]
          simp [h2]

/-- a tuple of names -/
def rdGT (K : PySem.W.Frag) (C : Cxt) (ts : List Expr) : TG := fun v σ H Q =>
  ∃ F mu d ds ρ ρ1, Same F H ∧ Er K F mu σ ρ ∧ Rp K F mu v d ∧ unT d = some ds ∧ setAll C ts ds ρ = some ρ1 ∧ ∀ σ1, Er K F mu σ1 ρ1 → SameOut (slotsOf C.N ts) σ σ1 → Q σ1 H
theorem sound_tgTup (c : Ctx PR k X C) (ts : List Expr) (kk : Nat) (p : Pos) : PG X (.Tuple ts kk p) (rdGT X.K C ts) := by
  refine ⟨fun pins s σ H v u Q I r h => ?_⟩
  obtain ⟨F, mu, d, ds, ρ, ρ1, sb, hr, hv, hu, e', q⟩ := h
  cases hv <;> first | (exfalso; cases hu; done) | skip
  case tup a xs ds h1 h2 =>
    cases hu
    obtain ⟨n1, n2, n3⟩ := assignEach_names c ts ds ρ ρ1 e'
    refine (pg_tup c.calm (sound_tgs c ts) n1 n2).run pins s σ H _ u Q I r ⟨a, xs, rfl, sqT_mono sb h1, by rw [h2.length, n3], ?_⟩
    exact ⟨F, mu, ds, ρ, ρ1, sb, hr, h2, e', q⟩
  case lst a xs ds h1 h2 =>
    cases hu
    obtain ⟨n1, n2, n3⟩ := assignEach_names c ts ds ρ ρ1 e'
    refine (pg_unl c.calm (sound_tgs c ts) n1 n2).run pins s σ H _ u Q I r ⟨a, xs, rfl, .inl (.inl (sb _ _ h1)), by rw [h2.length, n3], ?_⟩
    exact ⟨F, mu, ds, ρ, ρ1, sb, hr, h2, e', q⟩
/-- a tuple whose first target is a tuple of names -/
theorem sound_tgNest (c : Ctx PR k X C) (us ts : List Expr) (k1 k2 : Nat) (p1 p2 : Pos) : PG X (.Tuple (.Tuple us k1 p1 :: ts) k2 p2) (rdG X.K C (.Tuple (.Tuple us k1 p1 :: ts) k2 p2)) := by
  refine ⟨fun pins s σ H v u Q I r h => ?_⟩
  obtain ⟨F, mu, d, ρ, ρ1, sb, hr, hv, e, q⟩ := h
  replace e : (unT d).bind (fun ds => (match ds with
    | d0 :: ds => (unT d0).bind fun es => (setAll C us es ρ).bind fun ρ1 => setAll C ts ds ρ1
    | [] => none)) = some ρ1 := e
  have main : ∀ (xs : List V) (ds : List D), Rps X.K F mu xs ds → unT d = some ds → xs.length = ts.length + 1 ∧ (assignEach (.Tuple us k1 p1 :: ts) X.env).length = (Expr.Tuple us k1 p1 :: ts).length ∧ (assignEach (.Tuple us k1 p1 :: ts) X.env).findIdx? (·.1) = none ∧
      ∃ v0 vs, xs = v0 :: vs ∧ rdGT X.K C us v0 σ H fun σ1 H1 => rdGs X.K C ts vs σ1 H1 Q := by
    intro xs ds h2 hu
    rw [hu] at e
    simp only [Option.bind_some] at e
    cases h2 with
    | nil => cases e
    | cons r0 t0 =>
      rename_i v0 vs d0 ds0
      simp only at e
      cases w1 : unT d0 with
      | none => rw [w1] at e; cases e
      | some es =>
        rw [w1] at e
        simp only [Option.bind_some] at e
        cases w2 : setAll C us es ρ with
        | none => rw [w2] at e; cases e
        | some ρ2 =>
          rw [w2] at e
          simp only [Option.bind_some] at e
          obtain ⟨n1, n2, n3⟩ := assignEach_names c ts ds0 ρ2 ρ1 e
          refine ⟨by rw [List.length_cons, t0.length, n3], ?_, ?_, v0, vs, rfl, ?_⟩
          · show (assignEach ts X.env).length + 1 = ts.length + 1
            rw [n1]
          · show List.findIdx? (·.1) ((false, assign (.Tuple us k1 p1) X.env) :: assignEach ts X.env) = none
            rw [List.findIdx?_cons]
            simp [n2]
          · refine ⟨F, mu, d0, es, ρ, ρ2, sb, hr, r0, w1, w2, fun σ1 hr1 so1 => ?_⟩
            exact ⟨F, mu, ds0, ρ2, ρ1, sb, hr1, t0, e, fun σ2 hr2 so2 => q σ2 hr2 (so1.trans so2)⟩
  cases hv <;> first | (exfalso; cases e; done) | skip
  case tup a xs ds h1 h2 =>
    obtain ⟨m1, m2, m3, v0, vs, rfl, m4⟩ := main _ _ h2 rfl
    refine (pg_tup c.calm (pgs_cons (sound_tgTup c us k1 p1) (sound_tgs c ts) rfl) m2 m3).run pins s σ H _ u Q I r ⟨a, _, rfl, sqT_mono sb h1, by rw [m1]; rfl, ?_⟩
    exact ⟨v0, vs, rfl, m4⟩
  case lst a xs ds h1 h2 =>
    obtain ⟨m1, m2, m3, v0, vs, rfl, m4⟩ := main _ _ h2 rfl
    refine (pg_unl c.calm (pgs_cons (sound_tgTup c us k1 p1) (sound_tgs c ts) rfl) m2 m3).run pins s σ H _ u Q I r ⟨a, _, rfl, .inl (.inl (sb _ _ h1)), by rw [m1]; rfl, ?_⟩
    exact ⟨v0, vs, rfl, m4⟩
theorem tgt_of_all {ts : List Expr} {kk : Nat} {p : Pos} {d : D} {ds : List D} {ρ ρ1 : Ev2.Env} (h : unT d = some ds) (e : setAll C ts ds ρ = some ρ1) : setTgt C (.Tuple ts kk p) d ρ = some ρ1 := by
  rcases ts with _ | ⟨t, ts⟩
  · show (unT d).bind _ = _
    rw [h]
    exact e
  · cases t <;> first | (exfalso; cases ds <;> cases e; done) | skip
    show (unT d).bind _ = _
    rw [h]
    exact e
/-- is the first target a tuple? -/
def nestT : List Expr → Bool
  | .Tuple _ _ _ :: _ => true
  | _ => false
theorem sound_tgt (c : Ctx PR k X C) (tg : Expr) : PG X tg (rdG X.K C tg) := by
  refine ⟨fun pins s σ H v u Q I r h => ?_⟩
  obtain ⟨F, mu, d, ρ, ρ1, sb, hr, hv, e, q⟩ := h
  cases tg <;> first | (exfalso; cases e; done) | skip
  case Name x p => exact (sound_tgName c x p).run pins s σ H v u Q I r ⟨F, mu, d, ρ, ρ1, sb, hr, hv, e, q⟩
  case Tuple ts kk p =>
    by_cases hn : nestT ts = true
    · rcases ts with _ | ⟨t, ts⟩
      · cases hn
      · cases t <;> first | (exfalso; cases hn; done) | skip
        rename_i us k1 p1
        exact (sound_tgNest c us ts k1 kk p1 p).run pins s σ H v u Q I r ⟨F, mu, d, ρ, ρ1, sb, hr, hv, e, q⟩
    · have e1 : (unT d).bind (fun ds => setAll C ts ds ρ) = some ρ1 := by
        rcases ts with _ | ⟨t, ts⟩
        · exact e
        · cases t <;> first | exact e | (exfalso; exact hn rfl)
      have e2 : slotsT C.N (.Tuple ts kk p) = slotsOf C.N ts := by
        rcases ts with _ | ⟨t, ts⟩
        · rfl
        · cases t <;> first | rfl | (exfalso; exact hn rfl)
      rw [e2] at q
      cases w : unT d with
      | none => rw [w] at e1; cases e1
      | some ds =>
        rw [w] at e1
        exact (sound_tgTup c ts kk p).run pins s σ H v u Q I r ⟨F, mu, d, ds, ρ, ρ1, sb, hr, hv, w, e1, q⟩
end
end Ev2
/-! E6: iterables, runs of loops, comprehensions. -/
namespace Ev2
open PySem L2 PyProof.Rows

def itemsOf (S : Store) : Src → Option (List D)
  | .vals ds => some ds
  | .lref j => lstAt S j

/-- the frozen part and the store's places grow -/
structure Grw (F : Hp) (mu : List Addr) (F1 : Hp) (mu1 : List Addr) : Prop where
  fz : Same F F1
  pl : ∃ nu, mu1 = mu ++ nu
theorem Grw.rps {K : PySem.W.Frag} {F F1 : Hp} {mu mu1 : List Addr} (a : Grw F mu F1 mu1) {vs : List V} {ds : List D} (h : Rps K F mu vs ds) : Rps K F1 mu1 vs ds := Rps.mono a.fz a.pl ds vs h
theorem Stp.grw {F H F1 H1 : Hp} {mu mu1 : List Addr} (a : Stp F mu H F1 mu1 H1) : Grw F mu F1 mu1 := ⟨a.fz, a.pl⟩
theorem Grw.trans {F F1 F2 : Hp} {mu mu1 mu2 : List Addr} (a : Grw F mu F1 mu1) (b : Grw F1 mu1 F2 mu2) : Grw F mu F2 mu2 := by
  refine ⟨a.fz.trans b.fz, ?_⟩
  obtain ⟨n1, e1⟩ := a.pl
  obtain ⟨n2, e2⟩ := b.pl
  exact ⟨n1 ++ n2, by rw [e2, e1, List.append_assoc]⟩

/-- the iterator J gives the source's items -/
def Ysrc (K : PySem.W.Frag) (J : It) (F : Hp) (mu : List Addr) (H : Hp) (src : Src) : Prop :=
  ∀ F1 mu1 S1 H1, Grw F mu F1 mu1 → Sr K F1 mu1 S1 H1 → ∀ ds, itemsOf S1 src = some ds → ∀ i,
    (∀ d, ds[i]? = some d → J.go i H1 ∧ ∀ x H2, J.yld i H1 x H2 → ∃ F2, Stp F1 mu1 H1 F2 mu1 H2 ∧ Sr K F2 mu1 S1 H2 ∧ Rp K F2 mu1 x d) ∧ (ds.length ≤ i → J.stop i H1)

def rdI (K : PySem.W.Frag) (m : Ev2.Env → M Src) : TI := fun σ H R =>
  ∃ F mu ρ S src S1, Er K F mu σ ρ ∧ Sr K F mu S H ∧ m ρ S = .ok src S1 ∧ ∀ J F1 mu1 H1, Stp F mu H F1 mu1 H1 → Sr K F1 mu1 S1 H1 → Ysrc K J F1 mu1 H1 src → R J H1

section
variable {K : PySem.W.Frag} {F H : Hp} {mu : List Addr} {S : Store}

theorem yields_tup {a : Addr} {xs : List V} {ds : List D} (h1 : SqT K F a xs) (h2 : Rps K F mu xs ds) : Ysrc K (Itt K a) F mu H (.vals ds) := by
  intro F1 mu1 S1 H1 st hS ds' e i
  cases e
  have hq : SqT K H1 a xs := sqT_mono hS.sub (sqT_mono st.fz h1)
  have hr := st.rps h2
  refine ⟨fun d hd => ?_, fun hl => ⟨xs, hq, by rw [hr.length]; exact hl⟩⟩
  obtain ⟨v, hv, rv⟩ := hr.get hd
  refine ⟨⟨xs, v, hq, hv⟩, fun x H2 y => ?_⟩
  obtain ⟨rfl, y⟩ := y
  have := y xs hq
  rw [hv] at this
  cases this
  exact ⟨F1, Stp.refl, hS, rv⟩
theorem yields_list {a : Addr} {xs : List V} {ds : List D} (h1 : SqL K F a xs) (h2 : Rps K F mu xs ds) : Ysrc K (Itl K a) F mu H (.vals ds) := by
  intro F1 mu1 S1 H1 st hS ds' e i
  cases e
  have hq : SqL K H1 a xs := sqL_mono hS.sub (sqL_mono st.fz h1)
  have hr := st.rps h2
  refine ⟨fun d hd => ?_, fun hl => ⟨xs, hq, by rw [hr.length]; exact hl⟩⟩
  obtain ⟨v, hv, rv⟩ := hr.get hd
  refine ⟨⟨xs, v, hq, hv⟩, fun x H2 y => ?_⟩
  obtain ⟨rfl, y⟩ := y
  have := y xs hq
  rw [hv] at this
  cases this
  exact ⟨F1, Stp.refl, hS, rv⟩
theorem yields_ref {a : Addr} {j : Nat} (h1 : mu[j]? = some a) : Ysrc K (Itl K a) F mu H (.lref j) := by
  intro F1 mu1 S1 H1 st hS ds e i
  have h2 : mu1[j]? = some a := by
    obtain ⟨nu, rfl⟩ := st.pl
    rw [List.getElem?_append_left (List.getElem?_eq_some_iff.mp h1).1]
    exact h1
  obtain ⟨xs, hx, hr⟩ := hS.lst h2 e
  have hq : SqL K H1 a xs := .inl (.inl hx)
  refine ⟨fun d hd => ?_, fun hl => ⟨xs, hq, by rw [hr.length]; exact hl⟩⟩
  obtain ⟨v, hv, rv⟩ := hr.get hd
  refine ⟨⟨xs, v, hq, hv⟩, fun x H2 y => ?_⟩
  obtain ⟨rfl, y⟩ := y
  have := y xs hq
  rw [hv] at this
  cases this
  exact ⟨F1, Stp.refl, hS, rv⟩
theorem yields_range (n : Nat) : Ysrc K (Itr 0 n) F mu H (.vals ((List.range n).map fun (k : Nat) => D.int (k : Int))) := by
  intro F1 mu1 S1 H1 st hS ds e i
  cases e
  refine ⟨fun d hd => ?_, fun hl => ?_⟩
  · have hi : i < n := by
      have := (List.getElem?_eq_some_iff.mp hd).1
      simpa using this
    refine ⟨hi, fun x H2 y => ?_⟩
    obtain ⟨rfl, rfl⟩ := y
    rw [List.getElem?_map, List.getElem?_range hi] at hd
    cases hd
    refine ⟨F1, Stp.refl, hS, ?_⟩
    rw [Int.zero_add]
    exact .int _
  · show n ≤ i
    simpa using hl
theorem zipWith_get {xs ys : List D} {i : Nat} {d : D} (h : (List.zipWith (fun p q => D.tup [p, q]) xs ys)[i]? = some d) : ∃ p q, xs[i]? = some p ∧ ys[i]? = some q ∧ d = .tup [p, q] := by
  rw [List.getElem?_zipWith] at h
  cases e1 : xs[i]? with
  | none => rw [e1] at h; cases h
  | some p =>
    cases e2 : ys[i]? with
    | none => rw [e1, e2] at h; cases h
    | some q =>
      rw [e1, e2] at h
      cases h
      exact ⟨p, q, rfl, rfl, rfl⟩
theorem new_pair {T : Addr} {x y : V} {p q : D} (hS : Sr K F mu S H) (hT : H T = none) (rx : Rp K F mu x p) (ry : Rp K F mu y q) :
    ∃ F2, Stp F mu H F2 mu (upd H T (.tup [x, y])) ∧ Sr K F2 mu S (upd H T (.tup [x, y])) ∧ Rp K F2 mu (.ref T) (.tup [p, q]) := by
  obtain ⟨r1, s1⟩ := hS.frz (o := .tup [x, y]) hT
  exact ⟨_, s1, r1, .tup (.inl (.inl upd_same)) (.cons (s1.rp rx) (.cons (s1.rp ry) .nil))⟩
theorem yields_zipT {a b : Addr} {xs ys : List V} {ds es : List D} (h1 : SqT K F a xs) (h2 : Rps K F mu xs ds) (h3 : SqT K F b ys) (h4 : Rps K F mu ys es) : Ysrc K (RZ.ItzT K a b) F mu H (.vals (List.zipWith (fun p q => D.tup [p, q]) ds es)) := by
  intro F1 mu1 S1 H1 st hS ds' e i
  cases e
  have qa : SqT K H1 a xs := sqT_mono hS.sub (sqT_mono st.fz h1)
  have qb : SqT K H1 b ys := sqT_mono hS.sub (sqT_mono st.fz h3)
  have ra := st.rps h2
  have rb := st.rps h4
  refine ⟨fun d hd => ?_, fun hl => ⟨xs, ys, qa, qb, ?_⟩⟩
  · obtain ⟨p, q, e1, e2, rfl⟩ := zipWith_get hd
    obtain ⟨v, hv, rv⟩ := ra.get e1
    obtain ⟨u, hu, ru⟩ := rb.get e2
    refine ⟨⟨xs, ys, v, u, qa, qb, hv, hu⟩, fun x H2 y => ?_⟩
    obtain ⟨T, x1, y1, rfl, hT, rfl, f1, f2⟩ := y
    have g1 := f1 xs qa
    have g2 := f2 ys qb
    rw [hv] at g1
    rw [hu] at g2
    cases g1
    cases g2
    exact new_pair hS hT rv ru
  · rw [List.length_zipWith] at hl
    rw [ra.length, rb.length]
    omega
theorem yields_zipL {a b : Addr} {xs ys : List V} {ds es : List D} (h1 : F a = some (.lst xs)) (h2 : Rps K F mu xs ds) (h3 : F b = some (.lst ys)) (h4 : Rps K F mu ys es) : Ysrc K (L2.Itz K a b) F mu H (.vals (List.zipWith (fun p q => D.tup [p, q]) ds es)) := by
  intro F1 mu1 S1 H1 st hS ds' e i
  cases e
  have qa : SqL K H1 a xs := .inl (.inl (hS.sub _ _ (st.fz _ _ h1)))
  have qb : SqL K H1 b ys := .inl (.inl (hS.sub _ _ (st.fz _ _ h3)))
  have ra := st.rps h2
  have rb := st.rps h4
  refine ⟨fun d hd => ?_, fun hl => ⟨xs, ys, qa, qb, ?_⟩⟩
  · obtain ⟨p, q, e1, e2, rfl⟩ := zipWith_get hd
    obtain ⟨v, hv, rv⟩ := ra.get e1
    obtain ⟨u, hu, ru⟩ := rb.get e2
    refine ⟨⟨xs, ys, v, u, qa, qb, hv, hu⟩, fun x H2 y => ?_⟩
    obtain ⟨T, x1, y1, rfl, hT, rfl, f1, f2⟩ := y
    have g1 := f1 xs qa
    have g2 := f2 ys qb
    rw [hv] at g1
    rw [hu] at g2
    cases g1
    cases g2
    exact new_pair hS hT rv ru
  · rw [List.length_zipWith] at hl
    rw [ra.length, rb.length]
    omega
theorem yields_zipM {a b : Addr} {xs ys : List V} {ds es : List D} (h1 : F a = some (.lst xs)) (h2 : Rps K F mu xs ds) (h3 : SqT K F b ys) (h4 : Rps K F mu ys es) : Ysrc K (ZM.ItzM K a b) F mu H (.vals (List.zipWith (fun p q => D.tup [p, q]) ds es)) := by
  intro F1 mu1 S1 H1 st hS ds' e i
  cases e
  have qa : SqL K H1 a xs := .inl (.inl (hS.sub _ _ (st.fz _ _ h1)))
  have qb : SqT K H1 b ys := sqT_mono hS.sub (sqT_mono st.fz h3)
  have ra := st.rps h2
  have rb := st.rps h4
  refine ⟨fun d hd => ?_, fun hl => ⟨xs, ys, qa, qb, ?_⟩⟩
  · obtain ⟨p, q, e1, e2, rfl⟩ := zipWith_get hd
    obtain ⟨v, hv, rv⟩ := ra.get e1
    obtain ⟨u, hu, ru⟩ := rb.get e2
    refine ⟨⟨xs, ys, v, u, qa, qb, hv, hu⟩, fun x H2 y => ?_⟩
    obtain ⟨T, x1, y1, rfl, hT, rfl, f1, f2⟩ := y
    have g1 := f1 xs qa
    have g2 := f2 ys qb
    rw [hv] at g1
    rw [hu] at g2
    cases g1
    cases g2
    exact new_pair hS hT rv ru
  · rw [List.length_zipWith] at hl
    rw [ra.length, rb.length]
    omega
theorem zipIdx_get {xs : List D} {i : Nat} {d : D} (h : (xs.zipIdx.map fun p => D.tup [.int (p.2 : Nat), p.1])[i]? = some d) : ∃ q, xs[i]? = some q ∧ d = .tup [.int (i : Nat), q] := by
  rw [List.getElem?_map, List.getElem?_zipIdx] at h
  cases e1 : xs[i]? with
  | none => rw [e1] at h; cases h
  | some q =>
    rw [e1] at h
    cases h
    exact ⟨q, rfl, by simp⟩
theorem yields_enumT {a : Addr} {xs : List V} {ds : List D} (h1 : SqT K F a xs) (h2 : Rps K F mu xs ds) : Ysrc K (IteT K a) F mu H (.vals (ds.zipIdx.map fun p => D.tup [.int (p.2 : Nat), p.1])) := by
  intro F1 mu1 S1 H1 st hS ds' e i
  cases e
  have qa : SqT K H1 a xs := sqT_mono hS.sub (sqT_mono st.fz h1)
  have ra := st.rps h2
  refine ⟨fun d hd => ?_, fun hl => ⟨xs, qa, ?_⟩⟩
  · obtain ⟨q, e1, rfl⟩ := zipIdx_get hd
    obtain ⟨v, hv, rv⟩ := ra.get e1
    refine ⟨⟨xs, v, qa, hv⟩, fun x H2 y => ?_⟩
    obtain ⟨T, x1, rfl, hT, rfl, f1⟩ := y
    have g1 := f1 xs qa
    rw [hv] at g1
    cases g1
    exact new_pair hS hT (.int _) rv
  · rw [List.length_map, List.length_zipIdx] at hl
    rw [ra.length]
    exact hl
theorem yields_enumL {a : Addr} {xs : List V} {ds : List D} (h1 : F a = some (.lst xs)) (h2 : Rps K F mu xs ds) : Ysrc K (L2.Ite K a) F mu H (.vals (ds.zipIdx.map fun p => D.tup [.int (p.2 : Nat), p.1])) := by
  intro F1 mu1 S1 H1 st hS ds' e i
  cases e
  have qa : SqL K H1 a xs := .inl (.inl (hS.sub _ _ (st.fz _ _ h1)))
  have ra := st.rps h2
  refine ⟨fun d hd => ?_, fun hl => ⟨xs, qa, ?_⟩⟩
  · obtain ⟨q, e1, rfl⟩ := zipIdx_get hd
    obtain ⟨v, hv, rv⟩ := ra.get e1
    refine ⟨⟨xs, v, qa, hv⟩, fun x H2 y => ?_⟩
    obtain ⟨T, x1, rfl, hT, rfl, f1⟩ := y
    have g1 := f1 xs qa
    rw [hv] at g1
    cases g1
    exact new_pair hS hT (.int _) rv
  · rw [List.length_map, List.length_zipIdx] at hl
    rw [ra.length]
    exact hl
end

section
variable {PR : Prg} {k : Nat} {X : Cx} {C : Cxt}

theorem PI.of {tg e : Expr} {t : TI} (i : ∀ σ H R, t σ H R → ∃ u : TI, PI X tg e u ∧ u σ H R) : PI X tg e t := ⟨fun pins s σ H R I q => let ⟨_, h, q2⟩ := i σ H R q; h.run pins s σ H R I q2⟩

/-- over a value -/
theorem sound_iterVal (c : Ctx PR k X C) (tg : Expr) {e : Expr} {m : Ev2.Env → M D} (hE : PE X e (rdE X.K m)) : PI X tg e (rdI X.K fun ρ => iterVal (m ρ)) := by
  refine PI.of fun σ H R h => ?_
  obtain ⟨F, mu, ρ, S, src, S1, hr, hS, e1, q⟩ := h
  obtain ⟨d, S2, e2, e3⟩ := bnd_ok (show M.bnd (m ρ) srcOf S = .ok src S1 from e1)
  cases d <;> first | (exfalso; cases e3; done) | skip
  case tup ds =>
    obtain ⟨rfl, rfl⟩ := pu_ok e3
    refine ⟨_, pi_tup hE, F, mu, ρ, S, _, _, hr, hS, e2, fun v F1 mu1 H1 st hS1 hv => ?_⟩
    cases hv with
    | tup h1 h2 => exact ⟨_, rfl, ⟨_, sqT_mono hS1.sub h1⟩, q _ F1 mu1 H1 st hS1 (yields_tup h1 h2)⟩
  case lst ds =>
    obtain ⟨rfl, rfl⟩ := pu_ok e3
    refine ⟨_, pi_list hE, F, mu, ρ, S, _, _, hr, hS, e2, fun v F1 mu1 H1 st hS1 hv => ?_⟩
    cases hv with
    | lst h1 h2 => exact ⟨_, rfl, ⟨_, .inl (.inl (hS1.sub _ _ h1))⟩, q _ F1 mu1 H1 st hS1 (yields_list (.inl (.inl h1)) h2)⟩
  case rol ds =>
    obtain ⟨rfl, rfl⟩ := pu_ok e3
    refine ⟨_, pi_list hE, F, mu, ρ, S, _, _, hr, hS, e2, fun v F1 mu1 H1 st hS1 hv => ?_⟩
    cases hv with
    | rol h1 h2 => exact ⟨_, rfl, ⟨_, sqL_mono hS1.sub h1⟩, q _ F1 mu1 H1 st hS1 (yields_list h1 h2)⟩
  case ref j =>
    have e4 : (match lstAt S2 j with | some _ => Ev2.R.ok (Src.lref j) S2 | none => Ev2.R.bad) = Ev2.R.ok src S1 := e3
    cases w : lstAt S2 j with
    | none => rw [w] at e4; cases e4
    | some ds =>
      rw [w] at e4
      injection e4 with e5 e6
      subst e5 e6
      refine ⟨_, pi_list hE, F, mu, ρ, S, _, _, hr, hS, e2, fun v F1 mu1 H1 st hS1 hv => ?_⟩
      cases hv with
      | ref h1 =>
        rename_i a
        obtain ⟨xs, h3, h4⟩ := hS1.lst h1 w
        exact ⟨a, rfl, ⟨xs, .inl (.inl h3)⟩, q _ F1 mu1 H1 st hS1 (yields_ref h1)⟩

theorem backTo_any {es : List Expr} {env : PySem.Env} {pos : Pos} (h : noStars es = true) : (backTo pos (starEach es env)).any (·.1) = false := by
  induction es with
  | nil => rfl
  | cons e es ih =>
    unfold noStars at h ih
    rw [List.any_cons, Bool.not_eq_true', Bool.or_eq_false_iff] at h
    rw [star_plain h.1]
    show ((false || ((backTo pos (starEach es env)).any (·.1))) = false)
    rw [ih (by rw [h.2]; rfl)]
    rfl

theorem sound_iter (c : Ctx PR k X C) (cl : Str → Option (List D → List (Str × D) → M D)) (r : Rec) (hE : ∀ e, PE X e (rdE X.K (r.E C e))) (tg e : Expr) : PI X tg e (rdI X.K fun ρ => evIter (PR.gx k cl) r C ρ tg e) := by
  have plain : (∀ ρ, evIter (PR.gx k cl) r C ρ tg e = iterVal (r.E C e ρ)) → PI X tg e (rdI X.K fun ρ => evIter (PR.gx k cl) r C ρ tg e) := by
    intro hh
    have : (fun ρ => evIter (PR.gx k cl) r C ρ tg e) = fun ρ => iterVal (r.E C e ρ) := funext hh
    rw [this]
    exact sound_iterVal c tg (hE e)
  cases e <;> first | exact plain fun _ => rfl | skip
  rename_i f as ks pos
  cases f <;> first | exact plain fun _ => rfl | skip
  rename_i f p
  cases ks <;> first | exact plain fun _ => rfl | skip
  by_cases hrng : f = "range" ∧ isGl C.sc f ∧ (PR.gx k cl).blt f
  · obtain ⟨hf, hg, hb⟩ := id hrng
    refine PI.of fun σ H R h => ?_
    obtain ⟨F, mu, ρ, S, src, S1, hr, hS, e1, q⟩ := h
    have e1 : (if f = "range" ∧ isGl C.sc f ∧ (PR.gx k cl).blt f then evRange r C ρ as else if f = "zip" ∧ isGl C.sc f ∧ (PR.gx k cl).blt f then evZip r C ρ tg as else if f = "enumerate" ∧ isGl C.sc f ∧ (PR.gx k cl).blt f then evEnum r C ρ tg as else iterVal (r.E C (.Call (.Name f p) as [] pos) ρ)) S = .ok src S1 := e1
    rw [if_pos hrng] at e1
    rcases as with _ | ⟨a, _ | ⟨b, as⟩⟩
    · exact (no_bad (S := S) e1).elim
    · have e1 : (if isStar a then M.bad else M.bnd (r.E C a ρ) rangeSrc) S = .ok src S1 := e1
      split at e1
      · exact (no_bad e1).elim
      next hs =>
        have hs' : isStar a = false := by simpa using hs
        obtain ⟨d, S2, e2, e3⟩ := bnd_ok e1
        cases d <;> first | (exfalso; cases e3; done) | skip
        rename_i n
        have e3 : (if n < 2 ^ 62 ∧ -(2 ^ 62) ≤ n then M.pu (Src.vals ((List.range n.toNat).map fun (k : Nat) => D.int (k : Int))) else M.bad) S2 = .ok src S1 := e3
        split at e3
        next hn =>
          obtain ⟨rfl, rfl⟩ := pu_ok e3
          subst hf
          refine ⟨_, pi_range1 (gl_of c hg) (c.wld.blt _ hb) (pa_cons (hE a) pa_nil (star_plain hs')) (star_plain hs'), ?_⟩
          refine ⟨F, mu, ρ, S, _, _, hr, hS, e2, fun v F1 mu1 H1 st hS1 hv => ?_⟩
          cases hv
          exact ⟨n, rfl, hn.2, hn.1, q _ F1 mu1 H1 st hS1 (yields_range _)⟩
        next => exact (no_bad e3).elim
    · exact (no_bad (S := S) e1).elim
  · by_cases hzip : f = "zip" ∧ isGl C.sc f ∧ (PR.gx k cl).blt f
    · obtain ⟨hf, hg, hb⟩ := id hzip
      refine PI.of fun σ H R h => ?_
      obtain ⟨F, mu, ρ, S, src, S1, hr, hS, e1, q⟩ := h
      have e1 : (if f = "range" ∧ isGl C.sc f ∧ (PR.gx k cl).blt f then evRange r C ρ as else if f = "zip" ∧ isGl C.sc f ∧ (PR.gx k cl).blt f then evZip r C ρ tg as else if f = "enumerate" ∧ isGl C.sc f ∧ (PR.gx k cl).blt f then evEnum r C ρ tg as else iterVal (r.E C (.Call (.Name f p) as [] pos) ρ)) S = .ok src S1 := e1
      rw [if_neg hrng, if_pos hzip] at e1
      rcases as with _ | ⟨a, _ | ⟨b, _ | ⟨b', as⟩⟩⟩
      · exact (no_bad (S := S) e1).elim
      · exact (no_bad (S := S) e1).elim
      · have e9 : (if isStar a || isStar b || !isTupE tg then M.bad else M.bnd (r.E C a ρ) fun x => M.bnd (r.E C b ρ) fun y => zipSrc x y) S = .ok src S1 := e1
        split at e9
        · exact (no_bad e9).elim
        next hs =>
          simp only [Bool.or_eq_true, not_or, Bool.not_eq_true] at hs
          obtain ⟨⟨hs1, hs2⟩, hs3⟩ := hs
          cases tg <;> first | (exfalso; simp [isTupE] at hs3; done) | skip
          rename_i elts kk tpos
          subst hf
          obtain ⟨x0, S20, ea, eb⟩ := bnd_ok e9
          obtain ⟨y0, S30, ec, ed⟩ := bnd_ok eb
          by_cases hmix : ∃ xs ys, x0 = .lst xs ∧ y0 = .tup ys
          · obtain ⟨xs0, ys0, rfl, rfl⟩ := hmix
            refine ⟨_, ZM.pi_zipM (gl_of c hg) (c.wld.blt _ hb) (pa_cons (hE a) (pa_cons (hE b) pa_nil (star_plain hs2)) (star_plain hs1)) (star_plain hs1) (backTo_any (by simp [noStars, hs2])), ?_⟩
            refine ⟨F, mu, ρ, S, _, _, hr, hS, ea, fun v F1 mu1 H1 st hS1 hv => ?_⟩
            refine ⟨F1, mu1, ρ, S20, _, _, hr.later st, hS1, ec, fun u F2 mu2 H2 st2 hS2 hu => ?_⟩
            have hv2 := st2.rp hv
            obtain ⟨rfl, rfl⟩ := pu_ok (show M.pu (Src.vals (List.zipWith (fun p q => D.tup [p, q]) xs0 ys0)) S30 = _ from ed)
            cases hv2 with
            | lst h1 h2 =>
              cases hu with
              | tup h3 h4 => exact ⟨_, _, _, _, rfl, .inl (.inl (hS2.sub _ _ h1)), sqT_mono hS2.sub h3, q _ F2 mu2 H2 (st.trans st2) hS2 (yields_zipM h1 h2 h3 h4)⟩
          refine ⟨_, RZ.pi_zipA (gl_of c hg) (c.wld.blt _ hb) (pa_cons (hE a) (pa_cons (hE b) pa_nil (star_plain hs2)) (star_plain hs1)) (star_plain hs1) (backTo_any (by simp [noStars, hs2])), ?_⟩
          refine ⟨F, mu, ρ, S, _, _, hr, hS, ea, fun v F1 mu1 H1 st hS1 hv => ?_⟩
          refine ⟨F1, mu1, ρ, S20, _, _, hr.later st, hS1, ec, fun u F2 mu2 H2 st2 hS2 hu => ?_⟩
          have e3 := ed
          have hv2 := st2.rp hv
          cases hv2 <;> cases hu <;> first | (exfalso; cases e3; done) | (exfalso; exact hmix ⟨_, _, rfl, rfl⟩) | skip
          · rename_i a1 xs ds h1 h2 a2 ys es h3 h4
            obtain ⟨rfl, rfl⟩ := pu_ok e3
            exact ⟨a1, a2, xs, ys, rfl, .inr ⟨sqT_mono hS2.sub h1, sqT_mono hS2.sub h3, q _ F2 mu2 H2 (st.trans st2) hS2 (yields_zipT h1 h2 h3 h4)⟩⟩
          · rename_i a1 xs ds h1 h2 a2 ys es h3 h4
            obtain ⟨rfl, rfl⟩ := pu_ok e3
            exact ⟨a1, a2, xs, ys, rfl, .inl ⟨.inl (.inl (hS2.sub _ _ h1)), .inl (.inl (hS2.sub _ _ h3)), q _ F2 mu2 H2 (st.trans st2) hS2 (yields_zipL h1 h2 h3 h4)⟩⟩
      · exact (no_bad (S := S) e1).elim
    · by_cases henum : f = "enumerate" ∧ isGl C.sc f ∧ (PR.gx k cl).blt f
      · obtain ⟨hf, hg, hb⟩ := id henum
        refine PI.of fun σ H R h => ?_
        obtain ⟨F, mu, ρ, S, src, S1, hr, hS, e1, q⟩ := h
        have e1 : (if f = "range" ∧ isGl C.sc f ∧ (PR.gx k cl).blt f then evRange r C ρ as else if f = "zip" ∧ isGl C.sc f ∧ (PR.gx k cl).blt f then evZip r C ρ tg as else if f = "enumerate" ∧ isGl C.sc f ∧ (PR.gx k cl).blt f then evEnum r C ρ tg as else iterVal (r.E C (.Call (.Name f p) as [] pos) ρ)) S = .ok src S1 := e1
        rw [if_neg hrng, if_neg hzip, if_pos henum] at e1
        rcases as with _ | ⟨a, _ | ⟨b, as⟩⟩
        · exact (no_bad (S := S) e1).elim
        · have e9 : (if isStar a || !isTupE tg then M.bad else M.bnd (r.E C a ρ) enumSrc) S = .ok src S1 := e1
          split at e9
          · exact (no_bad e9).elim
          next hs =>
            simp only [Bool.or_eq_true, not_or, Bool.not_eq_true] at hs
            obtain ⟨hs1, hs3⟩ := hs
            cases tg <;> first | (exfalso; simp [isTupE] at hs3; done) | skip
            rename_i elts kk tpos
            subst hf
            obtain ⟨d, S2, e2, e3⟩ := bnd_ok e9
            have hpa := pa_cons (hE a) pa_nil (star_plain hs1)
            have hst : starEach [a] X.env = [(false, eval a X.env)] := star_plain hs1
            cases d <;> first | (exfalso; cases e3; done) | skip
            · obtain ⟨rfl, rfl⟩ := pu_ok e3
              refine ⟨_, pi_enumT (gl_of c hg) (c.wld.blt _ hb) hpa hst, ?_⟩
              refine ⟨F, mu, ρ, S, _, _, hr, hS, e2, fun v F1 mu1 H1 st hS1 hv => ?_⟩
              cases hv with
              | tup h1 h2 => exact ⟨_, _, rfl, sqT_mono hS1.sub h1, q _ F1 mu1 H1 st hS1 (yields_enumT h1 h2)⟩
            · obtain ⟨rfl, rfl⟩ := pu_ok e3
              refine ⟨_, pi_enum (gl_of c hg) (c.wld.blt _ hb) hpa hst, ?_⟩
              refine ⟨F, mu, ρ, S, _, _, hr, hS, e2, fun v F1 mu1 H1 st hS1 hv => ?_⟩
              cases hv with
              | lst h1 h2 => exact ⟨_, _, rfl, .inl (.inl (hS1.sub _ _ h1)), q _ F1 mu1 H1 st hS1 (yields_enumL h1 h2)⟩
        · exact (no_bad (S := S) e1).elim
      · refine plain fun ρ => ?_
        show (if f = "range" ∧ isGl C.sc f ∧ (PR.gx k cl).blt f then evRange r C ρ as else if f = "zip" ∧ isGl C.sc f ∧ (PR.gx k cl).blt f then evZip r C ρ tg as else if f = "enumerate" ∧ isGl C.sc f ∧ (PR.gx k cl).blt f then evEnum r C ρ tg as else iterVal (r.E C (.Call (.Name f p) as [] pos) ρ)) = _
        rw [if_neg hrng, if_neg hzip, if_neg henum]
end

/-! ### runs of loops -/
/-- what is left of a loop at turn i: Rem; its end: fb, fS -/
structure Run {β : Type} (f : D → β → M β) (src : Src) (fb : β) (fS : Store) (Rem : Nat → Nat → β → Store → Prop) : Prop where
  step : ∀ i m b S, Rem i m b S → ∃ ds, itemsOf S src = some ds ∧ ((∃ d b1 S1 m1, ds[i]? = some d ∧ f d b S = .ok b1 S1 ∧ m1 < m ∧ Rem (i + 1) m1 b1 S1) ∨ (ds.length ≤ i ∧ b = fb ∧ S = fS))
  idle : ∀ i m b S, Rem i m b S → (∀ d, f d b S = .ok b S) → fb = b ∧ fS = S

theorem goVals_idle {β : Type} {f : D → β → M β} {b : β} {S : Store} (h : ∀ d, f d b S = .ok b S) : ∀ ds : List D, goVals f ds b S = .ok b S
  | [] => rfl
  | d :: ds => by
    unfold goVals M.bnd
    rw [h d]
    exact goVals_idle h ds
theorem goRef_idle {β : Type} {f : D → β → M β} {b fb : β} {S fS : Store} {j : Nat} (h : ∀ d, f d b S = .ok b S) : ∀ (n i : Nat), goRef f j n i b S = .ok fb fS → fb = b ∧ fS = S
  | 0, _, e => (no_bad (S := S) e).elim
  | n + 1, i, e => by
    have e' : (match lstAt S j with | some xs => (match xs[i]? with | some d => M.bnd (f d b) (fun b1 => goRef f j n (i + 1) b1) S | none => .ok b S) | none => .bad) = R.ok fb fS := e
    cases q : lstAt S j with
    | none => rw [q] at e'; cases e'
    | some xs =>
      rw [q] at e'
      simp only at e'
      cases q2 : xs[i]? with
      | none => rw [q2] at e'; cases e'; exact ⟨rfl, rfl⟩
      | some d =>
        rw [q2] at e'
        simp only [M.bnd] at e'
        rw [h d] at e'
        exact goRef_idle h n (i + 1) e'

theorem run_of {β : Type} {f : D → β → M β} {src : Src} {b fb : β} {S fS : Store} (e : goSrc f src b S = .ok fb fS) : ∃ Rem m, Run f src fb fS Rem ∧ Rem 0 m b S := by
  cases src with
  | vals ds =>
    refine ⟨fun i m b S => m = ds.length - i ∧ goVals f (ds.drop i) b S = .ok fb fS, ds.length, ⟨fun i m b S h => ?_, fun i m b S h hi => ?_⟩, rfl, by rw [List.drop_zero]; exact e⟩
    · obtain ⟨hm, h⟩ := h
      refine ⟨ds, rfl, ?_⟩
      by_cases hi : i < ds.length
      · left
        rw [List.drop_eq_getElem_cons hi] at h
        obtain ⟨b1, S1, e1, e2⟩ := bnd_ok (show M.bnd (f ds[i] b) (fun b1 => goVals f (ds.drop (i + 1)) b1) S = .ok fb fS from h)
        exact ⟨ds[i], b1, S1, ds.length - (i + 1), List.getElem?_eq_getElem hi, e1, by omega, rfl, e2⟩
      · right
        rw [List.drop_eq_nil_of_le (by omega)] at h
        obtain ⟨rfl, rfl⟩ := pu_ok (show M.pu b S = .ok fb fS from h)
        exact ⟨by omega, rfl, rfl⟩
    · have := h.2
      rw [goVals_idle hi] at this
      cases this
      exact ⟨rfl, rfl⟩
  | lref j =>
    have e' : (match lstAt S j with | some xs => goRef f j (xs.length + 1) 0 b S | none => .bad) = R.ok fb fS := e
    cases q : lstAt S j with
    | none => rw [q] at e'; cases e'
    | some xs =>
      rw [q] at e'
      refine ⟨fun i m b S => goRef f j m i b S = .ok fb fS, xs.length + 1, ⟨fun i m b S h => ?_, fun i m b S h hi => goRef_idle hi m i h⟩, e'⟩
      cases m with
      | zero => exact (no_bad (S := S) h).elim
      | succ n =>
        have h' : (match lstAt S j with | some xs => (match xs[i]? with | some d => M.bnd (f d b) (fun b1 => goRef f j n (i + 1) b1) S | none => .ok b S) | none => .bad) = R.ok fb fS := h
        cases q : lstAt S j with
        | none => rw [q] at h'; cases h'
        | some ys =>
          rw [q] at h'
          simp only at h'
          refine ⟨ys, q, ?_⟩
          cases q2 : ys[i]? with
          | none =>
            rw [q2] at h'
            cases h'
            exact .inr ⟨List.getElem?_eq_none_iff.mp q2, rfl, rfl⟩
          | some d =>
            rw [q2] at h'
            obtain ⟨b1, S1, e1, e2⟩ := bnd_ok h'
            exact .inl ⟨d, b1, S1, n, rfl, e1, Nat.lt_succ_self n, e2⟩

/-! ### an object beside: tracked, neither frozen nor in the store -/
section
variable {K : PySem.W.Frag} {F H F0 H0 : Hp} {mu mu0 : List Addr} {S : Store}
theorem Sr.beside (r : Sr K F mu S H) {p : Addr} {o : HO} (h1 : F p = none) (h2 : p ∉ mu) : Sr K F mu S (upd H p o) := by
  refine ⟨fun a u e => by rw [upd_ne (ne_of_none e h1)]; exact r.sub a u e, r.len, r.nd, r.nf, fun i a so e1 e2 => ?_⟩
  have ma : a ∈ mu := List.mem_of_getElem? e1
  exact (r.obj i a so e1 e2).mono (Same.refl F) ⟨[], by simp⟩ (upd_ne fun q => h2 (q ▸ ma))
theorem Stp.beside (s : Stp F0 mu0 H0 F mu H) {p : Addr} {o : HO} (h : H0 p = none) : Stp F0 mu0 H0 F mu (upd H p o) := by
  refine ⟨s.fz, s.pl, fun a u e n => by rw [upd_ne (ne_of_none e h)]; exact s.keep a u e n, fun a e => ?_, s.newF, s.newM⟩
  by_cases q : a = p
  · subst q; exact absurd h e
  · rw [upd_ne q]; exact s.there a e
/-- such a list becomes a value -/
theorem Sr.adopt (r : Sr K F mu S H) (s : Stp F0 mu0 H0 F mu H) {p : Addr} {xs : List V} {ds : List D} (h0 : H0 p = none) (hp : H p = some (.lst xs)) (h1 : F p = none) (h2 : p ∉ mu) (hr : Rps K F mu xs ds) {m : Bool} {d : D} {S1 : Store} (e : mkL m ds S = .ok d S1) :
    ∃ F1 mu1, Stp F0 mu0 H0 F1 mu1 H ∧ Sr K F1 mu1 S1 H ∧ Rp K F1 mu1 (.ref p) d := by
  unfold mkL at e
  split at e
  · cases m with
    | true =>
      simp only [if_true] at e
      injection e with e1 e2
      subst e1 e2
      refine ⟨F, mu ++ [p], ⟨s.fz, ?_, s.keep, s.there, s.newF, fun a ma na => ?_⟩, ⟨r.sub, by simp [r.len], ?_, fun a ma => ?_, fun i a so q1 q2 => ?_⟩, .ref ?_⟩
      · obtain ⟨nu, e⟩ := s.pl
        exact ⟨nu ++ [p], by rw [e, List.append_assoc]⟩
      · rcases List.mem_append.mp ma with ma | ma
        · exact s.newM a ma na
        · simp at ma; subst ma; exact h0
      · rw [List.nodup_append]
        exact ⟨r.nd, by simp, fun a ma b mb q => by simp at mb; subst mb; subst q; exact h2 ma⟩
      · rcases List.mem_append.mp ma with ma | ma
        · exact r.nf a ma
        · simp at ma; subst ma; exact h1
      · by_cases hi : i < mu.length
        · rw [List.getElem?_append_left hi] at q1
          rw [List.getElem?_append_left (by rw [← r.len]; exact hi)] at q2
          exact (r.obj i a so q1 q2).mono (Same.refl F) ⟨[p], rfl⟩ rfl
        · rw [List.getElem?_append_right (by omega)] at q1
          rw [List.getElem?_append_right (by rw [← r.len]; omega), ← r.len] at q2
          cases q : i - mu.length with
          | zero =>
            rw [q] at q1 q2
            simp at q1 q2
            subst q1; subst q2
            exact ⟨xs, hp, Rps.mono (Same.refl F) ⟨[p], rfl⟩ ds xs hr⟩
          | succ n => rw [q] at q1; simp at q1
      · rw [← r.len, List.getElem?_append_right (Nat.le_refl _)]
        simp
    | false =>
      simp only [Bool.false_eq_true, if_false] at e
      injection e with e1 e2
      subst e1 e2
      have sF : Same F (upd F p (.lst xs)) := fun a u e => by rw [upd_ne (ne_of_none e h1)]; exact e
      refine ⟨upd F p (.lst xs), mu, ⟨s.fz.trans sF, s.pl, s.keep, s.there, fun a e1 e2 => ?_, s.newM⟩, ⟨fun a u e => ?_, r.len, r.nd, fun a ma => ?_, fun i a so q1 q2 => ?_⟩, .lst upd_same (Rps.mono sF ⟨[], by simp⟩ ds xs hr)⟩
      · by_cases q : a = p
        · subst q; exact absurd h0 e2
        · rw [upd_ne q]; exact s.newF a e1 e2
      · by_cases q : a = p
        · subst q; rw [upd_same] at e; cases e; exact hp
        · rw [upd_ne q] at e; exact r.sub a u e
      · rw [upd_ne (show a ≠ p from fun q => h2 (q ▸ ma))]; exact r.nf a ma
      · exact (r.obj i a so q1 q2).mono sF ⟨[], by simp⟩ rfl
  · cases e
end

/-! ### comprehensions -/
theorem wipeE_len (ρ : Ev2.Env) : ∀ vs : List Nat, (wipeE ρ vs).length = ρ.length
  | [] => rfl
  | v :: vs => by unfold wipeE; rw [List.length_set, wipeE_len ρ vs]
theorem Er.wipe {K : PySem.W.Frag} {F : Hp} {mu : List Addr} {σ : L2.St} {ρ : Ev2.Env} (h : Er K F mu σ ρ) : ∀ vs : List Nat, Er K F mu (L2.wipe σ vs) (wipeE ρ vs)
  | [] => h
  | v :: vs => by
    have ih := Er.wipe h vs
    unfold L2.wipe wipeE
    refine ⟨by rw [List.length_set, List.length_set]; exact ih.len, fun i d e => ?_⟩
    by_cases q : v = i
    · subst q
      have hv : v < (wipeE ρ vs).length := by
        have := (List.getElem?_eq_some_iff.mp e).1
        rw [List.length_set] at this
        exact this
      rw [List.getElem?_set_self hv] at e
      cases e
    · rw [List.getElem?_set_ne q] at e ⊢
      exact ih.at_ i d e
theorem wipe_in {σ : L2.St} {i : Nat} : ∀ {vs : List Nat}, i ∈ vs → i < σ.length → (L2.wipe σ vs)[i]? = some none
  | [], h, _ => by cases h
  | v :: vs, h, hl => by
    unfold L2.wipe
    by_cases q : v = i
    · subst q
      rw [List.getElem?_set_self (by rw [L2.wipe_length]; exact hl)]
    · rw [List.getElem?_set_ne q]
      exact wipe_in (by cases h <;> first | contradiction | assumption) hl
theorem wipe_same {l vs : List Nat} {σ σ1 : L2.St} (h : SameOut l (L2.wipe σ vs) σ1) (hl : ∀ i ∈ l, i ∈ vs) : L2.wipe σ1 vs = L2.wipe σ vs := by
  have len1 : σ1.length = σ.length := by rw [h.1, L2.wipe_length]
  refine List.ext_getElem? fun i => ?_
  by_cases hi : i ∈ vs
  · by_cases hb : i < σ.length
    · rw [wipe_in hi (by omega), wipe_in hi hb]
    · rw [List.getElem?_eq_none (by rw [L2.wipe_length]; omega), List.getElem?_eq_none (by rw [L2.wipe_length]; omega)]
  · rw [L2.wipe_out hi, h.2 i fun m => hi (hl i m)]

section
variable {PR : Prg} {k : Nat} {X : Cx} {C : Cxt}

theorem Ctx.blk (c : Ctx PR k X C) (scope : Scope) (s : Shared) (H : Hp) (Cd : Addr) (cl : List (Str × Addr)) (fp : List Addr) : Ctx PR k (X.blk s H scope (compEnvC scope cl Cd X.env) fp) (C.blk scope) where
  wld := c.wld
  fns := c.fns
  N := c.N
  sc := by
    show relS scope X.env.scope = relS scope C.sc
    rw [c.sc]
  nd := c.nd
  calm := c.calm
  fn := fun x h => h
  gd := c.gd
  room := c.room
  xe := rfl

theorem sound_tests (r : Rec) (hT : ∀ e, PT X e (rdT X.K (r.T C e))) : ∀ ifs : List Expr, PTs X ifs (rdT X.K fun ρ => evTests r C ρ ifs)
  | [] => ⟨fun pins s σ H Q I h => by
    obtain ⟨F, mu, ρ, S, d, S1, hr, hS, e, q⟩ := h
    obtain ⟨rfl, rfl⟩ := pu_ok (show M.pu true S = _ from e)
    exact (pts_nil (X := X)).run pins s σ H Q I (q true F mu H Stp.refl hS rfl)⟩
  | [e] => pts_one (hT e)
  | _ :: _ :: _ => ⟨fun pins s σ H Q I h => by
    obtain ⟨F, mu, ρ, S, d, S1, hr, hS, e, q⟩ := h
    exact (no_bad (S := S) e).elim⟩

/-- the reading of a comprehension from the evaluator's run of it -/
theorem comp_reading (c : Ctx PR k X C) (cl : Str → Option (List D → List (Str × D) → M D)) (r : Rec) {elt tg iter : Expr} {ifs : List Expr} {scope : Scope} {pos : Pos} {σ : L2.St} {H : Hp} {Q : VK} {F : Hp} {mu : List Addr} {ρ : Ev2.Env} {S S1 : Store} {d : D}
    (hr : Er X.K F mu σ ρ) (hS : Sr X.K F mu S H) (e : evComp (PR.gx k cl) r C elt tg iter ifs scope pos ρ S = .ok d S1) (q : ∀ v F1 mu1 H1, Stp F mu H F1 mu1 H1 → Sr X.K F1 mu1 S1 H1 → Rp X.K F1 mu1 v d → Q v H1) :
    (BlkOk X.N X.env.scope scope (ownOf C.N scope.names) ∧ isSetE iter = false) ∧
    tLc (rdI X.K fun ρ => evIter (PR.gx k cl) r C ρ tg iter) (rdG X.K (C.blk scope) tg) (rdT X.K fun ρ => evTests r (C.blk scope) ρ ifs) (rdE X.K (r.E (C.blk scope) elt)) ((ownOf C.N scope.names).map (·.2)) σ H Q := by
  unfold evComp at e
  split at e
  next hc =>
    simp only [Bool.and_eq_true, Bool.not_eq_true'] at hc
    obtain ⟨⟨hc1, hc2⟩, hc3⟩ := hc
    refine ⟨⟨blkOk_by (by rw [c.N, c.sc]; exact hc1), hc2⟩, ?_⟩
    have hsl : ∀ i ∈ slotsT C.N tg, i ∈ (ownOf C.N scope.names).map (·.2) := fun i hi => by
      have := List.all_eq_true.mp hc3 i hi
      simpa using this
    obtain ⟨src, S2, e1, e2⟩ := bnd_ok e
    obtain ⟨xs, S3, e3, e4⟩ := bnd_ok e2
    refine ⟨F, mu, ρ, S, src, S2, hr, hS, e1, fun J F1 mu1 H1 st hS1 hy Dd hD => ?_⟩
    obtain ⟨Rem, m0, run, hrem⟩ := run_of e3
    have hD0 : H Dd = none := by
      cases w : H Dd with
      | none => rfl
      | some o => exact absurd hD (st.there Dd (by rw [w]; simp))
    have fD : F1 Dd = none := by
      cases w : F1 Dd with
      | none => rfl
      | some o => rw [hS1.sub _ _ w] at hD; cases hD
    have mD : Dd ∉ mu1 := fun m => hS1.mem_some m hD
    refine ⟨fun i m H' => ∃ F' mu' S' acc accv, Stp F1 mu1 H1 F' mu' H' ∧ Sr X.K F' mu' S' H' ∧ H' Dd = some (.lst accv) ∧ Dd ∉ mu' ∧ F' Dd = none ∧ Rps X.K F' mu' accv acc ∧ Rem i m acc S', ⟨m0, ?_⟩, ?_⟩
    · exact ⟨F1, mu1, S2, [], [], Stp.refl.beside hD, hS1.beside fD mD, upd_same, mD, fD, .nil, hrem⟩
    · rintro i m H' ⟨F', mu', S', acc, accv, st', hS', hD', mD', fD', hrs, hrem'⟩
      obtain ⟨ds, hds, hcase⟩ := run.step i m acc S' hrem'
      obtain ⟨hgo, hstop⟩ := hy F' mu' S' H' st'.grw hS' ds hds i
      rcases hcase with ⟨x, acc1, S4, m1, hx, ef, hm, hrem1⟩ | ⟨hl, rfl, rfl⟩
      · right
        obtain ⟨g1, g2⟩ := hgo x hx
        refine ⟨g1, fun H2 => ∃ m1, m1 < m ∧ ∃ F' mu' S' acc accv, Stp F1 mu1 H1 F' mu' H2 ∧ Sr X.K F' mu' S' H2 ∧ H2 Dd = some (.lst accv) ∧ Dd ∉ mu' ∧ F' Dd = none ∧ Rps X.K F' mu' accv acc ∧ Rem (i + 1) m1 acc S', fun H2 h2 => h2, fun v H2 hyl => ?_⟩
        obtain ⟨F2, st2, hS2, hv⟩ := g2 v H2 hyl
        -- the object Dd is where it was
        have carry : ∀ {Fa Fb Ha Hb : Hp} {ma mb : List Addr} {Sb : Store} {av : List V}, Stp Fa ma Ha Fb mb Hb → Ha Dd = some (.lst av) → Dd ∉ ma → Fa Dd = none → Hb Dd = some (.lst av) ∧ Dd ∉ mb ∧ Fb Dd = none := by
          intro Fa Fb Ha Hb ma mb Sb av s h1 h2 h3
          refine ⟨s.keep _ _ h1 h2, fun m => ?_, s.newF _ h3 (by rw [h1]; simp)⟩
          have := s.newM _ m h2
          rw [h1] at this
          cases this
        obtain ⟨cD, cm, cf⟩ := carry (Sb := S') st2 hD' mD' fD'
        unfold compB at ef
        cases q1 : setTgt (C.blk scope) tg x (wipeE ρ ((ownOf C.N scope.names).map (·.2))) with
        | none => rw [q1] at ef; exact (no_bad ef).elim
        | some ρ1 =>
          rw [q1] at ef
          refine ⟨F2, mu', x, _, ρ1, hS2.sub, (((hr.later st).later st').later st2).wipe _, hv, q1, fun σ1 hr1 so => ⟨wipe_same so hsl, ?_⟩⟩
          refine Rdg.seq hr1 hS2 ef fun b S5 b' F3 mu3 H3 e5 st3 hS3 hr3 hb => ?_
          obtain ⟨cD3, cm3, cf3⟩ := carry (Sb := S') st3 cD cm cf
          have hrs3 := st3.rps (st2.rps hrs)
          have all3 := (st'.trans st2).trans st3
          subst hb
          cases b' with
          | true =>
            rw [if_pos rfl] at e5
            rw [if_pos rfl]
            refine Rdg.seq hr3 hS3 e5 fun y S6 yv F4 mu4 H4 e6 st4 hS4 hr4 hyv => ?_
            obtain ⟨cD4, cm4, cf4⟩ := carry (Sb := S') st4 cD3 cm3 cf3
            have hrs4 := st4.rps hrs3
            split at e6
            next hz =>
              obtain ⟨rfl, rfl⟩ := pu_ok e6
              have hll := hrs4.length
              refine ⟨accv, cD4, by omega, m1, hm, F4, mu4, _, acc ++ [y], accv ++ [yv], (all3.trans st4).beside hD, hS4.beside cf4 cm4, upd_same, cm4, cf4, hrs4.append (.cons hyv .nil), hrem1⟩
            next => exact (no_bad e6).elim
          | false =>
            rw [if_neg Bool.false_ne_true] at e5
            rw [if_neg Bool.false_ne_true]
            obtain ⟨rfl, rfl⟩ := pu_ok e5
            exact ⟨m1, hm, F3, mu3, _, _, accv, all3, hS3, cD3, cm3, cf3, hrs3, hrem1⟩
      · left
        refine ⟨hstop hl, ?_⟩
        obtain ⟨F2, mu2, st2, hS2, hv⟩ := hS'.adopt (st.trans st') hD0 hD' fD' mD' hrs e4
        exact q _ F2 mu2 H' st2 hS2 hv
  next => exact (no_bad e).elim

/-- the same with two fors -/
theorem comp2_reading (c : Ctx PR k X C) (cl : Str → Option (List D → List (Str × D) → M D)) (r : Rec) {elt tg iter tg1 iter1 : Expr} {ifs ifs1 : List Expr} {scope : Scope} {pos : Pos} {σ : L2.St} {H : Hp} {Q : VK} {F : Hp} {mu : List Addr} {ρ : Ev2.Env} {S S1 : Store} {d : D}
    (hr : Er X.K F mu σ ρ) (hS : Sr X.K F mu S H) (e : evComp2 (PR.gx k cl) r C elt tg iter ifs tg1 iter1 ifs1 scope pos ρ S = .ok d S1) (q : ∀ v F1 mu1 H1, Stp F mu H F1 mu1 H1 → Sr X.K F1 mu1 S1 H1 → Rp X.K F1 mu1 v d → Q v H1) :
    (BlkOk X.N X.env.scope scope (ownOf C.N scope.names) ∧ isSetE iter = false ∧ isSetE iter1 = false ∧ ∀ i ∈ slotsT C.N tg1, i ∈ (ownOf C.N scope.names).map (·.2)) ∧
    tLc2 (rdI X.K fun ρ => evIter (PR.gx k cl) r C ρ tg iter) (rdG X.K (C.blk scope) tg) (rdT X.K fun ρ => evTests r (C.blk scope) ρ ifs) (rdI X.K fun ρ => evIter (PR.gx k cl) r (C.blk scope) ρ tg1 iter1) (rdG X.K (C.blk scope) tg1) (rdT X.K fun ρ => evTests r (C.blk scope) ρ ifs1) (rdE X.K (r.E (C.blk scope) elt)) ((ownOf C.N scope.names).map (·.2)) (slotsT C.N tg1) σ H Q := by
  unfold evComp2 at e
  split at e
  next hc =>
    simp only [Bool.and_eq_true, Bool.not_eq_true'] at hc
    obtain ⟨⟨⟨⟨hc1, hc2⟩, hc2'⟩, hc3⟩, hc4⟩ := hc
    have hsl1 : ∀ i ∈ slotsT C.N tg1, i ∈ (ownOf C.N scope.names).map (·.2) := fun i hi => by
      have := List.all_eq_true.mp hc4 i hi
      simpa using this
    refine ⟨⟨blkOk_by (by rw [c.N, c.sc]; exact hc1), hc2, hc2', hsl1⟩, ?_⟩
    have hsl : ∀ i ∈ slotsT C.N tg, i ∈ (ownOf C.N scope.names).map (·.2) := fun i hi => by
      have := List.all_eq_true.mp hc3 i hi
      simpa using this
    obtain ⟨src, S2, e1, e2⟩ := bnd_ok e
    obtain ⟨xs, S3, e3, e4⟩ := bnd_ok e2
    refine ⟨F, mu, ρ, S, src, S2, hr, hS, e1, fun J F1 mu1 H1 st hS1 hy Dd hD => ?_⟩
    obtain ⟨Rem, m0, run, hrem⟩ := run_of e3
    have hD0 : H Dd = none := by
      cases w : H Dd with
      | none => rfl
      | some o => exact absurd hD (st.there Dd (by rw [w]; simp))
    have fD : F1 Dd = none := by
      cases w : F1 Dd with
      | none => rfl
      | some o => rw [hS1.sub _ _ w] at hD; cases hD
    have mD : Dd ∉ mu1 := fun m => hS1.mem_some m hD
    -- the object Dd is where it was
    have carry : ∀ {Fa Fb Ha Hb : Hp} {ma mb : List Addr} {av : List V}, Stp Fa ma Ha Fb mb Hb → Ha Dd = some (.lst av) → Dd ∉ ma → Fa Dd = none → Hb Dd = some (.lst av) ∧ Dd ∉ mb ∧ Fb Dd = none := by
      intro Fa Fb Ha Hb ma mb av s h1 h2 h3
      refine ⟨s.keep _ _ h1 h2, fun m => ?_, s.newF _ h3 (by rw [h1]; simp)⟩
      have := s.newM _ m h2
      rw [h1] at this
      cases this
    refine ⟨fun i m H' => ∃ F' mu' S' acc accv, Stp F1 mu1 H1 F' mu' H' ∧ Sr X.K F' mu' S' H' ∧ H' Dd = some (.lst accv) ∧ Dd ∉ mu' ∧ F' Dd = none ∧ Rps X.K F' mu' accv acc ∧ Rem i m acc S', ⟨m0, ?_⟩, ?_⟩
    · exact ⟨F1, mu1, S2, [], [], Stp.refl.beside hD, hS1.beside fD mD, upd_same, mD, fD, .nil, hrem⟩
    · rintro i m H' ⟨F', mu', S', acc, accv, st', hS', hD', mD', fD', hrs, hrem'⟩
      obtain ⟨ds, hds, hcase⟩ := run.step i m acc S' hrem'
      obtain ⟨hgo, hstop⟩ := hy F' mu' S' H' st'.grw hS' ds hds i
      rcases hcase with ⟨x, acc1, S4, m1, hx, ef, hm, hrem1⟩ | ⟨hl, rfl, rfl⟩
      · right
        obtain ⟨g1, g2⟩ := hgo x hx
        refine ⟨g1, fun H2 => ∃ m1, m1 < m ∧ ∃ F' mu' S' acc accv, Stp F1 mu1 H1 F' mu' H2 ∧ Sr X.K F' mu' S' H2 ∧ H2 Dd = some (.lst accv) ∧ Dd ∉ mu' ∧ F' Dd = none ∧ Rps X.K F' mu' accv acc ∧ Rem (i + 1) m1 acc S', fun H2 h2 => h2, fun v H2 hyl => ?_⟩
        obtain ⟨F2, st2, hS2, hv⟩ := g2 v H2 hyl
        obtain ⟨cD, cm, cf⟩ := carry st2 hD' mD' fD'
        unfold compB2 at ef
        cases q1 : setTgt (C.blk scope) tg x (wipeE ρ ((ownOf C.N scope.names).map (·.2))) with
        | none => rw [q1] at ef; exact (no_bad ef).elim
        | some ρ1 =>
          rw [q1] at ef
          refine ⟨F2, mu', x, _, ρ1, hS2.sub, (((hr.later st).later st').later st2).wipe _, hv, q1, fun σ1 hr1 so => ⟨wipe_same so hsl, ?_⟩⟩
          refine Rdg.seq hr1 hS2 ef fun b S5 b' F3 mu3 H3 e5 st3 hS3 hr3 hb => ?_
          obtain ⟨cD3, cm3, cf3⟩ := carry st3 cD cm cf
          have hrs3 := st3.rps (st2.rps hrs)
          have all3 := (st'.trans st2).trans st3
          subst hb
          cases b' with
          | true =>
            rw [if_pos rfl] at e5
            rw [if_pos rfl]
            obtain ⟨src1, S6, e6, e7⟩ := bnd_ok e5
            refine ⟨F3, mu3, ρ1, S5, src1, S6, hr3, hS3, e6, fun J1 F4 mu4 H4 st4 hS4 hy1 => ?_⟩
            obtain ⟨cD4, cm4, cf4⟩ := carry st4 cD3 cm3 cf3
            obtain ⟨Rem1, m10, run1, hrem10⟩ := run_of e7
            have all4 := all3.trans st4
            refine ⟨fun j k H5 => ∃ F' mu' S' acc accv, Grw F4 mu4 F' mu' ∧ Stp F1 mu1 H1 F' mu' H5 ∧ Sr X.K F' mu' S' H5 ∧ H5 Dd = some (.lst accv) ∧ Dd ∉ mu' ∧ F' Dd = none ∧ Rps X.K F' mu' accv acc ∧ Er X.K F' mu' σ1 ρ1 ∧ Rem1 j k acc S', ⟨m10, ?_⟩, ?_⟩
            · exact ⟨F4, mu4, S6, acc, accv, ⟨Same.refl F4, [], by simp⟩, all4, hS4, cD4, cm4, cf4, st4.rps hrs3, hr3.later st4, hrem10⟩
            · rintro j kk H5 ⟨F5, mu5, S7, acc5, accv5, st5, all5, hS5, cD5, cm5, cf5, hrs5, hr5, hrem5⟩
              obtain ⟨ds1, hds1, hcase1⟩ := run1.step j kk acc5 S7 hrem5
              obtain ⟨hgo1, hstop1⟩ := hy1 F5 mu5 S7 H5 st5 hS5 ds1 hds1 j
              rcases hcase1 with ⟨x1, acc6, S8, m11, hx1, ef1, hm1, hrem6⟩ | ⟨hl1, rfl, rfl⟩
              · right
                obtain ⟨g3, g4⟩ := hgo1 x1 hx1
                refine ⟨g3, fun H6 => ∃ k', k' < kk ∧ ∃ F' mu' S' acc accv, Grw F4 mu4 F' mu' ∧ Stp F1 mu1 H1 F' mu' H6 ∧ Sr X.K F' mu' S' H6 ∧ H6 Dd = some (.lst accv) ∧ Dd ∉ mu' ∧ F' Dd = none ∧ Rps X.K F' mu' accv acc ∧ Er X.K F' mu' σ1 ρ1 ∧ Rem1 (j + 1) k' acc S', fun H6 h6 => h6, fun v1 H6 hyl1 => ?_⟩
                obtain ⟨F6, st6, hS6, hv1⟩ := g4 v1 H6 hyl1
                obtain ⟨cD6, cm6, cf6⟩ := carry st6 cD5 cm5 cf5
                unfold compB1 at ef1
                cases q2 : setTgt (C.blk scope) tg1 x1 (wipeE ρ1 (slotsT C.N tg1)) with
                | none => rw [q2] at ef1; exact (no_bad ef1).elim
                | some ρ2 =>
                  rw [q2] at ef1
                  refine ⟨F6, mu5, x1, _, ρ2, hS6.sub, (hr5.later st6).wipe _, hv1, q2, fun σ2 hr6 so2 => ⟨wipe_same so2 fun i hi => hi, ?_⟩⟩
                  refine Rdg.seq hr6 hS6 ef1 fun b1 S9 b1' F7 mu7 H7 e8 st7 hS7 hr7 hb1 => ?_
                  obtain ⟨cD7, cm7, cf7⟩ := carry st7 cD6 cm6 cf6
                  have hrs7 := st7.rps (st6.rps hrs5)
                  subst hb1
                  cases b1' with
                  | true =>
                    rw [if_pos rfl] at e8
                    rw [if_pos rfl]
                    refine Rdg.seq hr7 hS7 e8 fun y S10 yv F8 mu8 H8 e9 st8 hS8 hr8 hyv => ?_
                    obtain ⟨cD8, cm8, cf8⟩ := carry st8 cD7 cm7 cf7
                    have hrs8 := st8.rps hrs7
                    split at e9
                    next hz =>
                      obtain ⟨rfl, rfl⟩ := pu_ok e9
                      have hll := hrs8.length
                      exact ⟨accv5, cD8, by omega, m11, hm1, F8, mu8, _, acc5 ++ [y], accv5 ++ [yv], ((st5.trans st6.grw).trans st7.grw).trans st8.grw, (((all5.trans st6).trans st7).trans st8).beside hD, hS8.beside cf8 cm8, upd_same, cm8, cf8, hrs8.append (.cons hyv .nil), ((hr5.later st6).later st7).later st8, hrem6⟩
                    next => exact (no_bad e9).elim
                  | false =>
                    rw [if_neg Bool.false_ne_true] at e8
                    rw [if_neg Bool.false_ne_true]
                    obtain ⟨rfl, rfl⟩ := pu_ok e8
                    exact ⟨m11, hm1, F7, mu7, _, _, accv5, (st5.trans st6.grw).trans st7.grw, (all5.trans st6).trans st7, hS7, cD7, cm7, cf7, hrs7, (hr5.later st6).later st7, hrem6⟩
              · left
                exact ⟨hstop1 hl1, m1, hm, F5, mu5, _, _, accv5, all5, hS5, cD5, cm5, cf5, hrs5, hrem1⟩
          | false =>
            rw [if_neg Bool.false_ne_true] at e5
            rw [if_neg Bool.false_ne_true]
            obtain ⟨rfl, rfl⟩ := pu_ok e5
            exact ⟨m1, hm, F3, mu3, _, _, accv, all3, hS3, cD3, cm3, cf3, hrs3, hrem1⟩
      · left
        refine ⟨hstop hl, ?_⟩
        obtain ⟨F2, mu2, st2, hS2, hv⟩ := hS'.adopt (st.trans st') hD0 hD' fD' mD' hrs e4
        exact q _ F2 mu2 H' st2 hS2 hv
  next => exact (no_bad e).elim

theorem foldSet {iter : Expr} {env : PySem.Env} (h : isSetE iter = false) : ∀ x, foldedSetIterable iter env x = pure x := by
  intro x
  cases iter <;> first | rfl | (simp [isSetE] at h; done)

theorem sound_comp (c : Ctx PR k X C) (cl : Str → Option (List D → List (Str × D) → M D)) (r : Rec) (hE : ∀ (X : Cx) (C : Cxt), Ctx PR k X C → ∀ e, PE X e (rdE X.K (r.E C e))) (hT : ∀ (X : Cx) (C : Cxt), Ctx PR k X C → ∀ e, PT X e (rdT X.K (r.T C e)))
    (elt tg iter : Expr) (ifs : List Expr) (scope : Scope) (pos : Pos) : PE X (.ListComp elt [⟨tg, iter, ifs, 0⟩] scope pos) (rdE X.K fun ρ => evComp (PR.gx k cl) r C elt tg iter ifs scope pos ρ) := by
  refine PE.of fun σ H Q h => ?_
  obtain ⟨F, mu, ρ, S, d, S1, hr, hS, e, q⟩ := h
  obtain ⟨⟨hb, hs⟩, rd⟩ := comp_reading c cl r hr hS e q
  exact ⟨_, pe_lc c.calm (by rw [c.N]; exact c.nd) (sound_iter c cl r (hE X C c) tg iter) hb (fun s H Cd cls fp => sound_tgt (c.blk scope s H Cd cls fp) tg)
    (fun s H Cd cls fp => sound_tests r (hT _ _ (c.blk scope s H Cd cls fp)) ifs) (fun s H Cd cls fp => hE _ _ (c.blk scope s H Cd cls fp) elt) (foldSet hs), rd⟩

theorem sound_comp2 (c : Ctx PR k X C) (cl : Str → Option (List D → List (Str × D) → M D)) (r : Rec) (hE : ∀ (X : Cx) (C : Cxt), Ctx PR k X C → ∀ e, PE X e (rdE X.K (r.E C e))) (hT : ∀ (X : Cx) (C : Cxt), Ctx PR k X C → ∀ e, PT X e (rdT X.K (r.T C e)))
    (elt tg iter tg1 iter1 : Expr) (ifs ifs1 : List Expr) (scope : Scope) (pos : Pos) : PE X (.ListComp elt [⟨tg, iter, ifs, 0⟩, ⟨tg1, iter1, ifs1, 0⟩] scope pos) (rdE X.K fun ρ => evComp2 (PR.gx k cl) r C elt tg iter ifs tg1 iter1 ifs1 scope pos ρ) := by
  refine PE.of fun σ H Q h => ?_
  obtain ⟨F, mu, ρ, S, d, S1, hr, hS, e, q⟩ := h
  obtain ⟨⟨hb, hs, hs1, hv⟩, rd⟩ := comp2_reading c cl r hr hS e q
  exact ⟨_, pe_lc2 c.calm (by rw [c.N]; exact c.nd) (sound_iter c cl r (hE X C c) tg iter) hb hv (fun s H Cd cls fp => sound_tgt (c.blk scope s H Cd cls fp) tg)
    (fun s H Cd cls fp => sound_tests r (hT _ _ (c.blk scope s H Cd cls fp)) ifs) (fun s H Cd cls fp => sound_iter (c.blk scope s H Cd cls fp) cl r (hE _ _ (c.blk scope s H Cd cls fp)) tg1 iter1) (fun s H Cd cls fp => sound_tgt (c.blk scope s H Cd cls fp) tg1)
    (fun s H Cd cls fp => sound_tests r (hT _ _ (c.blk scope s H Cd cls fp)) ifs1) (fun s H Cd cls fp => hE _ _ (c.blk scope s H Cd cls fp) elt) (foldSet hs) (fun env => foldSet hs1), rd⟩
end
end Ev2
/-! E7: calls; all expressions. -/
namespace Ev2
open PySem L2 PyProof.Rows

section
variable {PR : Prg} {k : Nat} {X : Cx} {C : Cxt}

/-! ### a call of a def -/
theorem run_g {CX : CXT} {f : Addr} {fd : FuncData} {ps : List Str} {sp : Sp} {E : XK} {pins : List (Addr × Obj)} {σ : L2.St} {H : Hp} {s : Shared} {Q : VK} {us : List Value} {vs : List V} (G : FnG X.prog X.w X.K X.mg X.base CX k f fd ps sp)
    (room : Room k X.A) (gd : X.A.guards = some []) (bd : Binds X.K fd ps []) (ps' : Passes CX X E) (I : L2.Inv X pins σ H s) (r : Vals vs us) (h : sp vs H Q E) : wpAny (model X.prog X.w) X.A (call (.ref f) us) (EP X pins σ Q) X.xe s := by
  have ll : us.length = ps.length := r.length.symm.trans (G.len vs H Q E h)
  have bb := bd s us I.kIn (by rw [List.append_nil]; exact ll)
  rw [List.append_nil] at bb
  refine wpAny_call (codeAny_mono (G.run X.A X.stack s H ⟨us, []⟩ us vs Q E room gd I.env0 bb r h) fun res s2 hq => ?_)
  match res, hq with
  | .error x, hq => exact ps' pins σ H s x s2 I hq
  | .ok (.ret u), hq => exact I.after hq
  | .ok .next, hq => exact hq.elim
  | .ok .brk, hq => exact hq.elim
  | .ok .cont, hq => exact hq.elim

theorem pe_g0 {CX : CXT} {f : Addr} {fd : FuncData} {ps : List Str} {sp : Sp} {E : XK} {x : Str} {p pos : Pos} (G : FnG X.prog X.w X.K X.mg X.base CX k f fd ps sp) (room : Room k X.A) (gd : X.A.guards = some []) (bd : Binds X.K fd ps [])
    (ps' : Passes CX X E) (hg : Gl X x) (hm : X.mg x = some (.ref f)) (hk : PySem.W.keepIn X.K (.ref f) = true) (hd : (x == ("__debug__" : Str)) = false) : PE X (.Call (.Name x p) [] [] pos) (fun σ H Q => sp [] H Q E) := by
  refine ⟨fun pins s σ H Q I h => ?_⟩
  refine wpAny_Call_Name_kw (ld_glob I hg hm ?_ hd)
  exact PySem.W.callWith_K0 I.kIn hk (run_g (us := []) (vs := []) G room gd bd ps' I .nil h)

theorem stars2 {e : Expr} {es : List Expr} (ns : noStars (e :: es) = true) : isStar e = false ∧ noStars es = true := by
  simp only [noStars, List.any_cons, Bool.not_eq_true', Bool.or_eq_false_iff] at ns
  exact ⟨ns.1, by simp [noStars, ns.2]⟩

theorem pe_g {CX : CXT} {f : Addr} {fd : FuncData} {ps : List Str} {sp : Sp} {E : XK} {x : Str} {p pos : Pos} {e : Expr} {es : List Expr} {t : TA} (G : FnG X.prog X.w X.K X.mg X.base CX k f fd ps sp) (room : Room k X.A) (gd : X.A.guards = some []) (bd : Binds X.K fd ps [])
    (ps' : Passes CX X E) (hg : Gl X x) (hm : X.mg x = some (.ref f)) (hk : PySem.W.keepIn X.K (.ref f) = true) (hd : (x == ("__debug__" : Str)) = false) (ns : noStars (e :: es) = true) (ha : PA X (e :: es) t) : PE X (.Call (.Name x p) (e :: es) [] pos) (fun σ H Q => t σ H fun vs H1 => sp vs H1 Q E) := by
  refine ⟨fun pins s σ H Q I h => ?_⟩
  obtain ⟨n1, n2⟩ := stars2 ns
  refine wpAny_Call_Name_kw (ld_glob I hg hm ?_ hd)
  refine PySem.W.callWith_K (h₀ := X.base) I.ok.mod.kin hk (thn (ha.run pos pins s σ H _ I h) fun us s1 ⟨vs, H1, I1, r, q⟩ => ⟨I1.kIn, ?_⟩) (star_plain n1) (backTo_any n2)
  exact run_g G room gd bd ps' I1 r q

/-- the keywords' values -/
def kwVals (G : Gx) (r : Rec) (C : Cxt) (ks : List Keyword) : Ev2.Env → M (List D) := fun ρ => M.bnd (evKw G r C ρ ks) fun kv => M.pu (kv.map (·.2))
theorem PK.imp {kws : List Keyword} {t u : TA} (h : PK X kws t) (i : ∀ σ H Q, u σ H Q → t σ H Q) : PK X kws u := ⟨fun pos pins s σ H Q I q => h.run pos pins s σ H Q I (i σ H Q q)⟩
theorem sound_kw (G : Gx) (r : Rec) (C : Cxt) (hE : ∀ e, PE X e (rdE X.K (r.E C e))) : ∀ ks : List Keyword, PK X ks (rdA X.K (kwVals G r C ks))
  | [] => by
    refine PK.imp pk_nil fun σ H Q h => ?_
    obtain ⟨F, mu, ρ, S, d, S1, hr, hS, e, q⟩ := h
    obtain ⟨rfl, rfl⟩ := pu_ok (show M.pu [] S = _ from e)
    exact q [] F mu H Stp.refl hS .nil
  | ⟨none, e, kp⟩ :: ks => ⟨fun pos pins s σ H Q I h => by
    obtain ⟨F, mu, ρ, S, d, S1, hr, hS, e, q⟩ := h
    exact (no_bad (S := S) e).elim⟩
  | ⟨some n, e, kp⟩ :: ks => by
    refine PK.imp (pk_cons (hE e) (sound_kw G r C hE ks)) fun σ H Q h => ?_
    obtain ⟨F, mu, ρ, S, d, S1, hr, hS, e1, q⟩ := h
    obtain ⟨kv, S2, e2, e3⟩ := bnd_ok e1
    obtain ⟨rfl, rfl⟩ := pu_ok e3
    refine Rdg.seq hr hS (show M.bnd (r.E C e ρ) (fun d => M.bnd (evKw G r C ρ ks) fun ds => M.pu ((n, d) :: ds)) S = _ from e2) fun a S3 v F1 mu1 H1 e4 st hS1 hr1 hv => ?_
    obtain ⟨kv2, S4, e5, e6⟩ := bnd_ok e4
    obtain ⟨rfl, rfl⟩ := pu_ok e6
    refine ⟨F1, mu1, ρ, S3, kv2.map (·.2), S1, hr1, hS1, ?_, fun vs F2 mu2 H2 st2 hS2 hvs => ?_⟩
    · show M.bnd (evKw G r C ρ ks) (fun kv => M.pu (kv.map (·.2))) S3 = _
      unfold M.bnd
      rw [e5]
      rfl
    · exact q _ F2 mu2 H2 (st.trans st2) hS2 (.cons (st2.rp hv) hvs)
theorem kw_names (G : Gx) (r : Rec) (C : Cxt) (ρ : Ev2.Env) (env : PySem.Env) (pos : Pos) : ∀ (ks : List Keyword) (S S1 : Store) (kv : List (Str × D)), evKw G r C ρ ks S = .ok kv S1 →
    (backToKw pos (keywordEach ks env)).all (·.1.isSome) = true ∧ (backToKw pos (keywordEach ks env)).filterMap (·.1) = kv.map (·.1) ∧ (backToKw pos (keywordEach ks env)).any (·.1.isNone) = false
  | [], S, S1, kv, e => by
    obtain ⟨rfl, rfl⟩ := pu_ok (show M.pu [] S = _ from e)
    exact ⟨rfl, rfl, rfl⟩
  | ⟨none, e, kp⟩ :: ks, S, S1, kv, h => (no_bad (S := S) h).elim
  | ⟨some n, e, kp⟩ :: ks, S, S1, kv, h => by
    obtain ⟨a, S2, e1, e2⟩ := bnd_ok (show M.bnd (r.E C e ρ) (fun d => M.bnd (evKw G r C ρ ks) fun ds => M.pu ((n, d) :: ds)) S = _ from h)
    obtain ⟨kv2, S3, e3, e4⟩ := bnd_ok e2
    obtain ⟨rfl, rfl⟩ := pu_ok e4
    obtain ⟨h1, h2, h3⟩ := kw_names G r C ρ env pos ks S2 _ kv2 e3
    refine ⟨?_, ?_, ?_⟩
    · show (true && (backToKw pos (keywordEach ks env)).all (·.1.isSome)) = true
      rw [h1]; rfl
    · show n :: (backToKw pos (keywordEach ks env)).filterMap (·.1) = _
      rw [h2]; rfl
    · show (false || (backToKw pos (keywordEach ks env)).any (·.1.isNone)) = false
      rw [h3]; rfl

theorem run_gk {CX : CXT} {f : Addr} {fd : FuncData} {ps : List Str} {sp : Sp} {E : XK} {pins : List (Addr × Obj)} {σ : L2.St} {H : Hp} {s : Shared} {Q : VK} {us ws : List Value} {vs zs : List V} {p : KwP} (G : FnG X.prog X.w X.K X.mg X.base CX k f fd ps sp)
    (room : Room k X.A) (gd : X.A.guards = some []) (kb : KwB X.K fd ps p) (hu : us.length = p.n) (hw : ws.length = p.ks.length) (ps' : Passes CX X E) (I : L2.Inv X pins σ H s) (r : Vals (vs ++ zs) (us ++ ws)) (h : sp (byIx p.ix (vs ++ zs)) H Q E) : wpAny (model X.prog X.w) X.A (call (.ref f) us (p.ks.zip ws)) (EP X pins σ Q) X.xe s := by
  refine wpAny_call (codeAny_mono (G.run X.A X.stack s H ⟨us, p.ks.zip ws⟩ (byIx p.ix (us ++ ws)) (byIx p.ix (vs ++ zs)) Q E room gd I.env0 (kb s us ws I.kIn hu hw) (byIx_vals r p.ix) h) fun res s2 hq => ?_)
  match res, hq with
  | .error x, hq => exact ps' pins σ H s x s2 I hq
  | .ok (.ret u), hq => exact I.after hq
  | .ok .next, hq => exact hq.elim
  | .ok .brk, hq => exact hq.elim
  | .ok .cont, hq => exact hq.elim

theorem vals_app : ∀ {vs zs : List V} {us ws : List Value}, Vals vs us → Vals zs ws → Vals (vs ++ zs) (us ++ ws)
  | _, _, _, _, .nil, h => h
  | _, _, _, _, .cons r t, h => .cons r (vals_app t h)

/-- f(k = v, ..) -/
theorem pe_gk0 {CX : CXT} {f : Addr} {fd : FuncData} {ps : List Str} {sp : Sp} {E : XK} {x : Str} {p0 pos : Pos} {kws : List Keyword} {tk : TA} {p : KwP} (G : FnG X.prog X.w X.K X.mg X.base CX k f fd ps sp) (room : Room k X.A) (gd : X.A.guards = some []) (kb : KwB X.K fd ps p)
    (ps' : Passes CX X E) (hg : Gl X x) (hm : X.mg x = some (.ref f)) (hk : PySem.W.keepIn X.K (.ref f) = true) (hd : (x == ("__debug__" : Str)) = false) (hkw : PK X kws tk)
    (n1 : (backToKw pos (keywordEach kws X.env)).all (·.1.isSome) = true) (n2 : (backToKw pos (keywordEach kws X.env)).filterMap (·.1) = p.ks) (n3 : (backToKw pos (keywordEach kws X.env)).any (·.1.isNone) = false) :
    PE X (.Call (.Name x p0) [] kws pos) (fun σ H Q => tk σ H fun zs H2 => (0 = p.n ∧ zs.length = p.ks.length) ∧ sp (byIx p.ix ([] ++ zs)) H2 Q E) := by
  refine ⟨fun pins s σ H Q I h => ?_⟩
  refine wpAny_Call_Name_kw (ld_glob I hg hm ?_ hd)
  refine PySem.W.callWith_KW0 (h₀ := X.base) I.ok.mod.kin hk n1 ?_ (by rw [n3]; rfl)
  refine thn (hkw.run pos pins s σ H _ I h) fun ws s2 ⟨zs, H2, I2, rz, hl, q2⟩ => ⟨I2.kIn, ?_⟩
  rw [n2]
  exact run_gk (us := []) (vs := []) G room gd kb hl.1 (rz.length.symm.trans hl.2) ps' I2 rz q2
/-- f(e, .., k = v, ..) -/
theorem pe_gk {CX : CXT} {f : Addr} {fd : FuncData} {ps : List Str} {sp : Sp} {E : XK} {x : Str} {p0 pos : Pos} {e : Expr} {es : List Expr} {kws : List Keyword} {t tk : TA} {p : KwP} (G : FnG X.prog X.w X.K X.mg X.base CX k f fd ps sp) (room : Room k X.A) (gd : X.A.guards = some []) (kb : KwB X.K fd ps p)
    (ps' : Passes CX X E) (hg : Gl X x) (hm : X.mg x = some (.ref f)) (hk : PySem.W.keepIn X.K (.ref f) = true) (hd : (x == ("__debug__" : Str)) = false) (ns : noStars (e :: es) = true) (ha : PA X (e :: es) t) (hkw : PK X kws tk)
    (n1 : (backToKw pos (keywordEach kws X.env)).all (·.1.isSome) = true) (n2 : (backToKw pos (keywordEach kws X.env)).filterMap (·.1) = p.ks) (n3 : (backToKw pos (keywordEach kws X.env)).any (·.1.isNone) = false) :
    PE X (.Call (.Name x p0) (e :: es) kws pos) (fun σ H Q => t σ H fun vs H1 => tk σ H1 fun zs H2 => (vs.length = p.n ∧ zs.length = p.ks.length) ∧ sp (byIx p.ix (vs ++ zs)) H2 Q E) := by
  refine ⟨fun pins s σ H Q I h => ?_⟩
  refine wpAny_Call_Name_kw (ld_glob I hg hm ?_ hd)
  obtain ⟨m1, m2⟩ := stars2 ns
  refine PySem.W.callWith_KW (h₀ := X.base) I.ok.mod.kin hk n1 (thn (ha.run pos pins s σ H _ I h) fun us s1 ⟨vs, H1, I1, r, q⟩ => ?_) ?_ (star_plain m1)
  · refine thn (hkw.run pos pins s1 σ H1 _ I1 q) fun ws s2 ⟨zs, H2, I2, rz, hl, q2⟩ => ⟨I2.kIn, ?_⟩
    rw [n2]
    exact run_gk G room gd kb (r.length.symm.trans hl.1) (rz.length.symm.trans hl.2) ps' I2 (vals_app r rz) q2
  · rw [n3, Bool.or_false]
    exact backTo_any ns

theorem boot_blt : ∀ (x : Str) (b : Blt), bltTable.lookup x = some b → bootBuiltins x = some b.val := by
  intro x b h
  have key : ∀ (l : List (Str × Blt)), (∀ p ∈ l, bootBuiltins p.1 = some p.2.val) → l.lookup x = some b → bootBuiltins x = some b.val := by
    intro l hl e
    exact hl (x, b) (PySem.mem_of_lookup e)
  refine key bltTable ?_ h
  intro p hp
  simp only [bltTable, List.mem_cons, List.not_mem_nil, or_false] at hp
  rcases hp with rfl | rfl | rfl | rfl | rfl | rfl | rfl | rfl | rfl | rfl | rfl | rfl | rfl <;> decide +kernel

theorem pass00 : Passes CX0 X E0 := pass0

theorem pe_blt {r : List V → Hp → VK → Prop} {b : Blt} {x : Str} {p pos : Pos} {es : List Expr} {t : TA} (hc : CallR X b.val r) (hg : Gl X x) (hm : X.mg x = none) (hv : bootBuiltins x = some b.val) (hn : x ≠ "__name__") (hd : (x == ("__debug__" : Str)) = false)
    (ns : noStars es = true) (ne : es.isEmpty = false) (ha : PA X es t) : PE X (.Call (.Name x p) es [] pos) (tCB r t) := by
  cases es with
  | nil => cases ne
  | cons e es =>
    obtain ⟨n1, n2⟩ := stars2 ns
    cases b <;> first
      | exact pe_callB hc hg hm hv ha hn hd (star_plain n1) (backTo_any n2)
      | exact pe_callTy hc hg hm hv ha hn hd (star_plain n1) (backTo_any n2)

theorem merge_new : ∀ (kvs acc : List (Key × V)), (acc.map (·.1) ++ kvs.map (·.1)).Nodup → mergeK acc kvs = acc ++ kvs
  | [], acc, _ => by simp [mergeK]
  | kv :: kvs, acc, h => by
    have hn : valV acc kv.1 = none := by
      unfold valV
      have : acc.find? (fun x => decide (x.1 = kv.1)) = none := by
        rw [List.find?_eq_none]
        intro x hx hd
        have hd : x.1 = kv.1 := by simpa using hd
        rw [List.map_cons, List.nodup_append] at h
        exact h.2.2 x.1 (List.mem_map_of_mem hx) kv.1 List.mem_cons_self hd
      rw [this]
      rfl
    show mergeK (putK acc kv.1 kv.2) kvs = _
    rw [putK_new kv.2 hn, merge_new kvs]
    · simp
    · simpa using h
theorem keys_zip : ∀ {ks : List Str} {vs : List V}, ks.length = vs.length → (List.zipWith (fun (k : Str) (v : V) => ((Sum.inr k : Key), v)) ks vs).map (·.1) = ks.map Sum.inr
  | [], [], _ => rfl
  | k :: ks, v :: vs, h => by simp only [List.zipWith_cons_cons, List.map_cons, keys_zip (Nat.succ.inj h)]
theorem nodup_inr {ks : List Str} (h : ks.Nodup) : (ks.map (Sum.inr : Str → Key)).Nodup := by
  unfold List.Nodup at *
  rw [List.pairwise_map]
  exact h.imp fun hne e => hne (Sum.inr.inj e)
theorem zip_texts : ∀ {K : PySem.W.Frag} {F : Hp} {mu : List Addr} {xs ys : List V} {ds : List D} {ks : List Str}, Rps K F mu xs ds → textsOf ds = some ks → List.zip xs ys = (List.zipWith (fun (k : Str) (v : V) => ((Sum.inr k : Key), v)) ks ys).map (fun kv => (kV kv.1, kv.2))
  | _, _, _, _, ys, _, _, .nil, e => by cases e; simp
  | _, _, _, _, [], _, _, .cons h t, e => by simp
  | _, _, _, _, y :: ys, _, _, .cons (d := d) (ds := ds) h t, e => by
    cases d <;> first | (exfalso; cases e; done) | skip
    rename_i x
    have e : (textsOf ds).map (fun xs => x :: xs) = some _ := e
    cases q : textsOf ds with
    | none => rw [q] at e; cases e
    | some ks =>
      rw [q] at e
      cases e
      cases h
      simp only [List.zip_cons_cons, List.zipWith_cons_cons, List.map_cons, kV]
      rw [zip_texts (ys := ys) t q]
      rfl

theorem sound_dict (c : Ctx PR k X C) (r : Rec) (hE : ∀ e, PE X e (rdE X.K (r.E C e))) (as : List Expr) (ks : List Keyword) (p pos : Pos) (hg : Gl X "dict") (hb : PR.blt "dict" = true) :
    PE X (.Call (.Name "dict" p) as ks pos) (rdE X.K fun ρ => evDict (PR.gx k (callK PR k)) r C ρ as ks) := by
  refine PE.of fun σ H Q h => ?_
  obtain ⟨F, mu, ρ, S, d, S1, hr, hS, e, q⟩ := h
  have e0 : evDict (PR.gx k (callK PR k)) r C ρ as ks S = .ok d S1 := e
  unfold evDict at e0
  split at e0
  next z zp a b zpos =>
    split at e0
    next hc =>
      obtain ⟨rfl, h1, h2, h3, h4⟩ := hc
      refine ⟨_, pe_dictZip c.calm hg (c.wld.blt _ hb) (gl_of c h1) (c.wld.blt _ h2) (sound_args (PR.gx k (callK PR k)) r C hE [a, b]) (star_plain h3) ?_, ?_⟩
      · exact backTo_any (by simp [noStars, h4])
      · refine Rdg.seq hr hS e0 fun ds S2 vs F1 mu1 H1 e2 st hS1 hr1 hvs => ?_
        unfold dzOp at e2
        split at e2
        next xs ys =>
          obtain ⟨x, y, rfl, hx, hy⟩ := rps2 hvs
          cases hx with
          | tup x1 x2 =>
            cases hy with
            | tup y1 y2 =>
              cases hk : textsOf xs with
              | none => rw [hk] at e2; exact (no_bad e2).elim
              | some kk =>
                rw [hk] at e2
                have e2 : (if kk.length = ys.length ∧ kk.Nodup then M.pu (D.dct kk ys) else M.bad) S2 = .ok d S1 := e2
                split at e2
                next hl =>
                  obtain ⟨rfl, rfl⟩ := pu_ok e2
                  refine ⟨_, _, _, _, _, rfl, sqT_mono hS1.sub x1, sqT_mono hS1.sub y1, zip_texts x2 hk, fun p hp => ?_⟩
                  have hlen : kk.length = _ := hl.1.trans y2.length.symm
                  rw [merge_new _ [] (by rw [keys_zip hlen]; simpa using nodup_inr hl.2), List.nil_append]
                  obtain ⟨f1, f2⟩ := hS1.frz (o := .dK _) hp
                  exact q _ _ _ _ (st.trans f2) f1 (.dct (.inl upd_same) (f2.rps y2))
                next => exact (no_bad e2).elim
        next => exact (no_bad e2).elim
    next => exact (no_bad e0).elim
  next => exact (no_bad e0).elim

theorem sound_call (c : Ctx PR k X C) (r : Rec) (hE : ∀ e, PE X e (rdE X.K (r.E C e))) (f : Str) (as : List Expr) (ks : List Keyword) (p pos : Pos) : PE X (.Call (.Name f p) as ks pos) (rdE X.K fun ρ => evCall (PR.gx k (callK PR k)) r C ρ f as ks pos) := by
  refine PE.of fun σ H Q h => ?_
  obtain ⟨F, mu, ρ, S, d, S1, hr, hS, e, q⟩ := h
  have e0 : evCall (PR.gx k (callK PR k)) r C ρ f as ks pos S = .ok d S1 := e
  unfold evCall at e0
  split at e0
  · exact (no_bad e0).elim
  next ho =>
    simp only [Bool.or_eq_true, Bool.not_eq_true', not_or, Bool.not_eq_true, Bool.not_eq_false] at ho
    obtain ⟨o1, o2, o3⟩ := odd_of ho.1
    have hg := gl_of c ho.2
    cases q1 : callK PR k f with
    | some g =>
      have e1 : (if noStars as then M.bnd (evA (PR.gx k (callK PR k)) r C ρ as) fun ds => M.bnd (evKw (PR.gx k (callK PR k)) r C ρ ks) fun kv => g ds kv else M.bad) S = .ok d S1 := by
        have e2 := e0
        simp only [show (PR.gx k (callK PR k)).call f = some g from q1] at e2
        exact e2
      split at e1
      next ns =>
        have hdf : ∃ df, PR.defs f = some df := by
          cases k with
          | zero =>
            simp only [callK] at q1
            cases w : PR.defs f with
            | none => rw [w] at q1; cases q1
            | some df => exact ⟨df, rfl⟩
          | succ n =>
            simp only [callK] at q1
            cases w : PR.defs f with
            | none => rw [w] at q1; cases q1
            | some df => exact ⟨df, rfl⟩
        obtain ⟨df, hdf⟩ := hdf
        obtain ⟨fa, fd, hm, hk, hb, hkb, hG⟩ := c.fns.fn f df hdf
        obtain ⟨ds, S2, e2, e3⟩ := bnd_ok e1
        obtain ⟨kv, S3, e4, e5⟩ := bnd_ok e3
        by_cases hne : kv ≠ []
        · -- by names
          have e6 : ∃ p vs', p ∈ df.kp ∧ p.n = ds.length ∧ p.ks = kv.map (·.1) ∧ vs' = byIx p.ix (ds ++ kv.map (·.2)) ∧ vs'.length = df.ps.length ∧ g vs' [] S3 = .ok d S1 := by
            cases k with
            | zero =>
              simp only [callK, hdf, Option.map_some, Option.some.injEq] at q1
              subst q1
              exact (no_bad e5).elim
            | succ n =>
              simp only [callK, hdf, Option.map_some, Option.some.injEq] at q1
              subst q1
              simp only [runDf, bindKw] at e5
              have hne2 : kv.isEmpty = false := by cases kv <;> first | exact absurd rfl hne | rfl
              rw [hne2] at e5
              simp only [Bool.false_eq_true, if_false] at e5
              cases hf : df.kp.find? (fun p => decide (p.n = ds.length) && decide (p.ks = kv.map (·.1))) with
              | none => rw [hf] at e5; exact (no_bad e5).elim
              | some p =>
                rw [hf] at e5
                simp only at e5
                have hp := List.find?_some hf
                simp only [Bool.and_eq_true, decide_eq_true_eq] at hp
                by_cases hl : (byIx p.ix (ds ++ kv.map (·.2))).length = df.ps.length
                · rw [if_pos hl] at e5
                  refine ⟨p, _, List.mem_of_find?_eq_some hf, hp.1, hp.2, rfl, hl, ?_⟩
                  simp only [runDf, bindKw, List.isEmpty_nil, if_true]
                  rw [if_pos hl]
                  exact e5
                · rw [if_neg hl] at e5
                  exact (no_bad e5).elim
          obtain ⟨p', vs', hp1, hp2, hp3, hp4, hp5, e6⟩ := e6
          obtain ⟨m1, m2, m3⟩ := kw_names (PR.gx k (callK PR k)) r C ρ X.env pos ks S2 S3 kv e4
          rw [← hp3] at m2
          have fin : ∀ vs F1 mu1 H1, Stp F mu H F1 mu1 H1 → Sr X.K F1 mu1 S2 H1 → Rps X.K F1 mu1 vs ds → rdA X.K (kwVals (PR.gx k (callK PR k)) r C ks) σ H1 (fun zs H2 => (vs.length = p'.n ∧ zs.length = p'.ks.length) ∧ spK X.K PR k f df.ps (byIx p'.ix (vs ++ zs)) H2 Q E0) := by
            intro vs F1 mu1 H1 st hS1 hvs
            refine ⟨F1, mu1, ρ, S2, kv.map (·.2), S3, hr.later st, hS1, ?_, fun zs F2 mu2 H2 st2 hS2 hzs => ?_⟩
            · show M.bnd (evKw _ _ _ _ _) _ S2 = _
              unfold M.bnd
              rw [e4]
              rfl
            · have hvz := (st2.rps hvs).append hzs
              have hb2 := byIx_rps hvz p'.ix
              have hk3 : kv.length = p'.ks.length := by rw [hp3, List.length_map]
              refine ⟨⟨hvs.length.trans hp2.symm, by rw [hzs.length, List.length_map]; exact hk3⟩, ?_⟩
              rw [← hp4] at hb2
              exact ⟨hb2.length.trans hp5, F2, mu2, S3, vs', d, S1, g, q1, hS2, hb2, e6, fun v F3 mu3 H3 st3 hS3 hv3 => q v F3 mu3 H3 ((st.trans st2).trans st3) hS3 hv3⟩
          cases as with
          | nil =>
            obtain ⟨rfl, rfl⟩ := pu_ok (show M.pu [] S = _ from e2)
            exact ⟨_, pe_gk0 hG c.room c.gd (hkb p' hp1) pass00 hg hm hk o1 (sound_kw (PR.gx k (callK PR k)) r C hE ks) m1 m2 m3, fin [] F mu H Stp.refl hS .nil⟩
          | cons a as =>
            refine ⟨_, pe_gk hG c.room c.gd (hkb p' hp1) pass00 hg hm hk o1 ns (sound_args (PR.gx k (callK PR k)) r C hE (a :: as)) (sound_kw (PR.gx k (callK PR k)) r C hE ks) m1 m2 m3, ?_⟩
            exact ⟨F, mu, ρ, S, ds, _, hr, hS, e2, fin⟩
        have hk0 : kv = [] := Classical.not_not.mp hne
        clear hne
        have hkw : kv = [] ∧ ks = [] ∧ S3 = S2 ∧ ds.length = df.ps.length := by
          subst hk0
          cases ks with
          | nil =>
            obtain ⟨_, rfl⟩ := pu_ok (show M.pu [] S2 = _ from e4)
            refine ⟨rfl, rfl, rfl, ?_⟩
            cases k with
            | zero =>
              simp only [callK, hdf, Option.map_some, Option.some.injEq] at q1
              subst q1
              exact (no_bad e5).elim
            | succ n =>
              simp only [callK, hdf, Option.map_some, Option.some.injEq] at q1
              subst q1
              simp only [runDf, bindKw] at e5
              simp only [List.isEmpty_nil, if_true] at e5
              by_cases hl : ds.length = df.ps.length
              · exact hl
              · rw [if_neg hl] at e5
                exact (no_bad e5).elim
          | cons kw ks =>
            obtain ⟨n, ee, pp⟩ := kw
            cases n with
            | none => exact (no_bad (S := S2) e4).elim
            | some n =>
              obtain ⟨a1, S4, e6, e7⟩ := bnd_ok (show M.bnd (r.E C ee ρ) _ S2 = _ from e4)
              obtain ⟨a2, S5, e8, e9⟩ := bnd_ok e7
              obtain ⟨h1, _⟩ := pu_ok e9
              cases h1
        obtain ⟨rfl, rfl, rfl, hlen⟩ := hkw
        cases as with
        | nil =>
          obtain ⟨rfl, rfl⟩ := pu_ok (show M.pu [] S = _ from e2)
          exact ⟨_, pe_g0 hG c.room c.gd hb pass00 hg hm hk o1, hlen, F, mu, _, [], d, S1, g, q1, hS, .nil, e5, q⟩
        | cons a as =>
          refine ⟨_, pe_g hG c.room c.gd hb pass00 hg hm hk o1 ns (sound_args (PR.gx k (callK PR k)) r C hE (a :: as)), ?_⟩
          refine ⟨F, mu, ρ, S, ds, _, hr, hS, e2, fun vs F1 mu1 H1 st hS1 hvs => ?_⟩
          exact ⟨hvs.length.trans hlen, F1, mu1, _, ds, d, S1, g, q1, hS1, hvs, e5, fun v F2 mu2 H2 st2 hS2 hv => q v F2 mu2 H2 (st.trans st2) hS2 hv⟩
      next => exact (no_bad e1).elim
    | none =>
      by_cases hdict : f = "dict"
      · subst hdict
        have e1 : (if PR.blt "dict" then evDict (PR.gx k (callK PR k)) r C ρ as ks else M.bad) S = .ok d S1 := by
          have e2 := e0
          simp only [show (PR.gx k (callK PR k)).call "dict" = none from q1, if_true] at e2
          exact e2
        split at e1
        next hb => exact ⟨_, sound_dict c r hE as ks p pos hg hb, F, mu, ρ, S, d, S1, hr, hS, e1, q⟩
        next => exact (no_bad e1).elim
      have e1 : (if PR.blt f && ks.isEmpty && noStars as && !as.isEmpty then (match bltTable.lookup f with | some b => M.bnd (evA (PR.gx k (callK PR k)) r C ρ as) fun ds => callB ((PR.gx k (callK PR k)).mu pos) b ds | none => M.bad) else M.bad) S = .ok d S1 := by
        have e2 := e0
        simp only [show (PR.gx k (callK PR k)).call f = none from q1, if_neg hdict] at e2
        exact e2
      split at e1
      next hc =>
        simp only [Bool.and_eq_true, Bool.not_eq_true'] at hc
        obtain ⟨⟨⟨h1, h2⟩, h3⟩, h4⟩ := hc
        cases q2 : bltTable.lookup f with
        | none => rw [q2] at e1; exact (no_bad e1).elim
        | some b =>
          rw [q2] at e1
          cases ks with
          | cons a b => cases h2
          | nil =>
            refine ⟨_, pe_blt (sound_blt c.fns.sys c.calm c.gd (by have := c.room.un; omega) ((PR.gx k (callK PR k)).mu pos) b) hg (c.wld.blt f h1) (boot_blt f b q2) o3 o1 h3 h4 (sound_args (PR.gx k (callK PR k)) r C hE as), ?_⟩
            refine Rdg.seq hr hS e1 fun ds S2 vs F1 mu1 H1 e2 st hS1 hr1 hvs => ?_
            exact ⟨F1, mu1, S2, ds, d, S1, hS1, hvs, e2, fun v F2 mu2 H2 st2 hS2 hv => q v F2 mu2 H2 (st.trans st2) hS2 hv⟩
      next => exact (no_bad e1).elim

/-! ### method calls -/
theorem few1 {a : Expr} {env : PySem.Env} {cp : Pos} (hs : isStar a = false) : ((backTo cp (starEach [a] env)).all (fun x => !x.1) && (backToKw cp (keywordEach [] env)).all (fun x => x.1.isSome)
      && decide (([a] : List Expr).length + ([] : List Keyword).length + (if ([] : List Keyword).isEmpty then 0 else 1) < 30)) = true := by
  rw [star_plain hs]
  rfl

theorem base_name {x : Str} {p : Pos} {m : Str} {env : PySem.Env} : attributeBase (.Name x p) m env (eval (.Name x p) env) = eval (.Name x p) env := rfl
theorem base_call {f : Str} {p q : Pos} {m : Str} {env : PySem.Env} (h : f ≠ "super") : attributeBase (.Call (.Name f p) [] [] q) m env (eval (.Call (.Name f p) [] [] q) env) = eval (.Call (.Name f p) [] [] q) env := by
  have h' : (f != ("super" : Str)) = true := by simpa using h
  unfold attributeBase
  simp only [h', Bool.true_or, if_true]

/-- t.index(a), t told plain by its object -/
theorem pe_indexF {o a : Expr} {to : TE} {ta : TA} {ap cp : Pos} (ho : PE X o to) (ha : PA X [a] ta) (hbase : attributeBase o "index" X.env (eval o X.env) = eval o X.env) (hl : (ap.endLine == cp.line) = true) (hs : isStar a = false) :
    PE X (.Call (.Attribute o "index" ap) [a] [] cp) (fun σ H Q => to σ H fun x H1 => (∃ p ob xs, x = .ref p ∧ H1 p = some (.frz ob (.tup xs)) ∧ ob.dict = none) ∧ ta σ H1 fun ys H2 => rIndexT X.K x ys H2 Q) := by
  refine ⟨fun pins s σ H Q I h => ?_⟩
  refine wpAny_Call_method_late hbase (few1 hs) hl rfl (thn (ho.run pins s σ H _ I h) fun v s1 hv => ?_)
  obtain ⟨x, H1, I1, r1, ⟨p, ob, xs, rfl, hp, hdn⟩, q1⟩ := hv
  cases r1
  obtain ⟨hget, hok⟩ := I1.hok p _ hp
  obtain ⟨_, its, _, ⟨o2, hg2, hc2, _⟩⟩ := hok
  rw [hget] at hg2
  cases hg2
  refine ⟨"tuple", "tuple.index", PySem.F.plainAttrs_tuple, PySem.F.slot_tuple_index, PySem.F.type_tuple_index, ⟨_, hget, hc2⟩, fun b eb => by cases eb; exact ⟨_, hget, hdn⟩, ?_⟩
  have hA := ha.run cp pins s1 σ H1 _ I1 q1
  rw [star_plain hs] at hA ⊢
  refine Calls.callWith_builtin rfl (Calls.evalArgs_plain ?_)
  exact thn hA fun us s2 ⟨vs, H2, I2, r2, q2⟩ => mt_indexT pins s2 σ H2 (.ref p) vs _ us Q I2 rfl r2 q2

theorem texts_rps {K : PySem.W.Frag} {F : Hp} {mu : List Addr} : ∀ {es : List Expr} {ds : List D}, txtsOf es = some ds → Rps K F mu (ds.map textV) ds
  | [], _, e => by cases e; exact .nil
  | x :: es, _, e => by
    unfold txtsOf at e
    cases q1 : txtOf x with
    | none => rw [q1] at e; cases e
    | some d =>
      cases q2 : txtsOf es with
      | none => rw [q1, q2] at e; cases e
      | some ds =>
        rw [q1, q2] at e
        cases e
        refine .cons ?_ (texts_rps q2)
        unfold txtOf at q1
        split at q1
        · cases q1; exact .str _
        · cases q1

theorem Sr.frzT {K : PySem.W.Frag} {F H : Hp} {mu : List Addr} {S : Store} (r : Sr K F mu S H) {p : Addr} {o : Obj} {xs : List V} (hp : H p = none) : Sr K (upd F p (.frz o (.tup xs))) mu S (upd H p (.frz o (.tup xs))) ∧ Stp F mu H (upd F p (.frz o (.tup xs))) mu (upd H p (.frz o (.tup xs))) := r.frz hp

theorem rda1 {G : Gx} {r : Rec} {K : PySem.W.Frag} {F H : Hp} {mu : List Addr} {σ : L2.St} {ρ : Ev2.Env} {S S2 : Store} {a : Expr} {β : Type} {f : D → M β} {b : β} {Q : List V → Hp → Prop} (hs : isStar a = false)
    (hr : Er K F mu σ ρ) (hS : Sr K F mu S H) (e : M.bnd (r.E C a ρ) f S = .ok b S2)
    (k : ∀ d S1 v F1 mu1 H1, f d S1 = .ok b S2 → Stp F mu H F1 mu1 H1 → Sr K F1 mu1 S1 H1 → Rp K F1 mu1 v d → Q [v] H1) : rdA K (fun ρ => evA G r C ρ [a]) σ H Q := by
  obtain ⟨d, S1, e1, e2⟩ := bnd_ok e
  refine ⟨F, mu, ρ, S, [d], S1, hr, hS, ?_, fun vs F1 mu1 H1 st hS1 hvs => ?_⟩
  · have : evA G r C ρ [a] = M.bnd (r.E C a ρ) fun d => M.bnd (evA G r C ρ []) fun ds => M.pu (d :: ds) := by
      cases a <;> first | rfl | (simp [isStar] at hs; done)
    show evA G r C ρ [a] S = _
    rw [this]
    unfold M.bnd
    rw [e1]
    rfl
  · obtain ⟨v, rfl, hv⟩ := rps1 hvs
    exact k d S1 v F1 mu1 H1 e2 st hS1 hv

theorem mth_name : ∀ (m : Str) (q : Mth), mthTable.lookup m = some q → (q = .append ∧ m = "append") ∨ (q = .extend ∧ m = "extend") ∨ (q = .update ∧ m = "update") ∨ (q = .get ∧ m = "get") := by
  intro m q h
  have hm := PySem.mem_of_lookup h
  simp only [mthTable, List.mem_cons, List.not_mem_nil, or_false, Prod.mk.injEq] at hm
  rcases hm with ⟨rfl, rfl⟩ | ⟨rfl, rfl⟩ | ⟨rfl, rfl⟩ | ⟨rfl, rfl⟩
  · exact .inl ⟨rfl, rfl⟩
  · exact .inr (.inl ⟨rfl, rfl⟩)
  · exact .inr (.inr (.inl ⟨rfl, rfl⟩))
  · exact .inr (.inr (.inr ⟨rfl, rfl⟩))

theorem dget_look {K : PySem.W.Frag} {F : Hp} {mu : List Addr} (z : Str) : ∀ {ks : List Str} {vs : List V} {ds : List D}, Rps K F mu vs ds → (∀ d, dGet ks ds z = some d → ∃ w, valV (List.zipWith (fun (k : Str) (v : V) => ((Sum.inr k : Key), v)) ks vs) (.inr z) = some w ∧ Rp K F mu w d) ∧ (dGet ks ds z = none → valV (List.zipWith (fun (k : Str) (v : V) => ((Sum.inr k : Key), v)) ks vs) (.inr z) = none)
  | [], vs, ds, h => by
    refine ⟨fun d e => ?_, fun _ => ?_⟩
    · cases ds <;> cases e
    · cases vs <;> rfl
  | k :: ks, _, _, h => by
    cases h with
    | nil => exact ⟨(fun d e => by cases e), fun _ => rfl⟩
    | cons r t =>
      rename_i v vs d0 ds
      have ih := dget_look (ks := ks) z t
      have e0 : dGet (k :: ks) (d0 :: ds) z = if k = z then some d0 else dGet ks ds z := rfl
      rw [e0, List.zipWith_cons_cons]
      by_cases hk : k = z
      · subst hk
        rw [if_pos rfl, valV_pos rfl]
        exact ⟨(fun d e => by cases e; exact ⟨v, rfl, r⟩), (fun e => by cases e)⟩
      · rw [if_neg hk, valV_neg (fun q => hk (by injection q))]
        exact ih
theorem chk_ok {o : D} {S S1 : Store} {u : Unit} (e : chk o S = .ok u S1) : S1 = S ∧ ((∃ i xs, o = .ref i ∧ lstAt S i = some xs) ∨ (∃ i kvs, o = .dref i ∧ dctAt S i = some kvs) ∨ ∃ ks vs, o = .dct ks vs) := by
  unfold chk at e
  split at e
  next i =>
    cases q : lstAt S i with
    | none => rw [q] at e; cases e
    | some xs => rw [q] at e; cases e; exact ⟨rfl, .inl ⟨i, xs, rfl, q⟩⟩
  next i =>
    cases q : dctAt S i with
    | none => rw [q] at e; cases e
    | some xs => rw [q] at e; cases e; exact ⟨rfl, .inr (.inl ⟨i, xs, rfl, q⟩)⟩
  next => cases e; exact ⟨rfl, .inr (.inr ⟨_, _, rfl⟩)⟩
  next => cases e
theorem ref_list {K : PySem.W.Frag} {F H : Hp} {mu : List Addr} {S : Store} (hS : Sr K F mu S H) {x : V} {i : Nat} {ds : List D} (hx : Rp K F mu x (.ref i)) (e : lstAt S i = some ds) : tyV K "list" x H := by
  cases hx with
  | ref h1 =>
    obtain ⟨xs, h3, h4⟩ := hS.lst h1 e
    exact .inl ⟨rfl, xs, .inl (.inl h3)⟩

theorem texts_map : ∀ {ds : List D} {ys : List Str}, textsOf ds = some ys → ds = ys.map D.str
  | [], _, e => by cases e; rfl
  | d :: ds, _, e => by
    cases d <;> first | (exfalso; cases e; done) | skip
    rename_i x
    have e' : (textsOf ds).map (fun xs => x :: xs) = some _ := e
    cases q : textsOf ds with
    | none => rw [q] at e'; cases e'
    | some xs =>
      rw [q] at e'
      cases e'
      rw [texts_map q]
      rfl
theorem str_rps {K : PySem.W.Frag} {F : Hp} {mu : List Addr} : ∀ {ys : List Str} {vs : List V}, Rps K F mu vs (ys.map D.str) → vs = ys.map V.str
  | [], _, h => by cases h; rfl
  | y :: ys, _, h => by
    cases h with
    | cons r t =>
      cases r
      rw [str_rps t]
      rfl
theorem rps_str {K : PySem.W.Frag} {F : Hp} {mu : List Addr} : ∀ ys : List Str, Rps K F mu (ys.map V.str) (ys.map D.str)
  | [] => .nil
  | y :: ys => .cons (.str y) (rps_str ys)
/-- a method of a text with one argument -/
theorem sound_tm (c : Ctx PR k X C) (r : Rec) (hE : ∀ e, PE X e (rdE X.K (r.E C e))) (o : Expr) (m : Str) (a : Expr) (ap cp : Pos) (mu0 : Bool) (hb : ∀ m, attributeBase o m X.env (eval o X.env) = eval o X.env) (hs : isStar a = false) (hl : (ap.endLine == cp.line) = true) (hm : isTm m = true) :
    PE X (.Call (.Attribute o m ap) [a] [] cp) (rdE X.K fun ρ => M.bnd (r.E C o ρ) fun x => tmeth m mu0 x (r.E C a ρ)) := by
  refine PE.of fun σ H Q h => ?_
  obtain ⟨F, mu, ρ, S, d, S1, hr, hS, e, q⟩ := h
  have hst : starEach [a] X.env = [(false, eval a X.env)] := by rw [star_plain hs]; rfl
  unfold isTm at hm
  by_cases hj : m = "join"
  · subst hj
    refine ⟨_, pe_join (hE o) (hE a) hst (hb _) hl, ?_⟩
    refine Rdg.seq hr hS e fun x S2 v F1 mu1 H1 e1 st hS1 hr1 hv => ?_
    cases hv <;> first | (exfalso; cases e1; done) | skip
    rename_i z
    refine ⟨⟨z, rfl⟩, ?_⟩
    refine Rdg.seq hr1 hS1 (show M.bnd (r.E C a ρ) (fun y => tmOp "join" mu0 z y) S2 = .ok d S1 from e1) fun y S3 u F2 mu2 H2 e2 st2 hS2 hr2 hu => ?_
    have e3 : (match (seqOf S3 y).bind textsOf with | some ys => if (ys.map (·.length)).sum + ys.length * z.length ≤ 16777216 then Ev2.R.ok (D.str (Txt.join z ys)) S3 else Ev2.R.bad | none => Ev2.R.bad) = Ev2.R.ok d S1 := e2
    cases q1 : seqOf S3 y with
    | none => rw [q1] at e3; cases e3
    | some ds =>
      rw [q1] at e3
      simp only [Option.bind_some] at e3
      cases q2 : textsOf ds with
      | none => rw [q2] at e3; cases e3
      | some ys =>
        rw [q2] at e3
        simp only at e3
        split at e3
        next hz =>
          injection e3 with e4 e5
          subst e4 e5
          obtain ⟨ad, ws, rfl, hq, hrs⟩ := hS2.seq hu q1
          rw [texts_map q2] at hrs
          rw [str_rps hrs] at hq
          exact ⟨z, ad, ys, rfl, rfl, hq, hz, q _ F2 mu2 H2 (st.trans st2) hS2 (.str _)⟩
        next => cases e3
  · have hsp : m = "split" := by simpa [hj] using hm
    subst hsp
    refine ⟨_, pe_split (hE o) (hE a) hst (hb _) hl, ?_⟩
    refine Rdg.seq hr hS e fun x S2 v F1 mu1 H1 e1 st hS1 hr1 hv => ?_
    cases hv <;> first | (exfalso; cases e1; done) | skip
    rename_i z
    refine ⟨⟨z, rfl⟩, ?_⟩
    refine Rdg.seq hr1 hS1 (show M.bnd (r.E C a ρ) (fun y => tmOp "split" mu0 z y) S2 = .ok d S1 from e1) fun y S3 u F2 mu2 H2 e2 st2 hS2 hr2 hu => ?_
    have e3 : splitOp mu0 z y S3 = .ok d S1 := e2
    cases hu <;> first | (exfalso; cases e3; done) | skip
    rename_i b
    have e4 : (if (b.length == 0) = false ∧ z.length + 2 ≤ sizeLine then mkL mu0 ((Txt.split z b).map D.str) else M.bad) S3 = .ok d S1 := e3
    split at e4
    next hz =>
      refine ⟨z, b, rfl, rfl, hz.1, hz.2, fun p hp => ?_⟩
      exact Post.newL (Q := Q) e4 (fun v F3 mu3 H3 st3 hS3 hv3 => q v F3 mu3 H3 ((st.trans st2).trans st3) hS3 hv3) hS2 (rps_str _) hp
    next => exact (no_bad e4).elim
theorem sound_tmC (c : Ctx PR k X C) (r : Rec) (hE : ∀ e, PE X e (rdE X.K (r.E C e))) (z : Str) (kk : Nat) (kp : Pos) (m : Str) (a : Expr) (ap cp : Pos) :
    PE X (.Call (.Attribute (.Constant (.str z) kk kp) m ap) [a] [] cp) (rdE X.K (stepE (PR.gx k (callK PR k)) r C (.Call (.Attribute (.Constant (.str z) kk kp) m ap) [a] [] cp))) := by
  refine PE.of fun σ H Q h => ?_
  obtain ⟨F, mu, ρ, S, d, S1, hr, hS, e, q⟩ := h
  have e0 : (if isStar a || !(ap.endLine == cp.line) || !isTm m then M.bad else M.bnd (r.E C (.Constant (.str z) kk kp) ρ) fun o => tmeth m ((PR.gx k (callK PR k)).mu cp) o (r.E C a ρ)) S = .ok d S1 := e
  split at e0
  · exact (no_bad e0).elim
  next hc =>
    simp only [Bool.or_eq_true, Bool.not_eq_true', not_or, Bool.not_eq_true, Bool.not_eq_false] at hc
    exact ⟨_, sound_tm c r hE (.Constant (.str z) kk kp) m a ap cp ((PR.gx k (callK PR k)).mu cp) (fun _ => rfl) hc.1.1 hc.1.2 hc.2, F, mu, ρ, S, d, S1, hr, hS, e0, q⟩
/-! ### f-strings -/
/-- the reading of a part -/
def partT (K : PySem.W.Frag) (r : Rec) (C : Cxt) : Expr → TE
  | .FormattedValue e _ none _ => tFmt (rdE K (r.E C e))
  | e => rdE K (r.E C e)
theorem part_pe (r : Rec) (hE : ∀ e, PE X e (rdE X.K (r.E C e))) (e : Expr) (h : ∀ f cv p, e = .FormattedValue f cv none p → cv = -1) : PE X e (partT X.K r C e) := by
  cases e <;> first | exact hE _ | skip
  rename_i f cv sp p
  cases sp with
  | none =>
    have := h f cv p rfl
    subst this
    exact pe_fmt (hE f)
  | some sp => exact hE _
theorem joined_reads (r : Rec) : ∀ (es : List Expr) (acc : Str) (σ : L2.St) (H F : Hp) (mu : List Addr) (ρ : Ev2.Env) (S S1 : Store) (out : Str) (Q : Str → Hp → Prop), Er X.K F mu σ ρ → Sr X.K F mu S H → evJ r C ρ es acc S = .ok out S1 →
    (∀ F1 mu1 H1, Stp F mu H F1 mu1 H1 → Sr X.K F1 mu1 S1 H1 → Q out H1) → tJs (es.map (partT X.K r C)) acc σ H Q
  | [], acc, σ, H, F, mu, ρ, S, S1, out, Q, hr, hS, e, q => by
    obtain ⟨rfl, rfl⟩ := pu_ok (show M.pu acc S = _ from e)
    exact q F mu H Stp.refl hS
  | e0 :: es, acc, σ, H, F, mu, ρ, S, S1, out, Q, hr, hS, e, q => by
    have e' : M.bnd (evP r C ρ e0) (fun y => if (acc ++ y).length ≤ sizeLine then evJ r C ρ es (acc ++ y) else M.bad) S = .ok out S1 := e
    obtain ⟨y, S2, e1, e2⟩ := bnd_ok e'
    have rest : ∀ F1 mu1 H1, Stp F mu H F1 mu1 H1 → Sr X.K F1 mu1 S2 H1 → Er X.K F1 mu1 σ ρ → (acc ++ y).length ≤ sizeLine ∧ tJs (es.map (partT X.K r C)) (acc ++ y) σ H1 Q := by
      intro F1 mu1 H1 st hS1 hr1
      split at e2
      next hz => exact ⟨hz, joined_reads r es (acc ++ y) σ H1 F1 mu1 ρ S2 S1 out Q hr1 hS1 e2 fun F2 mu2 H2 st2 hS2 => q F2 mu2 H2 (st.trans st2) hS2⟩
      next => exact (no_bad e2).elim
    show partT X.K r C e0 σ H _
    have plain : ∀ f : Expr, M.bnd (r.E C f ρ) (fun d => (match d with | .str y => M.pu y | _ => M.bad)) S = .ok y S2 → rdE X.K (r.E C f) σ H fun x H1 => ∃ y : Str, x = .str y ∧ (acc ++ y).length ≤ sizeLine ∧ tJs (es.map (partT X.K r C)) (acc ++ y) σ H1 Q := by
      intro f ef
      refine Rdg.seq hr hS ef fun d S3 v F1 mu1 H1 e3 st hS1 hr1 hv => ?_
      cases hv <;> first | (exfalso; exact no_bad e3) | skip
      obtain ⟨rfl, rfl⟩ := pu_ok e3
      obtain ⟨h1, h2⟩ := rest F1 mu1 H1 st hS1 hr1
      exact ⟨_, rfl, h1, h2⟩
    cases e0 <;> first | exact plain _ e1 | skip
    rename_i f cv sp p
    cases sp with
    | some sp => exact (no_bad (show (M.bad : M Str) S = _ from e1)).elim
    | none =>
      have e1 : (if cv = -1 then M.bnd (r.E C f ρ) (fun d => (match d with | .str y => if y.length ≤ sizeLine then M.pu y else M.bad | _ => M.bad)) else M.bad) S = .ok y S2 := e1
      split at e1
      next hcv =>
        refine Rdg.seq hr hS e1 fun d S3 v F1 mu1 H1 e3 st hS1 hr1 hv => ?_
        cases hv <;> first | (exfalso; exact no_bad e3) | skip
        rename_i z
        have e3 : (if z.length ≤ sizeLine then M.pu z else M.bad) S3 = .ok y S2 := e3
        split at e3
        next hz =>
          obtain ⟨rfl, rfl⟩ := pu_ok e3
          obtain ⟨h1, h2⟩ := rest F1 mu1 H1 st hS1 hr1
          exact .inl ⟨_, rfl, hz, _, rfl, h1, h2⟩
        next => exact (no_bad e3).elim
      next => exact (no_bad e1).elim
theorem evJ_conv (r : Rec) : ∀ (es : List Expr) (acc : Str) (ρ : Ev2.Env) (S S1 : Store) (out : Str), evJ r C ρ es acc S = .ok out S1 → ∀ e ∈ es, ∀ f cv p, e = .FormattedValue f cv none p → cv = -1
  | [], _, _, _, _, _, _, e, he => by cases he
  | e0 :: es, acc, ρ, S, S1, out, h, e, he => by
    have e' : M.bnd (evP r C ρ e0) (fun y => if (acc ++ y).length ≤ sizeLine then evJ r C ρ es (acc ++ y) else M.bad) S = .ok out S1 := h
    obtain ⟨y, S2, e1, e2⟩ := bnd_ok e'
    rcases List.mem_cons.mp he with rfl | he
    · intro f cv p hf
      subst hf
      have e1 : (if cv = -1 then M.bnd (r.E C f ρ) (fun d => (match d with | .str y => if y.length ≤ sizeLine then M.pu y else M.bad | _ => M.bad)) else M.bad) S = .ok y S2 := e1
      split at e1
      next hcv => exact hcv
      next => exact (no_bad e1).elim
    · split at e2
      next => exact evJ_conv r es _ ρ S2 S1 out e2 e he
      next => exact (no_bad e2).elim
theorem pj_all (r : Rec) (hE : ∀ e, PE X e (rdE X.K (r.E C e))) : ∀ es : List Expr, (∀ e ∈ es, ∀ f cv p, e = .FormattedValue f cv none p → cv = -1) → PJ X es (es.map (partT X.K r C))
  | [], _ => .nil
  | e :: es, h => .cons (part_pe r hE e (h e (.head _))) (pj_all r hE es fun e he => h e (.tail _ he))
theorem sound_fstr (c : Ctx PR k X C) (r : Rec) (hE : ∀ e, PE X e (rdE X.K (r.E C e))) (v1 v2 : Expr) (rest : List Expr) (pos : Pos) :
    PE X (.JoinedStr (v1 :: v2 :: rest) pos) (rdE X.K (stepE (PR.gx k (callK PR k)) r C (.JoinedStr (v1 :: v2 :: rest) pos))) := by
  refine PE.of fun σ H Q h => ?_
  obtain ⟨F, mu, ρ, S, d, S1, hr, hS, e, q⟩ := h
  obtain ⟨out, S2, e1, e2⟩ := bnd_ok (show M.bnd (evJ r C ρ (v1 :: v2 :: rest) Str.empty) (fun y => M.pu (D.str y)) S = .ok d S1 from e)
  obtain ⟨rfl, rfl⟩ := pu_ok e2
  refine ⟨_, pe_joined (pj_all r hE _ (evJ_conv r _ _ ρ S _ out e1)), ?_⟩
  exact joined_reads r (v1 :: v2 :: rest) Str.empty σ H F mu ρ S _ out _ hr hS e1 fun F1 mu1 H1 st hS1 => q _ F1 mu1 H1 st hS1 (.str _)
theorem sound_meth (c : Ctx PR k X C) (r : Rec) (hE : ∀ e, PE X e (rdE X.K (r.E C e))) (x m : Str) (a : Expr) (p ap cp : Pos) :
    PE X (.Call (.Attribute (.Name x p) m ap) [a] [] cp) (rdE X.K (stepE (PR.gx k (callK PR k)) r C (.Call (.Attribute (.Name x p) m ap) [a] [] cp))) := by
  refine PE.of fun σ H Q h => ?_
  obtain ⟨F, mu, ρ, S, d, S1, hr, hS, e, q⟩ := h
  have e0 : (if isStar a || !(ap.endLine == cp.line) then M.bad
    else if isTm m then M.bnd (r.E C (.Name x p) ρ) fun o => tmeth m ((PR.gx k (callK PR k)).mu cp) o (r.E C a ρ)
    else if isVis C.sc x then (match mthTable.lookup m with
      | some k => M.bnd (r.E C (.Name x p) ρ) fun o => M.bnd (chk o) fun _ => M.bnd (r.E C a ρ) fun d => methOp k o d
      | none => M.bad)
    else if m = "index" ∧ isGl C.sc x = true ∧ odd x = false then (match PR.consts x with
      | some (.tup xs) => M.bnd (r.E C a ρ) fun d => indexOp xs d
      | _ => M.bad) else M.bad) S = .ok d S1 := e
  split at e0
  · exact (no_bad e0).elim
  next hc =>
    simp only [Bool.or_eq_true, Bool.not_eq_true', not_or, Bool.not_eq_true, Bool.not_eq_false] at hc
    obtain ⟨hs, hl⟩ := hc
    split at e0
    next htm => exact ⟨_, sound_tm c r hE (.Name x p) m a ap cp ((PR.gx k (callK PR k)).mu cp) (fun _ => base_name) hs hl htm, F, mu, ρ, S, d, S1, hr, hS, e0, q⟩
    next htm =>
    split at e0
    next hv =>
      cases q1 : mthTable.lookup m with
      | none => rw [q1] at e0; exact (no_bad e0).elim
      | some mt =>
        rw [q1] at e0
        rcases mth_name m mt q1 with ⟨rfl, rfl⟩ | ⟨rfl, rfl⟩ | ⟨rfl, rfl⟩ | ⟨rfl, rfl⟩
        · refine ⟨_, pe_bm PySem.F.plainAttrs_list PySem.F.slot_list_append PySem.F.type_list_append mt_append (hE (.Name x p)) (sound_args (PR.gx k (callK PR k)) r C hE [a]) base_name (few1 hs) hl (star_plain hs) rfl, ?_⟩
          refine Rdg.seq hr hS e0 fun o S2 v F1 mu1 H1 e1 st hS1 hr1 hv => ?_
          obtain ⟨u, S2', ec, e1b⟩ := bnd_ok e1
          obtain ⟨rfl, hk⟩ := chk_ok ec
          have href : ∃ i xs, o = .ref i ∧ lstAt S2' i = some xs := by
            rcases hk with hk | ⟨i, kvs, rfl, _⟩ | ⟨ks, vs, rfl⟩
            · exact hk
            · obtain ⟨d2, S4, _, e6⟩ := bnd_ok e1b
              cases e6
            · obtain ⟨d2, S4, _, e6⟩ := bnd_ok e1b
              cases e6
          obtain ⟨i, xs, rfl, hxs⟩ := href
          refine ⟨ref_list hS1 hv hxs, ?_⟩
          refine rda1 hs hr1 hS1 e1b fun d2 S3 v2 F2 mu2 H2 e2 st2 hS2 hv2 => ?_
          exact sound_append hS2 (st2.rp hv) hv2 e2 fun v F3 mu3 H3 st3 hS3 hv3 => q v F3 mu3 H3 ((st.trans st2).trans st3) hS3 hv3
        · refine ⟨_, pe_bm PySem.F.plainAttrs_list PySem.F.slot_list_extend PySem.F.type_list_extend mt_extA (hE (.Name x p)) (sound_args (PR.gx k (callK PR k)) r C hE [a]) base_name (few1 hs) hl (star_plain hs) rfl, ?_⟩
          refine Rdg.seq hr hS e0 fun o S2 v F1 mu1 H1 e1 st hS1 hr1 hv => ?_
          obtain ⟨u, S2', ec, e1b⟩ := bnd_ok e1
          obtain ⟨rfl, hk⟩ := chk_ok ec
          have href : ∃ i xs, o = .ref i ∧ lstAt S2' i = some xs := by
            rcases hk with hk | ⟨i, kvs, rfl, _⟩ | ⟨ks, vs, rfl⟩
            · exact hk
            · obtain ⟨d2, S4, _, e6⟩ := bnd_ok e1b
              cases e6
            · obtain ⟨d2, S4, _, e6⟩ := bnd_ok e1b
              cases e6
          obtain ⟨i, xs, rfl, hxs⟩ := href
          refine ⟨ref_list hS1 hv hxs, ?_⟩
          refine rda1 hs hr1 hS1 e1b fun d2 S3 v2 F2 mu2 H2 e2 st2 hS2 hv2 => ?_
          exact sound_extend hS2 (st2.rp hv) hv2 e2 fun v F3 mu3 H3 st3 hS3 hv3 => q v F3 mu3 H3 ((st.trans st2).trans st3) hS3 hv3
        · refine ⟨_, pe_upd (hE (.Name x p)) (hE a) ⟨base_name, few1 hs, hl, by rw [star_plain hs]; rfl⟩, ?_⟩
          refine Rdg.seq hr hS e0 fun o S2 v F1 mu1 H1 e1 st hS1 hr1 hv => ?_
          obtain ⟨u, S2', ec, e1b⟩ := bnd_ok e1
          obtain ⟨rfl, hk⟩ := chk_ok ec
          have href : ∃ i kvs, o = .dref i ∧ dctAt S2' i = some kvs := by
            rcases hk with ⟨i, kvs, rfl, _⟩ | hk | ⟨ks, vs, rfl⟩
            · obtain ⟨d2, S4, _, e6⟩ := bnd_ok e1b
              cases e6
            · exact hk
            · obtain ⟨d2, S4, _, e6⟩ := bnd_ok e1b
              cases e6
          obtain ⟨i, kvs, rfl, hkv⟩ := href
          cases hv with
          | dref h1 =>
            rename_i ad
            obtain ⟨ks, h3, h4⟩ := hS1.dct h1 hkv
            refine ⟨ad, rfl, .inl ⟨ks, .inl h3⟩, ?_⟩
            refine Rdg.seq hr1 hS1 e1b fun d2 S3 v2 F2 mu2 H2 e2 st2 hS2 hr2 hv2 => ?_
            exact sound_update hS2 (st2.rp (.dref h1)) hv2 e2 fun v F3 mu3 H3 st3 hS3 hv3 => q v F3 mu3 H3 ((st.trans st2).trans st3) hS3 hv3
        · refine ⟨_, pe_dget1 (by have := c.room.un; omega) (hE (.Name x p)) (hE a) ⟨base_name, few1 hs, hl, by rw [star_plain hs]; rfl⟩, ?_⟩
          refine Rdg.seq hr hS e0 fun o S2 v F1 mu1 H1 e1 st hS1 hr1 hv => ?_
          obtain ⟨u, S2', ec, e1b⟩ := bnd_ok e1
          obtain ⟨rfl, hk⟩ := chk_ok ec
          rcases hk with ⟨i, xs, rfl, _⟩ | ⟨i, kvs, rfl, hkv⟩ | ⟨ks, vs, rfl⟩
          · obtain ⟨d2, S4, _, e6⟩ := bnd_ok e1b
            cases d2 <;> cases e6
          · cases hv with
            | dref h1 =>
              rename_i ad
              obtain ⟨ks, h3, h4⟩ := hS1.dct h1 hkv
              refine ⟨ad, rfl, .inl ⟨ks, .inl h3⟩, ?_⟩
              refine Rdg.seq hr1 hS1 e1b fun d2 S3 v2 F2 mu2 H2 e2 st2 hS2 hr2 hv2 => ?_
              replace e2 : get1 (.dref i) d2 S3 = .ok d S1 := e2
              cases hv2 <;> first | (exfalso; cases e2; done) | skip
              rename_i z
              have e2 : (match dctAt S3 i with | some kvs => Ev2.R.ok ((lookS kvs z).getD .non) S3 | none => Ev2.R.bad) = Ev2.R.ok d S1 := e2
              cases hd : dctAt S3 i with
              | none => rw [hd] at e2; cases e2
              | some kvs3 =>
                rw [hd] at e2
                injection e2 with e3 e4
                subst e3 e4
                cases st2.rp (K := X.K) (.dref h1) with
                | dref h5 =>
                  obtain ⟨ks3, h6, h7⟩ := hS2.dct h5 hd
                  refine ⟨_, .inl ⟨ks3, Sum.inr z, .inl h6, rfl, rfl⟩, ?_⟩
                  cases hlk : lookS kvs3 z with
                  | some d3 =>
                    obtain ⟨w, h8, h9⟩ := h7.look z hlk
                    rw [h8]
                    exact q w F2 mu2 H2 (st.trans st2) hS2 (by rw [hlk]; exact h9)
                  | none =>
                    rw [h7.lookN z hlk]
                    exact q .non F2 mu2 H2 (st.trans st2) hS2 (by rw [hlk]; exact .non)
          · cases hv with
            | dct h1 h2 =>
              rename_i ad ws
              have hRd : ∀ {H2 : Hp}, Same F1 H2 → Rd H2 ad (.dK (List.zipWith (fun (k : Str) (v : V) => ((Sum.inr k : Key), v)) ks ws)) := fun sm => h1.imp (sm _ _) fun ⟨o, z⟩ => ⟨o, sm _ _ z⟩
              refine ⟨ad, rfl, .inl ⟨_, hRd hS1.sub⟩, ?_⟩
              refine Rdg.seq hr1 hS1 e1b fun d2 S3 v2 F2 mu2 H2 e2 st2 hS2 hr2 hv2 => ?_
              replace e2 : get1 (.dct ks vs) d2 S3 = .ok d S1 := e2
              cases hv2 <;> first | (exfalso; cases e2; done) | skip
              rename_i z
              have e2 : Ev2.R.ok ((dGet ks vs z).getD .non) S3 = Ev2.R.ok d S1 := e2
              injection e2 with e3 e4
              subst e3 e4
              have hz := dget_look (ks := ks) z (st2.rps h2)
              refine ⟨_, .inl ⟨_, Sum.inr z, hRd (st2.fz.trans hS2.sub), rfl, rfl⟩, ?_⟩
              cases hlk : dGet ks vs z with
              | some d3 =>
                obtain ⟨w, h8, h9⟩ := hz.1 d3 hlk
                rw [h8]
                exact q w F2 mu2 H2 (st.trans st2) hS2 (by rw [hlk]; exact h9)
              | none =>
                rw [hz.2 hlk]
                exact q .non F2 mu2 H2 (st.trans st2) hS2 (by rw [hlk]; exact .non)
    next hv =>
      split at e0
      next hi =>
        obtain ⟨rfl, hg, ho⟩ := hi
        obtain ⟨o1, o2, o3⟩ := odd_of ho
        cases q1 : PR.consts x with
        | none => rw [q1] at e0; exact (no_bad e0).elim
        | some cv =>
          rw [q1] at e0
          cases cv <;> first | (exfalso; exact no_bad e0) | skip
          rename_i xs
          obtain ⟨u, v, h1, h2, h3⟩ := c.wld.cst x _ q1
          obtain ⟨ad, ob, g1, g2, g3, g4⟩ := c.wld.cstT x xs q1
          rw [g1] at h1
          cases h1
          have h3' : Rp X.K F mu v (.tup xs) := rp_const h3
          refine ⟨_, pe_bm PySem.F.plainAttrs_tuple PySem.F.slot_tuple_index PySem.F.type_tuple_index mt_indexT (pe_glob (gl_of c hg) g1 h2 o1) (sound_args (PR.gx k (callK PR k)) r C hE [a]) base_name (few1 hs) hl (star_plain hs) rfl, ?_⟩
          have hva : v = .ref ad := Option.some.inj (RelV.abs h2).symm
          subst hva
          refine ⟨.inr (.inl ⟨rfl, ob, g2, g3, g4⟩), ?_⟩
          refine rda1 hs hr hS e0 fun d2 S3 v2 F2 mu2 H2 e2 st2 hS2 hv2 => ?_
          have h4 := st2.rp h3'
          cases h4 with
          | tup h5 h6 => exact sound_index hS2 (sqT_mono hS2.sub h5) h6 hv2 e2 fun v F3 mu3 H3 st3 hS3 hv3 => q v F3 mu3 H3 (st2.trans st3) hS3 hv3
      next => exact (no_bad e0).elim

theorem sound_cindex (c : Ctx PR k X C) (r : Rec) (hE : ∀ e, PE X e (rdE X.K (r.E C e))) (f m : Str) (a : Expr) (p q0 ap cp : Pos) :
    PE X (.Call (.Attribute (.Call (.Name f p) [] [] q0) m ap) [a] [] cp) (rdE X.K (stepE (PR.gx k (callK PR k)) r C (.Call (.Attribute (.Call (.Name f p) [] [] q0) m ap) [a] [] cp))) := by
  refine PE.of fun σ H Q h => ?_
  obtain ⟨F, mu, ρ, S, d, S1, hr, hS, e, q⟩ := h
  have e0 : (if isStar a || !(ap.endLine == cp.line) || odd f || decide (f = "super") || !isGl C.sc f then M.bad
    else if m = "index" then (match (PR.gx k (callK PR k)).ctup f with
      | some xs => M.bnd (r.E C a ρ) fun d => indexOp xs d
      | none => M.bad) else M.bad) S = .ok d S1 := e
  split at e0
  · exact (no_bad e0).elim
  next hc =>
    simp only [Bool.or_eq_true, Bool.not_eq_true', not_or, Bool.not_eq_true, Bool.not_eq_false, decide_eq_true_eq] at hc
    obtain ⟨⟨⟨⟨hs, hl⟩, ho⟩, hf⟩, hg⟩ := hc
    obtain ⟨o1, o2, o3⟩ := odd_of ho
    split at e0
    next hm =>
      subst hm
      cases q1 : (PR.gx k (callK PR k)).ctup f with
      | none => rw [q1] at e0; exact (no_bad e0).elim
      | some xs =>
        rw [q1] at e0
        obtain ⟨⟨es, htx⟩, fa, fd, g1, g2, g3, g4⟩ := c.fns.ctup f xs q1
        -- the call, then the search
        refine ⟨_, pe_indexF (pe_g0 g4 c.room c.gd g3 pass00 (gl_of c hg) g1 g2 o1) (sound_args (PR.gx k (callK PR k)) r C hE [a]) (base_call hf) hl hs, ?_⟩
        refine ⟨rfl, fun pa ob hp hdn => ⟨⟨pa, ob, _, rfl, upd_same, hdn⟩, ?_⟩⟩
        obtain ⟨hS1, st1⟩ := hS.frzT (o := ob) (xs := xs.map textV) hp
        refine rda1 hs (hr.later st1) hS1 e0 fun d2 S3 v2 F2 mu2 H2 e2 st2 hS2 hv2 => ?_
        have hsq : SqT X.K H2 pa (xs.map textV) := sqT_mono hS2.sub (sqT_mono st2.fz (.inl (.inr ⟨ob, upd_same⟩)))
        exact sound_index hS2 hsq (texts_rps htx) hv2 e2 fun v F3 mu3 H3 st3 hS3 hv3 => q v F3 mu3 H3 ((st1.trans st2).trans st3) hS3 hv3
    next => exact (no_bad e0).elim

/-! ### errors -/
theorem dget_zip {K : PySem.W.Frag} {F : Hp} {mu : List Addr} {n : Str} : ∀ {ks : List Str} {xs : List V} {ds : List D} {d : D}, Rps K F mu xs ds → dGet ks ds n = some d → ∃ v, (ks.zip xs).lookup n = some v ∧ Rp K F mu v d
  | [], _, _, _, _, e => by cases e
  | k :: ks, _, _, d, h, e => by
    cases h with
    | nil => cases e
    | cons r t =>
      rename_i v vs d0 ds0
      have e' : (if k = n then some d0 else dGet ks ds0 n) = some d := e
      rw [List.zip_cons_cons, List.lookup_cons]
      by_cases hk : k = n
      · rw [if_pos hk] at e'
        cases e'
        have : (n == k) = true := by rw [hk]; exact beq_self_eq_true n
        rw [this]
        exact ⟨v, rfl, r⟩
      · rw [if_neg hk] at e'
        have : (n == k) = false := beq_eq_false_iff_ne.mpr (Ne.symm hk)
        rw [this]
        exact dget_zip t e'
theorem xd_sub {F H : Hp} {dx : Option Addr} {fs : List (Str × V)} (e : Same F H) (h : XD F dx fs) : XD H dx fs := xd_mono e h
/-- e.n, e a held error -/
theorem sound_attr (c : Ctx PR k X C) (r : Rec) (hE : ∀ e, PE X e (rdE X.K (r.E C e))) (a : Expr) (n : Str) (pos : Pos) : PE X (.Attribute a n pos) (rdE X.K (stepE (PR.gx k (callK PR k)) r C (.Attribute a n pos))) := by
  refine PE.of fun σ H Q h => ?_
  obtain ⟨F, mu, ρ, S, d, S1, hr, hS, e, q⟩ := h
  have e0 : (if atOk a then M.bnd (r.E C a ρ) fun d => fldOp PR.exs n d else M.bad) S = .ok d S1 := e
  split at e0
  next ha =>
    have hb : attributeBase a n X.env (eval a X.env) = eval a X.env := by
      cases a <;> first | rfl | (exfalso; cases ha; done)
    refine ⟨_, pe_xh (hE a) hb, ?_⟩
    refine Rdg.seq hr hS e0 fun x S2 v F1 mu1 H1 e1 st hS1 hr1 hv => ?_
    cases hv <;> first | (exfalso; cases e1; done) | skip
    rename_i ad Cd dx cn ks xs ds h1 h2 h3 h4
    have e2 : (match PR.exs cn with | some i => if i.fld = some n then (match dGet ks ds n with | some v => M.pu v | none => M.bad) else M.bad | none => M.bad) S2 = .ok d S1 := e1
    cases w1 : PR.exs cn with
    | none => rw [w1] at e2; exact (no_bad e2).elim
    | some i =>
      rw [w1] at e2
      simp only at e2
      split at e2
      next hf =>
        cases w2 : dGet ks ds n with
        | none => rw [w2] at e2; exact (no_bad e2).elim
        | some y =>
          rw [w2] at e2
          obtain ⟨rfl, rfl⟩ := pu_ok e2
          obtain ⟨C2, A⟩ := c.wld.exs cn i w1
          have hC := A.ns
          rw [h2] at hC
          cases hC
          obtain ⟨u, hu, ru⟩ := dget_zip h4 w2
          exact ⟨ad, Cd, dx, _, u, rfl, hS1.sub _ _ h1, xd_sub hS1.sub h3, A.xf, A.no n hf, hu, q u F1 mu1 H1 st hS1 ru⟩
      next => exact (no_bad e2).elim
  next => exact (no_bad e0).elim
/-- the reading of a made error -/
theorem err_made {K : PySem.W.Frag} {mg : Str → Option Value} {exs : Str → Option ExI} {F H : Hp} {mu : List Addr} {S : Store} {x n : Str} {i : ExI} {Cd a dx : Addr} {v : V} {d : D} {Q : VK} (A : ExAt K mg exs x i Cd) (hS : Sr K F mu S H) (hv : Rp K F mu v d) (hd : H dx = none) (ha : upd H dx (.xd [(n, v)]) a = none)
    (q : ∀ v F1 mu1 H1, Stp F mu H F1 mu1 H1 → Sr K F1 mu1 S H1 → Rp K F1 mu1 v (.err x [n] [d]) → Q v H1) : Q (.ref a) (upd (upd H dx (.xd [(n, v)])) a (XO (.ref Cd) (some dx) a)) := by
  obtain ⟨r1, s1⟩ := hS.frz (o := .xd [(n, v)]) hd
  obtain ⟨r2, s2⟩ := r1.frz (o := XO (.ref Cd) (some dx) a) ha
  refine q _ _ _ _ (s1.trans s2) r2 (.err (dx := some dx) (xs := [v]) upd_same A.ns ?_ (.cons (s2.rp (s1.rp hv)) .nil))
  have hne : dx ≠ a := fun e => by
    rw [← e, upd_same] at ha
    cases ha
  show upd (upd F dx (.xd [(n, v)])) a (XO (.ref Cd) (some dx) a) dx = some (.xd [(n, v)])
  rw [upd_ne hne, upd_same]
theorem sound_xt (c : Ctx PR k X C) (r : Rec) (hE : ∀ e, PE X e (rdE X.K (r.E C e))) (f : Str) (as : List Expr) (ks : List Keyword) (p pos : Pos) (t : Xt) (ht : xtOf PR.exs f as ks = some t) :
    PE X (.Call (.Name f p) as ks pos) (rdE X.K fun ρ => evXt (PR.gx k (callK PR k)) r C ρ t) := by
  refine PE.of fun σ H Q h => ?_
  obtain ⟨F, mu, ρ, S, d, S1, hr, hS, e, q⟩ := h
  unfold xtOf at ht
  cases w1 : PR.exs f with
  | some i =>
    rw [w1] at ht
    simp only at ht
    obtain ⟨Cd, A⟩ := c.wld.exs f i w1
    have mk := A.mks
    unfold ExMk at mk
    split at ht
    next hf =>
      split at ht
      next hm =>
        cases ht
        rw [hf] at mk
        obtain ⟨m1, m2, m3, m4⟩ := mk hm
        have e0 : (if isGl C.sc f && !odd f then M.pu (D.err f [] []) else M.bad) S = .ok d S1 := e
        split at e0
        next hc =>
          simp only [Bool.and_eq_true, Bool.not_eq_true'] at hc
          obtain ⟨rfl, rfl⟩ := pu_ok e0
          obtain ⟨o1, o2, o3⟩ := odd_of hc.2
          refine ⟨_, pe_held (pmk_none PySem.F.excBase_ValueError m1 A.at_ m2 (raises_own m3 m4) (gl_of c hc.1) o1), ?_⟩
          intro a ha
          obtain ⟨r2, s2⟩ := hS.frz (o := XO (.ref Cd) none a) ha
          exact q _ _ _ _ s2 r2 (.err (dx := none) (xs := []) upd_same A.ns rfl .nil)
        next => exact (no_bad e0).elim
      next => cases ht
    next e1 n hf =>
      split at ht
      · cases ht
      next hm =>
        cases ht
        simp only [Bool.or_eq_true, Bool.not_eq_true', not_or, Bool.not_eq_true, Bool.not_eq_false] at hm
        rw [hf] at mk
        obtain ⟨fI, fd, T⟩ := mk hm.2
        have e0 : (if isGl C.sc f && !odd f then M.bnd (r.E C e1 ρ) (fun d => M.pu (D.err f [n] [d])) else M.bad) S = .ok d S1 := e
        split at e0
        next hc =>
          simp only [Bool.and_eq_true, Bool.not_eq_true'] at hc
          obtain ⟨o1, o2, o3⟩ := odd_of hc.2
          refine ⟨_, pe_held (pmk_err T (c.room) (gl_of c hc.1) A.at_ (sound_args (PR.gx k (callK PR k)) r C hE [e1]) o1 (star_plain hm.1)), ?_⟩
          refine rda1 hm.1 hr hS e0 fun d2 S3 v2 F2 mu2 H2 e2 st2 hS2 hv2 => ?_
          obtain ⟨rfl, rfl⟩ := pu_ok e2
          refine mk_wish (C := Cd) (y := v2) (H1 := H2) (Q := fun cls d H1 => ∀ a, H1 a = none → Q (.ref a) (upd H1 a (XO cls d a))) rfl fun dx hdx => ?_
          intro a ha
          exact err_made A hS2 hv2 hdx ha fun v F3 mu3 H3 st3 hS3 hv3 => q v F3 mu3 H3 (st2.trans st3) hS3 hv3
        next => exact (no_bad e0).elim
    next kn e1 kp n hf =>
      split at ht
      next hm =>
        obtain ⟨rfl, hm⟩ := hm
        cases ht
        rw [hf] at mk
        obtain ⟨fI, fd, T⟩ := mk hm
        have e0 : (if isGl C.sc f && !odd f then M.bnd (r.E C e1 ρ) (fun d => M.pu (D.err f [kn] [d])) else M.bad) S = .ok d S1 := e
        split at e0
        next hc =>
          simp only [Bool.and_eq_true, Bool.not_eq_true'] at hc
          obtain ⟨o1, o2, o3⟩ := odd_of hc.2
          refine ⟨_, pe_held (pmk_errK T (c.room) (gl_of c hc.1) A.at_ (sound_kw (PR.gx k (callK PR k)) r C hE [⟨some kn, e1, kp⟩]) o1 rfl rfl rfl), ?_⟩
          obtain ⟨d2, S3, e2, e3⟩ := bnd_ok e0
          obtain ⟨rfl, rfl⟩ := pu_ok e3
          refine ⟨F, mu, ρ, S, [d2], S1, hr, hS, ?_, fun vs F2 mu2 H2 st2 hS2 hvs => ?_⟩
          · show M.bnd (M.bnd (r.E C e1 ρ) fun d => M.bnd (evKw (PR.gx k (callK PR k)) r C ρ []) fun ds => M.pu ((kn, d) :: ds)) (fun kv => M.pu (kv.map (·.2))) S = _
            unfold M.bnd
            rw [e2]
            rfl
          · obtain ⟨v2, rfl, hv2⟩ := rps1 hvs
            refine mk_wish (C := Cd) (y := v2) (H1 := H2) (Q := fun cls d H1 => ∀ a, H1 a = none → Q (.ref a) (upd H1 a (XO cls d a))) rfl fun dx hdx => ?_
            intro a ha
            exact err_made A hS2 hv2 hdx ha fun v F3 mu3 H3 st3 hS3 hv3 => q v F3 mu3 H3 (st2.trans st3) hS3 hv3
        next => exact (no_bad e0).elim
      next => cases ht
    next => cases ht
  | none =>
    rw [w1] at ht
    simp only at ht
    split at ht
    next hf =>
      subst hf
      split at ht
      next e1 x px =>
        split at ht
        next hm =>
          cases ht
          simp only [Bool.and_eq_true, Bool.or_eq_true, Bool.not_eq_true', decide_eq_true_eq] at hm
          have e0 : (if isGl C.sc "isinstance" && PR.blt "isinstance" && isGl C.sc x && !odd x && ((PR.exs x).isSome || PR.blt x) then M.bnd (r.E C e1 ρ) (fun d => isX PR.exs x d) else M.bad) S = .ok d S1 := e
          split at e0
          next hc =>
            simp only [Bool.and_eq_true, Bool.or_eq_true, Bool.not_eq_true'] at hc
            obtain ⟨⟨⟨⟨g1, g2⟩, g3⟩, g4⟩, g5⟩ := hc
            obtain ⟨o1, o2, o3⟩ := odd_of g4
            obtain ⟨d2, S3, e2, e3⟩ := bnd_ok e0
            -- the class that is asked for
            have cls : ∃ (cv : V) (u : Value) (tc : TE), PE X (.Name x px) tc ∧ (∀ σ H Q, Q cv H → tc σ H Q) ∧ (∀ z, RelV cv z → z = u) ∧ ∀ cn i Cd, PR.exs cn = some i → ExAt X.K X.mg PR.exs cn i Cd → PySem.W.kitOne X.K (.ref Cd) u = some (i.sup.contains x || decide (x = "ValueError")) := by
              cases w2 : PR.exs x with
              | some j =>
                obtain ⟨C2, A2⟩ := c.wld.exs x j w2
                refine ⟨.ref C2, .ref C2, _, pe_glob (v := .ref C2) (gl_of c g3) A2.at_ rfl o1, fun σ H Q h => h, fun z h => h, fun cn i Cd hi A => ?_⟩
                obtain ⟨D2, hD, hk, _⟩ := A.is x j w2
                rw [A2.at_] at hD
                cases hD
                rw [hk, decide_eq_false A2.nv, Bool.or_false]
              | none =>
                rw [w2] at hm g5
                have hx : x = "ValueError" := by simpa using hm.1
                have hb : PR.blt x = true := by simpa using g5
                refine ⟨.ty "ValueError", .type "ValueError", _, pe_bltn (v := .ty "ValueError") (gl_of c g3) (c.wld.blt x hb) (by rw [hx]; decide +kernel) rfl o3 o1, fun σ H Q h => h, fun z h => h, fun cn i Cd hi A => ?_⟩
                rw [A.isv, hx, decide_eq_true rfl, Bool.or_true]
            obtain ⟨cv, u, tc, hp, htc, hu, hk⟩ := cls
            have hst : starEach [e1, .Name x px] X.env = [(false, eval e1 X.env), (false, eval (.Name x px) X.env)] := by
              rw [star_plain hm.2]
              rfl
            refine ⟨_, pe_callB (cr_isX) (gl_of c g1) (c.wld.blt _ g2) (by decide +kernel) (pa_cons (hE e1) (pa_cons hp pa_nil rfl) (star_plain hm.2)) (by decide +kernel) (by decide +kernel) (star_plain hm.2) (backTo_any (by rfl)), ?_⟩
            refine ⟨F, mu, ρ, S, d2, S3, hr, hS, e2, fun v F1 mu1 H1 st hS1 hv => htc _ _ _ ?_⟩
            cases hv <;> first | (exfalso; cases e3; done) | skip
            rename_i ad Cd dx cn kz xs ds h1 h2 h3 h4
            have e4 : (match PR.exs cn with | some i => M.pu (D.bl (i.sup.contains x || decide (x = "ValueError"))) | none => M.bad) S3 = .ok d S1 := e3
            cases w3 : PR.exs cn with
            | none => rw [w3] at e4; exact (no_bad e4).elim
            | some i =>
              rw [w3] at e4
              obtain ⟨rfl, rfl⟩ := pu_ok e4
              obtain ⟨C3, A3⟩ := c.wld.exs cn i w3
              have hC := A3.ns
              rw [h2] at hC
              cases hC
              exact ⟨ad, Cd, dx, _, cv, u, _, rfl, hS1.sub _ _ h1, xd_sub hS1.sub h3, A3.xc, hu, hk cn i Cd w3 A3, q _ F1 mu1 H1 st hS1 (.bl _)⟩
          next => exact (no_bad e0).elim
        next => cases ht
      next => cases ht
    next => cases ht
end
end Ev2
/-! E8: all expressions, all statements. -/
namespace Ev2
open PySem L2 PyProof.Rows

section
theorem room65 {k : Nat} {A : Around} (r : Room k A) : A.units + 65 < cLine := by have := r.un; omega
variable {PR : Prg} {k : Nat} {X : Cx} {C : Cxt}

theorem pe_bad {e : Expr} {m : Ev2.Env → M D} (h : ∀ ρ, m ρ = M.bad) : PE X e (rdE X.K m) := PE.none fun σ H Q hh => by
  obtain ⟨F, mu, ρ, S, d, S1, hr, hS, e, q⟩ := hh
  rw [h ρ] at e
  exact no_bad e
theorem pt_bad {e : Expr} {m : Ev2.Env → M Bool} (h : ∀ ρ, m ρ = M.bad) : PT X e (rdT X.K m) := PT.none fun σ H Q hh => by
  obtain ⟨F, mu, ρ, S, d, S1, hr, hS, e, q⟩ := hh
  rw [h ρ] at e
  exact no_bad e

theorem pe_const {e : Expr} {v : V} {d : D} (h : PE X e (tC v)) (r : ∀ F mu, Rp X.K F mu v d) : PE X e (rdE X.K fun _ => M.pu d) := by
  refine PE.imp h fun σ H Q hh => ?_
  obtain ⟨F, mu, ρ, S, d', S1, hr, hS, e, q⟩ := hh
  exact rdE_pu hS e q (r F mu)

theorem trM_ok {x : D} {b : Bool} {S S1 : Store} (h : trM x S = .ok b S1) : truth S x = some b ∧ S1 = S := by
  unfold trM at h
  cases q : truth S x with
  | none => rw [q] at h; cases h
  | some k => rw [q] at h; cases h; exact ⟨rfl, rfl⟩
theorem asB_ok {x : D} {b : Bool} {S S1 : Store} (h : asB x S = .ok b S1) : x = .bl b ∧ S1 = S := by
  cases x <;> first | (exfalso; cases h; done) | skip
  obtain ⟨rfl, rfl⟩ := pu_ok h
  exact ⟨rfl, rfl⟩

variable (hE : ∀ (X : Cx) (C : Cxt), Ctx PR k X C → ∀ e, PE X e (rdE X.K ((ev (PR.gx k (callK PR k)) n).E C e)))
variable (hT : ∀ (X : Cx) (C : Cxt), Ctx PR k X C → ∀ e, PT X e (rdT X.K ((ev (PR.gx k (callK PR k)) n).T C e)))

theorem sound_binE {n : Nat} (c : Ctx PR k X C) (r : Rec) (hE : ∀ e, PE X e (rdE X.K (r.E C e))) (a b : Expr) (op : Operator) (pos : Pos) : PE X (.BinOp a op b pos) (rdE X.K (stepE (PR.gx k (callK PR k)) r C (.BinOp a op b pos))) := by
  refine PE.imp (pe_op (sound_bin ((PR.gx k (callK PR k)).mu pos) op) (hE a) (hE b)) fun σ H Q h => ?_
  obtain ⟨F, mu, ρ, S, d, S1, hr, hS, e, q⟩ := h
  refine Rdg.seq hr hS (show M.bnd (r.E C a ρ) (fun x => M.bnd (r.E C b ρ) fun y => binOp ((PR.gx k (callK PR k)).mu pos) op x y) S = _ from e) fun x S2 v F1 mu1 H1 e1 st1 hS1 hr1 hv => ?_
  refine Rdg.seq hr1 hS1 e1 fun y S3 u F2 mu2 H2 e2 st2 hS2 hr2 hu => ?_
  exact ⟨F2, mu2, S3, x, y, d, S1, hS2, st2.rp hv, hu, e2, fun v F3 mu3 H3 st3 hS3 hv3 => q v F3 mu3 H3 ((st1.trans st2).trans st3) hS3 hv3⟩

theorem sound_andor (c : Ctx PR k X C) (r : Rec) (hE : ∀ e, PE X e (rdE X.K (r.E C e))) (op : BoolOp) (a b : Expr) (es : List Expr) (pos : Pos) : PE X (.BoolOp op (a :: b :: es) pos) (rdE X.K (stepE (PR.gx k (callK PR k)) r C (.BoolOp op (a :: b :: es) pos))) := by
  cases op with
  | And =>
    refine PE.imp (pe_andT (hE a) (hE (.BoolOp .And (b :: es) pos))) fun σ H Q h => ?_
    obtain ⟨F, mu, ρ, S, d, S1, hr, hS, e, q⟩ := h
    refine Rdg.seq hr hS (show M.bnd (r.E C a ρ) (fun x => M.bnd (trM x) fun k => if k then r.E C (.BoolOp .And (b :: es) pos) ρ else M.pu x) S = _ from e) fun x S2 v F1 mu1 H1 e1 st1 hS1 hr1 hv => ?_
    obtain ⟨kk, S3, e2, e3⟩ := bnd_ok e1
    obtain ⟨ht, rfl⟩ := trM_ok e2
    refine ⟨kk, hS1.truth hv ht, ?_⟩
    cases kk with
    | true =>
      rw [if_pos rfl] at e3 ⊢
      exact ⟨F1, mu1, ρ, _, d, S1, hr1, hS1, e3, fun v F3 mu3 H3 st3 hS3 hv3 => q v F3 mu3 H3 (st1.trans st3) hS3 hv3⟩
    | false =>
      rw [if_neg Bool.false_ne_true] at e3 ⊢
      obtain ⟨rfl, rfl⟩ := pu_ok e3
      exact q v F1 mu1 H1 st1 hS1 hv
  | Or =>
    refine PE.imp (pe_orT (hE a) (hE (.BoolOp .Or (b :: es) pos))) fun σ H Q h => ?_
    obtain ⟨F, mu, ρ, S, d, S1, hr, hS, e, q⟩ := h
    refine Rdg.seq hr hS (show M.bnd (r.E C a ρ) (fun x => M.bnd (trM x) fun k => if k then M.pu x else r.E C (.BoolOp .Or (b :: es) pos) ρ) S = _ from e) fun x S2 v F1 mu1 H1 e1 st1 hS1 hr1 hv => ?_
    obtain ⟨kk, S3, e2, e3⟩ := bnd_ok e1
    obtain ⟨ht, rfl⟩ := trM_ok e2
    refine ⟨kk, hS1.truth hv ht, ?_⟩
    cases kk with
    | false =>
      rw [if_neg Bool.false_ne_true] at e3 ⊢
      exact ⟨F1, mu1, ρ, _, d, S1, hr1, hS1, e3, fun v F3 mu3 H3 st3 hS3 hv3 => q v F3 mu3 H3 (st1.trans st3) hS3 hv3⟩
    | true =>
      rw [if_pos rfl] at e3 ⊢
      obtain ⟨rfl, rfl⟩ := pu_ok e3
      exact q v F1 mu1 H1 st1 hS1 hv

theorem kd_of (c : Ctx PR k X C) {b : Expr} {kv : List Str × List D} (h : kdOf (PR.gx k (callK PR k)) C b = some kv) : ∃ x p, b = .Name x p ∧ isGl C.sc x = true ∧ odd x = false ∧ KdAt X.w X.K X.mg x kv.1 kv.2 := by
  cases b <;> first | (exfalso; cases h; done) | skip
  rename_i x p
  have h : (if isGl C.sc x && !odd x then PR.kds x else none) = some kv := h
  split at h
  next hc =>
    rw [Bool.and_eq_true, Bool.not_eq_true'] at hc
    exact ⟨x, p, rfl, hc.1, hc.2, c.wld.kd x kv.1 kv.2 h⟩
  next => cases h
theorem sound_cmpE (c : Ctx PR k X C) (r : Rec) (hE : ∀ e, PE X e (rdE X.K (r.E C e))) (a b : Expr) (op : CmpOp) (pos : Pos) : PE X (.Compare a [op] [b] pos) (rdE X.K (stepE (PR.gx k (callK PR k)) r C (.Compare a [op] [b] pos))) := by
  refine PE.of fun σ H Q h => ?_
  obtain ⟨F, mu, ρ, S, d, S1, hr, hS, e, q⟩ := h
  have e0 : (if behindInMarks op b then M.bad else cmpE (PR.gx k (callK PR k)) r C a op b ρ) S = .ok d S1 := e
  split at e0
  · exact (no_bad e0).elim
  next hb =>
    unfold cmpE at e0
    cases hkd : kdOf (PR.gx k (callK PR k)) C b with
    | some kv =>
      rw [hkd] at e0
      obtain ⟨x, p, rfl, hg, ho, ad, es, n, h1, h2, h3⟩ := kd_of c hkd
      have o1 := (odd_of ho).1
      obtain ⟨y, S2, e1, e2⟩ := bnd_ok e0
      cases op <;> first | (exfalso; cases y <;> cases e2; done) | skip
      · refine ⟨_, pe_cmpR (op_in_kd h2) (hE a) (pe_glob (v := .ref ad) (gl_of c hg) h1 rfl o1) (by simpa using hb), ?_⟩
        refine Rdg.seq hr hS e0 fun y S2 v F1 mu1 H1 e1 st1 hS1 hr1 hv => ?_
        cases hv <;> first | (exfalso; cases e1; done) | skip
        rename_i z
        obtain ⟨rfl, rfl⟩ := pu_ok (show M.pu (D.bl (kv.1.contains z)) S2 = _ from e1)
        obtain ⟨r0, g1, g2, g3⟩ := h3 z
        refine ⟨z, r0, rfl, rfl, g1, ?_⟩
        rw [g2]
        exact q _ F1 mu1 H1 st1 hS1 (.bl _)
      · refine ⟨_, pe_cmpR (op_notIn_kd h2) (hE a) (pe_glob (v := .ref ad) (gl_of c hg) h1 rfl o1) (by simpa using hb), ?_⟩
        refine Rdg.seq hr hS e0 fun y S2 v F1 mu1 H1 e1 st1 hS1 hr1 hv => ?_
        cases hv <;> first | (exfalso; cases e1; done) | skip
        rename_i z
        obtain ⟨rfl, rfl⟩ := pu_ok (show M.pu (D.bl (!kv.1.contains z)) S2 = _ from e1)
        obtain ⟨r0, g1, g2, g3⟩ := h3 z
        refine ⟨z, r0, rfl, rfl, g1, ?_⟩
        rw [g2]
        exact q _ F1 mu1 H1 st1 hS1 (.bl _)
    | none =>
    rw [hkd] at e0
    refine ⟨_, pe_cmpR (sound_cmp (room65 c.room) op) (hE a) (hE b) (by simpa using hb), ?_⟩
    refine Rdg.seq hr hS e0 fun x S2 v F1 mu1 H1 e1 st1 hS1 hr1 hv => ?_
    refine Rdg.seq hr1 hS1 e1 fun y S3 u F2 mu2 H2 e2 st2 hS2 hr2 hu => ?_
    exact ⟨F2, mu2, S3, x, y, d, S1, hS2, st2.rp hv, hu, e2, fun v F3 mu3 H3 st3 hS3 hv3 => q v F3 mu3 H3 ((st1.trans st2).trans st3) hS3 hv3⟩

theorem sound_cmpT (c : Ctx PR k X C) (r : Rec) (hE : ∀ e, PE X e (rdE X.K (r.E C e))) (a b : Expr) (op : CmpOp) (pos : Pos) : PT X (.Compare a [op] [b] pos) (rdT X.K (stepT (PR.gx k (callK PR k)) r C (.Compare a [op] [b] pos))) := by
  refine PT.of fun σ H Q h => ?_
  obtain ⟨F, mu, ρ, S, d, S1, hr, hS, e, q⟩ := h
  have e0 : (if behindInMarks op b then M.bad else cmpT (PR.gx k (callK PR k)) r C a op b ρ) S = .ok d S1 := e
  split at e0
  · exact (no_bad e0).elim
  next hb =>
    unfold cmpT at e0
    cases hkd : kdOf (PR.gx k (callK PR k)) C b with
    | some kv =>
      rw [hkd] at e0
      obtain ⟨x, p, rfl, hg, ho, ad, es, n, h1, h2, h3⟩ := kd_of c hkd
      have o1 := (odd_of ho).1
      obtain ⟨y, S2, e1, e2⟩ := bnd_ok e0
      cases op <;> first | (exfalso; cases y <;> cases e2; done) | skip
      · refine ⟨_, pt_cmpR (op_in_kd h2) (hE a) (pe_glob (v := .ref ad) (gl_of c hg) h1 rfl o1) (by simpa using hb), ?_⟩
        refine Rdg.seq hr hS e0 fun y S2 v F1 mu1 H1 e1 st1 hS1 hr1 hv => ?_
        cases hv <;> first | (exfalso; cases e1; done) | skip
        rename_i z
        obtain ⟨rfl, rfl⟩ := pu_ok (show M.pu (kv.1.contains z) S2 = _ from e1)
        obtain ⟨r0, g1, g2, g3⟩ := h3 z
        refine ⟨z, r0, rfl, rfl, g1, ?_⟩
        rw [g2]
        exact ⟨_, rfl, q _ F1 mu1 H1 st1 hS1 rfl⟩
      · refine ⟨_, pt_cmpR (op_notIn_kd h2) (hE a) (pe_glob (v := .ref ad) (gl_of c hg) h1 rfl o1) (by simpa using hb), ?_⟩
        refine Rdg.seq hr hS e0 fun y S2 v F1 mu1 H1 e1 st1 hS1 hr1 hv => ?_
        cases hv <;> first | (exfalso; cases e1; done) | skip
        rename_i z
        obtain ⟨rfl, rfl⟩ := pu_ok (show M.pu (!kv.1.contains z) S2 = _ from e1)
        obtain ⟨r0, g1, g2, g3⟩ := h3 z
        refine ⟨z, r0, rfl, rfl, g1, ?_⟩
        rw [g2]
        exact ⟨_, rfl, q _ F1 mu1 H1 st1 hS1 rfl⟩
    | none =>
    rw [hkd] at e0
    refine ⟨_, pt_cmpR (sound_cmp (room65 c.room) op) (hE a) (hE b) (by simpa using hb), ?_⟩
    refine Rdg.seq hr hS e0 fun x S2 v F1 mu1 H1 e1 st1 hS1 hr1 hv => ?_
    refine Rdg.seq hr1 hS1 e1 fun y S3 u F2 mu2 H2 e2 st2 hS2 hr2 hu => ?_
    obtain ⟨z, S4, e3, e4⟩ := bnd_ok e2
    obtain ⟨rfl, rfl⟩ := asB_ok e4
    refine ⟨F2, mu2, S3, x, y, _, _, hS2, st2.rp hv, hu, e3, fun v F3 mu3 H3 st3 hS3 hv3 => ?_⟩
    cases hv3
    exact ⟨_, rfl, q _ F3 mu3 H3 ((st1.trans st2).trans st3) hS3 rfl⟩

theorem sound_chainE (c : Ctx PR k X C) (r : Rec) (hE : ∀ e, PE X e (rdE X.K (r.E C e))) (a b b2 : Expr) (op op2 : CmpOp) (pos : Pos) : PE X (.Compare a [op, op2] [b, b2] pos) (rdE X.K (stepE (PR.gx k (callK PR k)) r C (.Compare a [op, op2] [b, b2] pos))) := by
  refine PE.of fun σ H Q h => ?_
  obtain ⟨F, mu, ρ, S, d, S1, hr, hS, e, q⟩ := h
  have e0 : (if behindInMarks op b || behindInMarks op2 b2 then M.bad else M.bnd (r.E C a ρ) fun x => M.bnd (r.E C b ρ) fun y => M.bnd (M.bnd (cmpOp op x y) asB) fun k =>
      if k then M.bnd (r.E C b2 ρ) fun z => cmpOp op2 y z else M.pu (.bl false)) S = .ok d S1 := e
  split at e0
  · exact (no_bad e0).elim
  next hb =>
    simp only [Bool.or_eq_true, not_or, Bool.not_eq_true] at hb
    refine ⟨_, pe_chain (sound_cmp (room65 c.room) op) (sound_cmp (room65 c.room) op2) (hE a) (hE b) (hE b2) hb.2, ?_⟩
    refine Rdg.seq hr hS e0 fun x S2 v F1 mu1 H1 e1 st1 hS1 hr1 hv => ?_
    refine Rdg.seq hr1 hS1 e1 fun y S3 u F2 mu2 H2 e2 st2 hS2 hr2 hu => ?_
    obtain ⟨kk, S5, e3, e5⟩ := bnd_ok e2
    obtain ⟨z, S4, e3, e4⟩ := bnd_ok e3
    obtain ⟨rfl, rfl⟩ := asB_ok e4
    refine ⟨F2, mu2, S3, x, y, _, _, hS2, st2.rp hv, hu, e3, fun v F3 mu3 H3 st3 hS3 hv3 => ?_⟩
    cases hv3
    refine ⟨kk, rfl, ?_⟩
    cases kk with
    | true =>
      rw [if_pos rfl] at e5 ⊢
      refine Rdg.seq (hr2.later st3) hS3 e5 fun z S6 w F4 mu4 H4 e6 st4 hS4 hr4 hw => ?_
      exact ⟨F4, mu4, S6, y, z, d, S1, hS4, st4.rp (st3.rp hu), hw, e6, fun v F5 mu5 H5 st5 hS5 hv5 => q v F5 mu5 H5 ((((st1.trans st2).trans st3).trans st4).trans st5) hS5 hv5⟩
    | false =>
      rw [if_neg Bool.false_ne_true] at e5 ⊢
      obtain ⟨rfl, rfl⟩ := pu_ok e5
      exact q _ F3 mu3 H3 ((st1.trans st2).trans st3) hS3 (.bl _)
theorem sound_chainT (c : Ctx PR k X C) (r : Rec) (hE : ∀ e, PE X e (rdE X.K (r.E C e))) (a b b2 : Expr) (op op2 : CmpOp) (pos : Pos) : PT X (.Compare a [op, op2] [b, b2] pos) (rdT X.K (stepT (PR.gx k (callK PR k)) r C (.Compare a [op, op2] [b, b2] pos))) := by
  refine PT.of fun σ H Q h => ?_
  obtain ⟨F, mu, ρ, S, d, S1, hr, hS, e, q⟩ := h
  have e0 : (if behindInMarks op b || behindInMarks op2 b2 then M.bad else M.bnd (r.E C a ρ) fun x => M.bnd (r.E C b ρ) fun y => M.bnd (M.bnd (cmpOp op x y) asB) fun k =>
      if k then M.bnd (r.E C b2 ρ) fun z => M.bnd (cmpOp op2 y z) asB else M.pu false) S = .ok d S1 := e
  split at e0
  · exact (no_bad e0).elim
  next hb =>
    simp only [Bool.or_eq_true, not_or, Bool.not_eq_true] at hb
    refine ⟨_, pt_chain (sound_cmp (room65 c.room) op) (sound_cmp (room65 c.room) op2) (hE a) (hE b) (hE b2) hb.2, ?_⟩
    refine Rdg.seq hr hS e0 fun x S2 v F1 mu1 H1 e1 st1 hS1 hr1 hv => ?_
    refine Rdg.seq hr1 hS1 e1 fun y S3 u F2 mu2 H2 e2 st2 hS2 hr2 hu => ?_
    obtain ⟨kk, S5, e3, e5⟩ := bnd_ok e2
    obtain ⟨z, S4, e3, e4⟩ := bnd_ok e3
    obtain ⟨rfl, rfl⟩ := asB_ok e4
    refine ⟨F2, mu2, S3, x, y, _, _, hS2, st2.rp hv, hu, e3, fun v F3 mu3 H3 st3 hS3 hv3 => ?_⟩
    cases hv3
    refine ⟨kk, rfl, ?_⟩
    cases kk with
    | true =>
      rw [if_pos rfl] at e5 ⊢
      refine Rdg.seq (hr2.later st3) hS3 e5 fun z S6 w F4 mu4 H4 e6 st4 hS4 hr4 hw => ?_
      obtain ⟨zz, S7, e7, e8⟩ := bnd_ok e6
      obtain ⟨rfl, rfl⟩ := asB_ok e8
      refine ⟨F4, mu4, S6, y, z, _, _, hS4, st4.rp (st3.rp hu), hw, e7, fun v F5 mu5 H5 st5 hS5 hv5 => ?_⟩
      cases hv5
      exact ⟨_, rfl, q _ F5 mu5 H5 ((((st1.trans st2).trans st3).trans st4).trans st5) hS5 rfl⟩
    | false =>
      rw [if_neg Bool.false_ne_true] at e5 ⊢
      obtain ⟨rfl, rfl⟩ := pu_ok e5
      exact ⟨_, rfl, q _ F3 mu3 H3 ((st1.trans st2).trans st3) hS3 rfl⟩

theorem plain_ix {b : Expr} (h : plainIx b = true) : PlainIx b := by
  intro o i
  cases b <;> first | rfl | (simp [plainIx] at h; done)

theorem dGet_rps : ∀ {K : PySem.W.Frag} {F : Hp} {mu : List Addr} {xs : List V} {ds : List D} {ks : List Str} {x : Str} {d : D}, Rps K F mu xs ds → dGet ks ds x = some d →
    ∃ v, valV (List.zipWith (fun (k : Str) (v : V) => ((Sum.inr k : Key), v)) ks xs) (Sum.inr x) = some v ∧ Rp K F mu v d
  | _, _, _, _, _, [], x, d, _, e => by simp [dGet] at e
  | _, _, _, _, _, k :: ks, x, d, .nil, e => by simp [dGet] at e
  | _, _, _, _, _, k :: ks, x, d, .cons (v := v) h t, e => by
    simp only [dGet] at e
    by_cases hk : k = x
    · rw [if_pos hk] at e
      cases e
      exact ⟨v, by simp only [List.zipWith_cons_cons]; rw [valV_pos (by rw [hk])], h⟩
    · rw [if_neg hk] at e
      obtain ⟨u, h1, h2⟩ := dGet_rps t e
      refine ⟨u, ?_, h2⟩
      simp only [List.zipWith_cons_cons]
      unfold valV at h1 ⊢
      rw [List.find?_cons_of_neg (by simp; exact hk)]
      exact h1

theorem sound_ixE (c : Ctx PR k X C) (r : Rec) (hE : ∀ e, PE X e (rdE X.K (r.E C e))) (a b : Expr) (pos : Pos) (hb : plainIx b = true) : PE X (.Subscript a b pos) (rdE X.K (stepE (PR.gx k (callK PR k)) r C (.Subscript a b pos))) := by
  refine PE.of fun σ H Q h => ?_
  obtain ⟨F, mu, ρ, S, d, S1, hr, hS, e, q⟩ := h
  have e00 : ixE (PR.gx k (callK PR k)) r C a b ρ S = .ok d S1 := by
    cases b <;> first | exact e | (exfalso; simp [plainIx] at hb; done)
  unfold ixE at e00
  cases hkd : kdOf (PR.gx k (callK PR k)) C a with
  | some kv =>
    rw [hkd] at e00
    obtain ⟨x, p, rfl, hg, ho, ad, es, n, h1, h2, h3⟩ := kd_of c hkd
    have o1 := (odd_of ho).1
    refine ⟨_, pe_ix ix_kdict (pe_glob (v := .ref ad) (gl_of c hg) h1 rfl o1) (hE b) (plain_ix hb), ?_⟩
    refine Rdg.seq hr hS e00 fun y S2 v F1 mu1 H1 e1 st1 hS1 hr1 hv => ?_
    cases hv <;> first | (exfalso; cases e1; done) | skip
    rename_i z
    have e1 : (match dGet kv.1 kv.2 z with | some d => M.pu d | none => M.bad) S2 = .ok d S1 := e1
    cases hd : dGet kv.1 kv.2 z with
    | none => rw [hd] at e1; exact (no_bad e1).elim
    | some d2 =>
      rw [hd] at e1
      obtain ⟨rfl, rfl⟩ := pu_ok e1
      obtain ⟨r0, g1, g2, g3⟩ := h3 z
      obtain ⟨u, v, rfl, g4, g5⟩ := g3 _ hd
      exact ⟨ad, z, v, rfl, rfl, ⟨es, n, u, h2.at_, h2.lit, g1, g4⟩, q v F1 mu1 H1 st1 hS1 (rp_const g5)⟩
  | none =>
  rw [hkd] at e00
  have e0 : M.bnd (r.E C a ρ) (fun x => M.bnd (r.E C b ρ) fun y => ixD x y) S = .ok d S1 := e00
  obtain ⟨x0, S0, ea, eb⟩ := bnd_ok e0
  by_cases isD : ∃ ks vs, x0 = .dct ks vs
  · obtain ⟨ks, vs, rfl⟩ := isD
    refine ⟨_, pe_dget (by have := c.room.un; omega) (hE a) (hE b) (plain_ix hb), ?_⟩
    refine ⟨F, mu, ρ, S, _, _, hr, hS, ea, fun v F1 mu1 H1 st1 hS1 hv => ?_⟩
    refine Rdg.seq (hr.later st1) hS1 eb fun y S3 u F2 mu2 H2 e2 st2 hS2 hr2 hu => ?_
    cases y <;> first | (exfalso; cases e2; done) | skip
    rename_i z
    have e2 : (match dGet ks vs z with | some d => M.pu d | none => M.bad) S3 = .ok d S1 := e2
    cases hd : dGet ks vs z with
    | none => rw [hd] at e2; exact (no_bad e2).elim
    | some d2 =>
      rw [hd] at e2
      obtain ⟨rfl, rfl⟩ := pu_ok e2
      cases hu
      cases st2.rp hv with
      | dct h1 h2 =>
        obtain ⟨w, h3, h4⟩ := dGet_rps h2 hd
        refine ⟨_, w, rfl, .inl ⟨_, Sum.inr z, h1.imp (hS2.sub _ _) fun ⟨o, t⟩ => ⟨o, hS2.sub _ _ t⟩, rfl, h3.symm⟩, ?_⟩
        exact q w F2 mu2 H2 (st1.trans st2) hS2 h4
  by_cases isR : ∃ i, x0 = .dref i
  · obtain ⟨i, rfl⟩ := isR
    refine ⟨_, pe_dget (by have := c.room.un; omega) (hE a) (hE b) (plain_ix hb), ?_⟩
    refine ⟨F, mu, ρ, S, _, _, hr, hS, ea, fun v F1 mu1 H1 st1 hS1 hv => ?_⟩
    refine Rdg.seq (hr.later st1) hS1 eb fun y S3 u F2 mu2 H2 e2 st2 hS2 hr2 hu => ?_
    replace e2 : drefIx i y S3 = .ok d S1 := e2
    unfold drefIx at e2
    cases hu <;> first | (exfalso; cases e2; done) | skip
    rename_i z
    simp only at e2
    cases hd : dctAt S3 i with
    | none => rw [hd] at e2; cases e2
    | some kvs =>
      rw [hd] at e2
      simp only [Option.bind_some] at e2
      cases hl : lookS kvs z with
      | none => rw [hl] at e2; cases e2
      | some d2 =>
        rw [hl] at e2
        injection e2 with e3 e4
        subst e3 e4
        cases st2.rp hv with
        | dref h1 =>
          obtain ⟨ks, h3, h4⟩ := hS2.dct h1 hd
          obtain ⟨w, h5, h6⟩ := h4.look z hl
          exact ⟨_, w, rfl, .inl ⟨_, Sum.inr z, .inl h3, rfl, h5.symm⟩, q w F2 mu2 H2 (st1.trans st2) hS2 h6⟩
  · have ix : ∀ y, ixD x0 y = ixOp x0 y := fun y => by cases x0 <;> first | rfl | exact absurd ⟨_, _, rfl⟩ isD | exact absurd ⟨_, rfl⟩ isR
    refine ⟨_, pe_ix sound_ix (hE a) (hE b) (plain_ix hb), ?_⟩
    refine ⟨F, mu, ρ, S, _, _, hr, hS, ea, fun v F1 mu1 H1 st1 hS1 hv => ?_⟩
    refine Rdg.seq (hr.later st1) hS1 eb fun y S3 u F2 mu2 H2 e2 st2 hS2 hr2 hu => ?_
    rw [ix y] at e2
    exact ⟨F2, mu2, S3, x0, y, d, S1, hS2, st2.rp hv, hu, e2, fun v F3 mu3 H3 st3 hS3 hv3 => q v F3 mu3 H3 ((st1.trans st2).trans st3) hS3 hv3⟩

theorem sound_slE (c : Ctx PR k X C) (r : Rec) (hE : ∀ e, PE X e (rdE X.K (r.E C e))) (a : Expr) (lo hi : Option Expr) (p2 pos : Pos) : PE X (.Subscript a (.Slice lo hi none p2) pos) (rdE X.K (stepE (PR.gx k (callK PR k)) r C (.Subscript a (.Slice lo hi none p2) pos))) := by
  refine PE.imp (pe_slice (sound_sl ((PR.gx k (callK PR k)).mu pos)) (hE a) (sound_part r C hE lo) (sound_part r C hE hi)) fun σ H Q h => ?_
  obtain ⟨F, mu, ρ, S, d, S1, hr, hS, e, q⟩ := h
  refine Rdg.seq hr hS (show M.bnd (r.E C a ρ) (fun x => M.bnd (evPart r C ρ lo) fun l => M.bnd (evPart r C ρ hi) fun h => slOp ((PR.gx k (callK PR k)).mu pos) x l h) S = _ from e) fun x S2 v F1 mu1 H1 e1 st1 hS1 hr1 hv => ?_
  refine Rdg.seq hr1 hS1 e1 fun l S3 l' F2 mu2 H2 e2 st2 hS2 hr2 hl => ?_
  refine Rdg.seq hr2 hS2 e2 fun u S4 u' F3 mu3 H3 e3 st3 hS3 hr3 hu => ?_
  subst hl hu
  exact ⟨F3, mu3, S4, x, d, S1, hS3, st3.rp (st2.rp hv), e3, fun v F4 mu4 H4 st4 hS4 hv4 => q v F4 mu4 H4 (((st1.trans st2).trans st3).trans st4) hS4 hv4⟩

theorem sound_tupE (c : Ctx PR k X C) (r : Rec) (hE : ∀ e, PE X e (rdE X.K (r.E C e))) (es : List Expr) (kk : Nat) (pos : Pos) : PE X (.Tuple es kk pos) (rdE X.K (stepE (PR.gx k (callK PR k)) r C (.Tuple es kk pos))) := by
  refine PE.imp (pe_tup (sound_args (PR.gx k (callK PR k)) r C hE es)) fun σ H Q h => ?_
  obtain ⟨F, mu, ρ, S, d, S1, hr, hS, e, q⟩ := h
  refine Rdg.seq hr hS (show M.bnd (evA (PR.gx k (callK PR k)) r C ρ es) (fun ds => mkT ds) S = _ from e) fun ds S2 vs F1 mu1 H1 e1 st1 hS1 hr1 hv => ?_
  unfold mkT at e1
  split at e1
  next hz =>
    cases e1
    refine ⟨by rw [hv.length]; exact hz, fun p hp => ?_⟩
    exact Post.newT (fun v F2 mu2 H2 st2 hS2 hv2 => q v F2 mu2 H2 (st1.trans st2) hS2 hv2) hS1 hv hp
  next => cases e1
theorem sound_lstE (c : Ctx PR k X C) (r : Rec) (hE : ∀ e, PE X e (rdE X.K (r.E C e))) (es : List Expr) (pos : Pos) : PE X (.List es pos) (rdE X.K (stepE (PR.gx k (callK PR k)) r C (.List es pos))) := by
  refine PE.imp (pe_lst (sound_args (PR.gx k (callK PR k)) r C hE es)) fun σ H Q h => ?_
  obtain ⟨F, mu, ρ, S, d, S1, hr, hS, e, q⟩ := h
  refine Rdg.seq hr hS (show M.bnd (evA (PR.gx k (callK PR k)) r C ρ es) (fun ds => mkL ((PR.gx k (callK PR k)).mu pos) ds) S = _ from e) fun ds S2 vs F1 mu1 H1 e1 st1 hS1 hr1 hv => ?_
  refine ⟨by rw [hv.length]; exact mkL_len e1, fun p hp => ?_⟩
  exact Post.newL e1 (fun v F2 mu2 H2 st2 hS2 hv2 => q v F2 mu2 H2 (st1.trans st2) hS2 hv2) hS1 hv hp

theorem sound_ifE (r : Rec) (hE : ∀ e, PE X e (rdE X.K (r.E C e))) (hT : ∀ e, PT X e (rdT X.K (r.T C e))) (t a b : Expr) (pos : Pos) : PE X (.IfExp t a b pos) (rdE X.K (stepE (PR.gx k (callK PR k)) r C (.IfExp t a b pos))) := by
  refine PE.imp (pe_ifExp (hT t) (hE a) (hE b)) fun σ H Q h => ?_
  obtain ⟨F, mu, ρ, S, d, S1, hr, hS, e, q⟩ := h
  refine Rdg.seq hr hS (show M.bnd (r.T C t ρ) (fun k => if k then r.E C a ρ else r.E C b ρ) S = _ from e) fun kk S2 k2 F1 mu1 H1 e1 st1 hS1 hr1 hv => ?_
  subst hv
  cases k2 with
  | true =>
    rw [if_pos rfl] at e1 ⊢
    exact ⟨F1, mu1, ρ, S2, d, S1, hr1, hS1, e1, fun v F2 mu2 H2 st2 hS2 hv2 => q v F2 mu2 H2 (st1.trans st2) hS2 hv2⟩
  | false =>
    rw [if_neg Bool.false_ne_true] at e1 ⊢
    exact ⟨F1, mu1, ρ, S2, d, S1, hr1, hS1, e1, fun v F2 mu2 H2 st2 hS2 hv2 => q v F2 mu2 H2 (st1.trans st2) hS2 hv2⟩

theorem sound_unE (r : Rec) (hE : ∀ e, PE X e (rdE X.K (r.E C e))) (op : UnaryOp) (a : Expr) (pos : Pos) : PE X (.UnaryOp op a pos) (rdE X.K (stepE (PR.gx k (callK PR k)) r C (.UnaryOp op a pos))) := by
  cases op with
  | Not =>
    refine PE.imp (pe_notT (hE a)) fun σ H Q h => ?_
    obtain ⟨F, mu, ρ, S, d, S1, hr, hS, e, q⟩ := h
    refine Rdg.seq hr hS (show M.bnd (r.E C a ρ) (fun x => notOp x) S = _ from e) fun x S2 v F1 mu1 H1 e1 st1 hS1 hr1 hv => ?_
    unfold notOp at e1
    cases w : truth S2 x with
    | none => rw [w] at e1; cases e1
    | some b =>
      rw [w] at e1
      cases e1
      exact ⟨b, hS1.truth hv w, q _ F1 mu1 H1 st1 hS1 (.bl _)⟩
  | USub =>
    refine PE.imp (pe_un sound_neg (hE a)) fun σ H Q h => ?_
    obtain ⟨F, mu, ρ, S, d, S1, hr, hS, e, q⟩ := h
    refine Rdg.seq hr hS (show M.bnd (r.E C a ρ) (fun x => negOp x) S = _ from e) fun x S2 v F1 mu1 H1 e1 st1 hS1 hr1 hv => ?_
    exact ⟨F1, mu1, S2, x, d, S1, hS1, hv, e1, fun v F2 mu2 H2 st2 hS2 hv2 => q v F2 mu2 H2 (st1.trans st2) hS2 hv2⟩
  | Invert => exact pe_bad fun _ => rfl
  | UAdd => exact pe_bad fun _ => rfl

theorem sound_rev (c : Ctx PR k X C) (r : Rec) (hE : ∀ e, PE X e (rdE X.K (r.E C e))) (a : Expr) (lo hi : Option Expr) (stp : Expr) (p2 pos : Pos) : PE X (.Subscript a (.Slice lo hi (some stp) p2) pos) (rdE X.K (stepE (PR.gx k (callK PR k)) r C (.Subscript a (.Slice lo hi (some stp) p2) pos))) := by
  refine PE.of fun σ H Q h => ?_
  obtain ⟨F, mu, ρ, S, d, S1, hr, hS, e, q⟩ := h
  have e0 : (if isRev lo hi stp then M.bnd (r.E C a ρ) fun x => revOp ((PR.gx k (callK PR k)).mu pos) x else M.bad) S = .ok d S1 := e
  split at e0
  next hc =>
    unfold isRev at hc
    split at hc
    next i kk q1 q2 =>
      have hi1 : i = 1 := of_decide_eq_true hc
      subst hi1
      obtain ⟨x, S2, e1, e2⟩ := bnd_ok e0
      cases x <;> first | (exfalso; cases e2; done) | skip
      · obtain ⟨rfl, rfl⟩ := pu_ok e2
        refine ⟨_, pe_revT (hE a), ?_⟩
        refine ⟨F, mu, ρ, S, _, _, hr, hS, e1, fun v F1 mu1 H1 st hS1 hv => ?_⟩
        cases hv with
        | tup h1 h2 =>
          refine ⟨_, _, rfl, sqT_mono hS1.sub h1, fun p hp => ?_⟩
          exact Post.newT (fun v F2 mu2 H2 st2 hS2 hv2 => q v F2 mu2 H2 (st.trans st2) hS2 hv2) hS1 h2.rev hp
      · refine ⟨_, pe_revL (hE a), ?_⟩
        refine ⟨F, mu, ρ, S, _, _, hr, hS, e1, fun v F1 mu1 H1 st hS1 hv => ?_⟩
        cases hv with
        | lst h1 h2 =>
          refine ⟨_, _, rfl, .inl (.inl (hS1.sub _ _ h1)), fun p hp => ?_⟩
          exact Post.newL e2 (fun v F2 mu2 H2 st2 hS2 hv2 => q v F2 mu2 H2 (st.trans st2) hS2 hv2) hS1 h2.rev hp
    next => cases hc
  next => exact (no_bad e0).elim

/-! ### dict displays -/
/-- an object beside becomes one of the store -/
theorem Sr.adoptS {K : PySem.W.Frag} {F H F0 H0 : Hp} {mu mu0 : List Addr} {S : Store} (r : Sr K F mu S H) (s : Stp F0 mu0 H0 F mu H) {p : Addr} {so0 : SO} (h0 : H0 p = none) (h1 : F p = none) (h2 : p ∉ mu) (ho : SoOk K F (mu ++ [p]) H p so0) :
    Stp F0 mu0 H0 F (mu ++ [p]) H ∧ Sr K F (mu ++ [p]) (S ++ [so0]) H ∧ (mu ++ [p])[S.length]? = some p := by
  refine ⟨⟨s.fz, ?_, s.keep, s.there, s.newF, fun a ma na => ?_⟩, ⟨r.sub, by simp [r.len], ?_, fun a ma => ?_, fun i a so q1 q2 => ?_⟩, ?_⟩
  · obtain ⟨nu, e⟩ := s.pl
    exact ⟨nu ++ [p], by rw [e, List.append_assoc]⟩
  · rcases List.mem_append.mp ma with ma | ma
    · exact s.newM a ma na
    · simp at ma; subst ma; exact h0
  · rw [List.nodup_append]
    exact ⟨r.nd, by simp, fun a ma b mb q => by simp at mb; subst mb; subst q; exact h2 ma⟩
  · rcases List.mem_append.mp ma with ma | ma
    · exact r.nf a ma
    · simp at ma; subst ma; exact h1
  · by_cases hi : i < mu.length
    · rw [List.getElem?_append_left hi] at q1
      rw [List.getElem?_append_left (by rw [← r.len]; exact hi)] at q2
      exact (r.obj i a so q1 q2).mono (Same.refl F) ⟨[p], rfl⟩ rfl
    · rw [List.getElem?_append_right (by omega)] at q1
      rw [List.getElem?_append_right (by rw [← r.len]; omega), ← r.len] at q2
      cases q : i - mu.length with
      | zero =>
        rw [q] at q1 q2
        simp at q1 q2
        subst q1; subst q2
        exact ho
      | succ n => rw [q] at q1; simp at q1
  · rw [← r.len, List.getElem?_append_right (Nat.le_refl _)]
    simp
theorem Sr.adoptO {K : PySem.W.Frag} {F H F0 H0 : Hp} {mu mu0 : List Addr} {S : Store} (r : Sr K F mu S H) (s : Stp F0 mu0 H0 F mu H) {p : Addr} {o : HO} (h0 : H0 p = none) (hp : H p = some o) (h1 : F p = none) (h2 : p ∉ mu) :
    Stp F0 mu0 H0 (upd F p o) mu H ∧ Sr K (upd F p o) mu S H := by
  have sF : Same F (upd F p o) := fun a u e => by rw [upd_ne (ne_of_none e h1)]; exact e
  refine ⟨⟨s.fz.trans sF, s.pl, s.keep, s.there, fun a e1 e2 => ?_, s.newM⟩, ⟨fun a u e => ?_, r.len, r.nd, fun a ma => ?_, fun i a so q1 q2 => ?_⟩⟩
  · by_cases q : a = p
    · subst q; exact absurd h0 e2
    · rw [upd_ne q]; exact s.newF a e1 e2
  · by_cases q : a = p
    · subst q; rw [upd_same] at e; cases e; exact hp
    · rw [upd_ne q] at e; exact r.sub a u e
  · rw [upd_ne (show a ≠ p from fun q => h2 (q ▸ ma))]; exact r.nf a ma
  · exact (r.obj i a so q1 q2).mono sF ⟨[], by simp⟩ rfl
/-- what was there before a new object was laid -/
theorem Stp.before {F H F1 H1 : Hp} {mu mu1 : List Addr} {p : Addr} {o : HO} (h : H p = none) (s : Stp F mu (upd H p o) F1 mu1 H1) : Stp F mu H F1 mu1 H1 := by
  have ne : ∀ a, H a ≠ none → a ≠ p := fun a ha q => ha (q ▸ h)
  refine ⟨s.fz, s.pl, fun a u e n => s.keep a u (by rw [upd_ne (ne a (by rw [e]; simp))]; exact e) n, fun a e => s.there a (by rw [upd_ne (ne a e)]; exact e), fun a e1 e2 => s.newF a e1 (by rw [upd_ne (ne a e2)]; exact e2), fun a m n => ?_⟩
  have q := s.newM a m n
  by_cases qa : a = p
  · rw [qa]; exact h
  · rw [upd_ne qa] at q; exact q
def trs (K : PySem.W.Frag) (r : Rec) (C : Cxt) (ks : List Str) (values : List Expr) : List (TE × TE) := List.zipWith (fun k v => ((tC (.str k) : TE), (rdE K (r.E C v) : TE))) ks values
theorem disp_pps (r : Rec) (hE : ∀ e, PE X e (rdE X.K (r.E C e))) (pos : Pos) : ∀ (keys : List (Option Expr)) (values : List Expr) (ks : List Str), keysOf keys = some ks → ks.length = values.length → PPs X pos keys values (trs X.K r C ks values) ∧ keys.all (·.isSome) = true ∧ keys.length = ks.length
  | [], [], _, e, _ => by cases e; exact ⟨pps_nil, rfl, rfl⟩
  | [], v :: vs, _, e, hl => by cases e; simp at hl
  | k :: keys, values, ks, e, hl => by
    cases k with
    | none => cases e
    | some k =>
      cases k <;> first | (exfalso; cases e; done) | skip
      rename_i cc j p
      cases cc <;> first | (exfalso; cases e; done) | skip
      rename_i x
      have e' : (keysOf keys).map (fun xs => x :: xs) = some ks := e
      cases q : keysOf keys with
      | none => rw [q] at e'; cases e'
      | some ks' =>
        rw [q] at e'
        cases e'
        cases values with
        | nil => simp at hl
        | cons v vs =>
          obtain ⟨h1, h2, h3⟩ := disp_pps r hE pos keys vs ks' q (by simpa using hl)
          exact ⟨pps_cons pe_str (hE v) h1, by simp [h2], by simp [h3]⟩
theorem disp_pairs (G : Gx) (r : Rec) {p : Addr} : ∀ (ks : List Str) (values : List Expr) (σ : L2.St) (ρ : Ev2.Env) (F H : Hp) (mu : List Addr) (S S1 : Store) (ds : List D) (Q : List (V × V) → Hp → Prop), ks.length = values.length → noStars values = true → Er X.K F mu σ ρ → Sr X.K F mu S H → evA G r C ρ values S = .ok ds S1 →
    H p = some (.dK []) → p ∉ mu → F p = none →
    (∀ vs F1 mu1 H1, Stp F mu H F1 mu1 H1 → Sr X.K F1 mu1 S1 H1 → H1 p = some (.dK []) → p ∉ mu1 → F1 p = none → Rps X.K F1 mu1 vs ds → Q (List.zipWith (fun (k : Str) (v : V) => (V.str k, v)) ks vs) H1) → tPairs (trs X.K r C ks values) σ H Q
  | [], [], σ, ρ, F, H, mu, S, S1, ds, Q, _, _, hr, hS, e, g1, g2, g3, q => by
    obtain ⟨rfl, rfl⟩ := pu_ok (show M.pu [] S = _ from e)
    exact q [] F mu H Stp.refl hS g1 g2 g3 .nil
  | k :: ks, v :: values, σ, ρ, F, H, mu, S, S1, ds, Q, hl, ns, hr, hS, e, g1, g2, g3, q => by
    obtain ⟨n1, n2⟩ := stars2 ns
    have e' : M.bnd (r.E C v ρ) (fun d => M.bnd (evA G r C ρ values) fun ds => M.pu (d :: ds)) S = .ok ds S1 := by
      cases v <;> first | exact e | (simp [isStar] at n1; done)
    show tC (.str k) σ H fun x H1 => rdE X.K (r.E C v) σ H1 fun y H2 => tPairs (trs X.K r C ks values) σ H2 fun ps H3 => Q ((x, y) :: ps) H3
    refine Rdg.seq hr hS e' fun d S2 w F1 mu1 H1 e1 st hS1 hr1 hw => ?_
    obtain ⟨ds', S3, e2, e3⟩ := bnd_ok e1
    obtain ⟨rfl, rfl⟩ := pu_ok e3
    have c1 : H1 p = some (.dK []) := st.keep _ _ g1 g2
    have c2 : p ∉ mu1 := fun m => by have := st.newM _ m g2; rw [g1] at this; cases this
    have c3 : F1 p = none := st.newF _ g3 (by rw [g1]; simp)
    refine disp_pairs G r ks values σ ρ F1 H1 mu1 S2 _ ds' _ (by simpa using hl) n2 hr1 hS1 e2 c1 c2 c3 fun vs F2 mu2 H2 st2 hS2 k1 k2 k3 hvs => ?_
    exact q (w :: vs) F2 mu2 H2 (st.trans st2) hS2 k1 k2 k3 (.cons (st2.rp hw) hvs)
theorem zip_kv : ∀ (ks : List Str) (vs : List V), List.zipWith (fun (k : Str) (v : V) => (V.str k, v)) ks vs = (List.zipWith (fun (k : Str) (v : V) => ((Sum.inr k : Key), v)) ks vs).map (fun kv => (kV kv.1, kv.2))
  | [], _ => rfl
  | _ :: _, [] => rfl
  | k :: ks, v :: vs => by simp only [List.zipWith_cons_cons, List.map_cons, zip_kv ks vs]; rfl
theorem sound_disp (c : Ctx PR k X C) (r : Rec) (hE : ∀ e, PE X e (rdE X.K (r.E C e))) (keys : List (Option Expr)) (values : List Expr) (pos : Pos) : PE X (.Dict keys values pos) (rdE X.K (stepE (PR.gx k (callK PR k)) r C (.Dict keys values pos))) := by
  refine PE.of fun σ H Q h => ?_
  obtain ⟨F, mu, ρ, S, d, S1, hr, hS, e, q⟩ := h
  have e0 : evDisp (PR.gx k (callK PR k)) r C ρ keys values pos S = .ok d S1 := e
  unfold evDisp at e0
  cases q1 : keysOf keys with
  | none =>
    rw [q1] at e0
    simp only at e0
    split at e0
    next kx vx =>
      split at e0
      · exact (no_bad e0).elim
      next hst =>
        refine ⟨_, pe_disp (pps_cons (hE kx) (hE vx) pps_nil) rfl rfl (by simp) (by simp), fun p hp => ?_⟩
        have fp : F p = none := by
          cases e : F p with
          | none => rfl
          | some u => rw [hS.sub p u e] at hp; cases hp
        have pm : p ∉ mu := fun m => hS.mem_some m hp
        refine Rdg.seq hr (hS.beside (o := .dK []) fp pm) e0 fun kd S2 kv F1 mu1 H1 e1 st1 hS1 hr1 hkv => ?_
        refine Rdg.seq hr1 hS1 e1 fun dv S3 vv F2 mu2 H2 e2 st2 hS2 hr2 hvv => ?_
        cases hkv <;> first | (exfalso; exact no_bad e2) | skip
        rename_i z
        have st := st1.trans st2
        have k1 : H2 p = some (.dK []) := st.keep p _ upd_same pm
        have k2 : p ∉ mu2 := fun m => by have := st.newM _ m pm; rw [upd_same] at this; cases this
        have k3 : F2 p = none := st.newF _ fp (by rw [upd_same]; simp)
        refine ⟨k1, [((Sum.inr z : Key), vv)], rfl, by simp, ?_⟩
        have st0 := Stp.before hp st
        have e2 : mkD ((PR.gx k (callK PR k)).mu pos) [z] [dv] S3 = .ok d S1 := e2
        unfold mkD at e2
        split at e2
        · injection e2 with e3 e4
          subst e3 e4
          have h5 : Rkv X.K F2 mu2 [((Sum.inr z : Key), vv)] [(z, dv)] := .cons hvv .nil
          obtain ⟨st3, hS3, hix⟩ := (hS2.beside (o := .dK [((Sum.inr z : Key), vv)]) k3 k2).adoptS (so0 := .dct [(z, dv)]) (st0.beside hp) hp k3 k2 ⟨_, upd_same, h5.mono (Same.refl F2) ⟨[p], rfl⟩⟩
          exact q _ _ _ _ st3 hS3 (.dref hix)
        · injection e2 with e3 e4
          subst e3 e4
          obtain ⟨st3, hS3⟩ := (hS2.beside (o := .dK [((Sum.inr z : Key), vv)]) k3 k2).adoptO (st0.beside hp) hp upd_same k3 k2
          have sF : Same F2 (upd F2 p (.dK [((Sum.inr z : Key), vv)])) := fun a u e => by rw [upd_ne (ne_of_none e k3)]; exact e
          exact q _ _ _ _ st3 hS3 (.dct (xs := [vv]) (.inl upd_same) (.cons (Rp.mono sF ⟨[], by simp⟩ _ _ hvv) .nil))
    next => exact (no_bad e0).elim
  | some ks =>
    rw [q1] at e0
    simp only at e0
    split at e0
    next hc =>
      obtain ⟨hl, h15, hnd, hns⟩ := hc
      obtain ⟨ds, S2, e1, e2⟩ := bnd_ok e0
      obtain ⟨pp, al, kl⟩ := disp_pps r hE pos keys values ks q1 hl
      by_cases hk : keys = []
      · subst hk
        cases q1
        have hv : values = [] := List.length_eq_zero_iff.mp (by simpa using hl.symm)
        subst hv
        obtain ⟨rfl, rfl⟩ := pu_ok (show M.pu [] S = _ from e1)
        refine ⟨_, pe_dnewK, fun p hp => ?_⟩
        unfold mkD at e2
        split at e2
        · injection e2 with e3 e4
          subst e3 e4
          obtain ⟨f1, f2⟩ := hS.newD (ks := []) (kvs := []) hp .nil
          refine q _ _ _ _ f2 f1 (.dref ?_)
          rw [← hS.len, List.getElem?_append_right (Nat.le_refl _)]
          simp
        · injection e2 with e3 e4
          subst e3 e4
          obtain ⟨f1, f2⟩ := hS.frz (o := .dK []) hp
          exact q _ _ _ _ f2 f1 (.dct (xs := []) (.inl upd_same) .nil)
      · refine ⟨_, pe_disp pp al (kl.trans hl) hk (by rw [kl]; exact h15), fun p hp => ?_⟩
        have fp : F p = none := by
          cases e : F p with
          | none => rfl
          | some u => rw [hS.sub p u e] at hp; cases hp
        have pm : p ∉ mu := fun m => hS.mem_some m hp
        refine disp_pairs _ r ks values σ ρ F (upd H p (.dK [])) mu S _ ds _ hl hns hr (hS.beside fp pm) e1 upd_same pm fp fun vs F1 mu1 H1 st hS1 k1 k2 k3 hvs => ?_
        have lv : ks.length = vs.length := by
          rw [hvs.length]
          have : ds.length = values.length := by
            have gen : ∀ (vals : List Expr) (ds : List D) (S S1 : Store), noStars vals = true → evA (PR.gx k (callK PR k)) r C ρ vals S = .ok ds S1 → ds.length = vals.length := by
              intro vals
              induction vals with
              | nil => intro ds S S1 _ e; obtain ⟨rfl, _⟩ := pu_ok (show M.pu [] S = _ from e); rfl
              | cons v vals ih =>
                intro ds S S1 ns e
                obtain ⟨n1, n2⟩ := stars2 ns
                have e' : M.bnd (r.E C v ρ) (fun d => M.bnd (evA (PR.gx k (callK PR k)) r C ρ vals) fun ds => M.pu (d :: ds)) S = .ok ds S1 := by
                  cases v <;> first | exact e | (simp [isStar] at n1; done)
                obtain ⟨a, S2, _, e3⟩ := bnd_ok e'
                obtain ⟨b, S3, e4, e5⟩ := bnd_ok e3
                obtain ⟨rfl, _⟩ := pu_ok e5
                simp [ih b S2 S3 n2 e4]
            exact gen values ds S _ hns e1
          rw [this, hl]
        refine ⟨k1, List.zipWith (fun (k : Str) (v : V) => ((Sum.inr k : Key), v)) ks vs, zip_kv ks vs, by rw [List.length_zipWith]; omega, ?_⟩
        rw [merge_new _ [] (by rw [keys_zip lv]; simpa using nodup_inr hnd), List.nil_append]
        have st0 := Stp.before hp st
        unfold mkD at e2
        split at e2
        · injection e2 with e3 e4
          subst e3 e4
          have h5 : Rkv X.K F1 mu1 (List.zipWith (fun (k : Str) (v : V) => ((Sum.inr k : Key), v)) ks vs) (ks.zip ds) := Rkv.zip hvs
          obtain ⟨st1, hS2, hix⟩ := (hS1.beside (o := .dK (List.zipWith (fun (k : Str) (v : V) => ((Sum.inr k : Key), v)) ks vs)) k3 k2).adoptS (so0 := .dct (ks.zip ds)) (st0.beside hp) hp k3 k2 ⟨_, upd_same, h5.mono (Same.refl F1) ⟨[p], rfl⟩⟩
          exact q _ _ _ _ st1 hS2 (.dref hix)
        injection e2 with e3 e4
        subst e3 e4
        obtain ⟨st1, hS2⟩ := (hS1.beside (o := .dK (List.zipWith (fun (k : Str) (v : V) => ((Sum.inr k : Key), v)) ks vs)) k3 k2).adoptO (st0.beside hp) hp upd_same k3 k2
        have sF : Same F1 (upd F1 p (.dK (List.zipWith (fun (k : Str) (v : V) => ((Sum.inr k : Key), v)) ks vs))) := fun a u e => by rw [upd_ne (ne_of_none e k3)]; exact e
        exact q _ _ _ _ st1 hS2 (.dct (.inl upd_same) (Rps.mono sF ⟨[], by simp⟩ ds vs hvs))
    next => exact (no_bad e0).elim

/-- the reading of a dict comprehension from the evaluator's run of it -/
theorem compD_reading (c : Ctx PR k X C) (cl : Str → Option (List D → List (Str × D) → M D)) (r : Rec) {kx vx tg iter : Expr} {ifs : List Expr} {scope : Scope} {pos : Pos} {σ : L2.St} {H : Hp} {Q : VK} {F : Hp} {mu : List Addr} {ρ : Ev2.Env} {S S1 : Store} {d : D}
    (hr : Er X.K F mu σ ρ) (hS : Sr X.K F mu S H) (e : evCompD (PR.gx k cl) r C kx vx tg iter ifs scope pos ρ S = .ok d S1) (q : ∀ v F1 mu1 H1, Stp F mu H F1 mu1 H1 → Sr X.K F1 mu1 S1 H1 → Rp X.K F1 mu1 v d → Q v H1) :
    (BlkOk X.N X.env.scope scope (ownOf C.N scope.names) ∧ isSetE iter = false) ∧
    tDc (rdI X.K fun ρ => evIter (PR.gx k cl) r C ρ tg iter) (rdG X.K (C.blk scope) tg) (rdT X.K fun ρ => evTests r (C.blk scope) ρ ifs) (rdE X.K (r.E (C.blk scope) kx)) (rdE X.K (r.E (C.blk scope) vx)) ((ownOf C.N scope.names).map (·.2)) σ H Q := by
  unfold evCompD at e
  split at e
  next hc =>
    simp only [Bool.and_eq_true, Bool.not_eq_true'] at hc
    obtain ⟨⟨hc1, hc2⟩, hc3⟩ := hc
    refine ⟨⟨blkOk_by (by rw [c.N, c.sc]; exact hc1), hc2⟩, ?_⟩
    have hsl : ∀ i ∈ slotsT C.N tg, i ∈ (ownOf C.N scope.names).map (·.2) := fun i hi => by
      have := List.all_eq_true.mp hc3 i hi
      simpa using this
    obtain ⟨src, S2, e1, e2⟩ := bnd_ok e
    obtain ⟨xs, S3, e3, e4⟩ := bnd_ok e2
    refine ⟨F, mu, ρ, S, src, S2, hr, hS, e1, fun J F1 mu1 H1 st hS1 hy Dd hD => ?_⟩
    obtain ⟨Rem, m0, run, hrem⟩ := run_of e3
    have hD0 : H Dd = none := by
      cases w : H Dd with
      | none => rfl
      | some o => exact absurd hD (st.there Dd (by rw [w]; simp))
    have fD : F1 Dd = none := by
      cases w : F1 Dd with
      | none => rfl
      | some o => rw [hS1.sub _ _ w] at hD; cases hD
    have mD : Dd ∉ mu1 := fun m => hS1.mem_some m hD
    refine ⟨fun i m H' => ∃ F' mu' S' acc accv, Stp F1 mu1 H1 F' mu' H' ∧ Sr X.K F' mu' S' H' ∧ H' Dd = some (.dK accv) ∧ Dd ∉ mu' ∧ F' Dd = none ∧ Rkv X.K F' mu' accv acc ∧ Rem i m acc S', ⟨m0, ?_⟩, ?_⟩
    · exact ⟨F1, mu1, S2, [], [], Stp.refl.beside hD, hS1.beside fD mD, upd_same, mD, fD, .nil, hrem⟩
    · rintro i m H' ⟨F', mu', S', acc, accv, st', hS', hD', mD', fD', hrs, hrem'⟩
      obtain ⟨ds, hds, hcase⟩ := run.step i m acc S' hrem'
      obtain ⟨hgo, hstop⟩ := hy F' mu' S' H' st'.grw hS' ds hds i
      rcases hcase with ⟨x, acc1, S4, m1, hx, ef, hm, hrem1⟩ | ⟨hl, rfl, rfl⟩
      · right
        obtain ⟨g1, g2⟩ := hgo x hx
        refine ⟨g1, fun H2 => ∃ m1, m1 < m ∧ ∃ F' mu' S' acc accv, Stp F1 mu1 H1 F' mu' H2 ∧ Sr X.K F' mu' S' H2 ∧ H2 Dd = some (.dK accv) ∧ Dd ∉ mu' ∧ F' Dd = none ∧ Rkv X.K F' mu' accv acc ∧ Rem (i + 1) m1 acc S', fun H2 h2 => h2, fun v H2 hyl => ?_⟩
        obtain ⟨F2, st2, hS2, hv⟩ := g2 v H2 hyl
        -- the object Dd is where it was
        have carry : ∀ {Fa Fb Ha Hb : Hp} {ma mb : List Addr} {Sb : Store} {av : List (Key × V)}, Stp Fa ma Ha Fb mb Hb → Ha Dd = some (.dK av) → Dd ∉ ma → Fa Dd = none → Hb Dd = some (.dK av) ∧ Dd ∉ mb ∧ Fb Dd = none := by
          intro Fa Fb Ha Hb ma mb Sb av s h1 h2 h3
          refine ⟨s.keep _ _ h1 h2, fun m => ?_, s.newF _ h3 (by rw [h1]; simp)⟩
          have := s.newM _ m h2
          rw [h1] at this
          cases this
        obtain ⟨cD, cm, cf⟩ := carry (Sb := S') st2 hD' mD' fD'
        unfold compBD at ef
        cases q1 : setTgt (C.blk scope) tg x (wipeE ρ ((ownOf C.N scope.names).map (·.2))) with
        | none => rw [q1] at ef; exact (no_bad ef).elim
        | some ρ1 =>
          rw [q1] at ef
          refine ⟨F2, mu', x, _, ρ1, hS2.sub, (((hr.later st).later st').later st2).wipe _, hv, q1, fun σ1 hr1 so => ⟨wipe_same so hsl, ?_⟩⟩
          refine Rdg.seq hr1 hS2 ef fun b S5 b' F3 mu3 H3 e5 st3 hS3 hr3 hb => ?_
          obtain ⟨cD3, cm3, cf3⟩ := carry (Sb := S') st3 cD cm cf
          have hrs3 := (hrs.mono st2.fz st2.pl).mono st3.fz st3.pl
          have all3 := (st'.trans st2).trans st3
          subst hb
          cases b' with
          | true =>
            rw [if_pos rfl] at e5
            rw [if_pos rfl]
            refine Rdg.seq hr3 hS3 e5 fun yk S6 ykv F4 mu4 H4 e6 st4 hS4 hr4 hyk => ?_
            obtain ⟨cD4, cm4, cf4⟩ := carry (Sb := S') st4 cD3 cm3 cf3
            refine Rdg.seq hr4 hS4 e6 fun y S7 yv F5 mu5 H5 e7 st5 hS5 hr5 hyv => ?_
            obtain ⟨cD5, cm5, cf5⟩ := carry (Sb := S') st5 cD4 cm4 cf4
            have hrs5 := (hrs3.mono st4.fz st4.pl).mono st5.fz st5.pl
            cases hyk <;> first | (exfalso; exact no_bad (show (M.bad : M (List (Str × D))) S7 = _ from e7)) | skip
            rename_i z
            have e8 : (if acc.length < sizeLine then M.pu (putS acc z y) else M.bad) S7 = .ok acc1 S4 := e7
            split at e8
            next hz =>
              obtain ⟨rfl, rfl⟩ := pu_ok e8
              have hll := hrs5.length
              refine ⟨accv, Sum.inr z, rfl, cD5, by omega, m1, hm, F5, mu5, _, putS acc z y, putK accv (Sum.inr z) yv, ((all3.trans st4).trans st5).beside hD, hS5.beside cf5 cm5, upd_same, cm5, cf5, hrs5.put hyv, hrem1⟩
            next => exact (no_bad e8).elim
          | false =>
            rw [if_neg Bool.false_ne_true] at e5
            rw [if_neg Bool.false_ne_true]
            obtain ⟨rfl, rfl⟩ := pu_ok e5
            exact ⟨m1, hm, F3, mu3, _, _, accv, all3, hS3, cD3, cm3, cf3, hrs3, hrem1⟩
      · left
        refine ⟨hstop hl, ?_⟩
        unfold mkDk at e4
        split at e4
        · injection e4 with e5 e6
          subst e5 e6
          obtain ⟨st2, hS2, hix⟩ := hS'.adoptS (so0 := .dct _) (st.trans st') hD0 fD' mD' ⟨_, hD', hrs.mono (Same.refl F') ⟨[Dd], rfl⟩⟩
          exact q _ _ _ H' st2 hS2 (.dref hix)
        · injection e4 with e5 e6
          subst e5 e6
          obtain ⟨st2, hS2⟩ := hS'.adoptO (st.trans st') hD0 hD' fD' mD'
          obtain ⟨vs, ev, hvs⟩ := hrs.unzip
          have sF : Same F' (upd F' Dd (.dK accv)) := fun a u e => by rw [upd_ne (ne_of_none e fD')]; exact e
          exact q _ _ _ H' st2 hS2 (.dct (xs := vs) (.inl (by rw [← ev]; exact upd_same)) (Rps.mono sF ⟨[], by simp⟩ _ _ hvs))
  next => exact (no_bad e).elim

theorem sound_compD (c : Ctx PR k X C) (cl : Str → Option (List D → List (Str × D) → M D)) (r : Rec) (hE : ∀ (X : Cx) (C : Cxt), Ctx PR k X C → ∀ e, PE X e (rdE X.K (r.E C e))) (hT : ∀ (X : Cx) (C : Cxt), Ctx PR k X C → ∀ e, PT X e (rdT X.K (r.T C e)))
    (kx vx tg iter : Expr) (ifs : List Expr) (scope : Scope) (pos : Pos) : PE X (.DictComp kx vx [⟨tg, iter, ifs, 0⟩] scope pos) (rdE X.K fun ρ => evCompD (PR.gx k cl) r C kx vx tg iter ifs scope pos ρ) := by
  refine PE.of fun σ H Q h => ?_
  obtain ⟨F, mu, ρ, S, d, S1, hr, hS, e, q⟩ := h
  obtain ⟨⟨hb, hs⟩, rd⟩ := compD_reading c cl r hr hS e q
  exact ⟨_, pe_dc c.calm (by rw [c.N]; exact c.nd) (sound_iter c cl r (hE X C c) tg iter) hb (fun s H Cd cls fp => sound_tgt (c.blk scope s H Cd cls fp) tg)
    (fun s H Cd cls fp => sound_tests r (hT _ _ (c.blk scope s H Cd cls fp)) ifs) (fun s H Cd cls fp => hE _ _ (c.blk scope s H Cd cls fp) kx) (fun s H Cd cls fp => hE _ _ (c.blk scope s H Cd cls fp) vx) (foldSet hs), rd⟩
/-- x.upper() -/
theorem sound_meth0 (c : Ctx PR k X C) (r : Rec) (hE : ∀ e, PE X e (rdE X.K (r.E C e))) (x m : Str) (p ap cp : Pos) :
    PE X (.Call (.Attribute (.Name x p) m ap) [] [] cp) (rdE X.K (stepE (PR.gx k (callK PR k)) r C (.Call (.Attribute (.Name x p) m ap) [] [] cp))) := by
  refine PE.of fun σ H Q h => ?_
  obtain ⟨F, mu, ρ, S, d, S1, hr, hS, e, q⟩ := h
  have e0 : (if !(ap.endLine == cp.line) || decide (m ≠ "upper") then M.bad else M.bnd (r.E C (.Name x p) ρ) fun o => meth0 m o) S = .ok d S1 := e
  split at e0
  · exact (no_bad e0).elim
  next hc =>
    simp only [Bool.or_eq_true, Bool.not_eq_true', not_or, Bool.not_eq_false, decide_eq_true_eq, ne_eq, Classical.not_not] at hc
    obtain ⟨hl, rfl⟩ := hc
    refine ⟨_, pe_upper (hE (.Name x p)) base_name hl, ?_⟩
    refine Rdg.seq hr hS e0 fun o S2 v F1 mu1 H1 e1 st hS1 hr1 hv => ?_
    cases hv <;> first | (exfalso; cases e1; done) | skip
    rename_i z
    have e1 : (if ("upper" : Str) = "upper" ∧ z.length ≤ 5592405 then M.pu (D.str (Txt.upper z)) else M.bad) S2 = .ok d S1 := e1
    split at e1
    next hz =>
      obtain ⟨rfl, rfl⟩ := pu_ok e1
      exact ⟨⟨z, rfl⟩, z, rfl, rfl, hz.2, q _ F1 mu1 H1 st hS1 (.str _)⟩
    next => exact (no_bad e1).elim

section
theorem kv_vals {κ : Type} : ∀ {kvs : List (κ × V)} {vs : List (κ × Value)}, KV kvs vs → Vals (kvs.map (·.2)) (vs.map (·.2)) := by
  intro kvs vs h
  induction h with
  | nil => exact .nil
  | cons r t ih => exact .cons r.2 ih
/-- len(set(list(d.values()))), the values distinct texts -/
def tLsv (td : TE) : TE := fun σ H Q => td σ H fun x H1 => ∃ (a : Addr) (kvs : List (Key × V)) (ys : List Str), x = .ref a ∧ H1 a = some (.dK kvs) ∧ kvs.map (·.2) = ys.map V.str ∧ ys.Nodup ∧ ys.length ≤ 1000 ∧ Q (.int ys.length) H1
theorem pe_lsv {X : Cx} {o : Expr} {td : TE} {p1 p2 p3 q1 q2 q3 apos cpos : Pos} (hc : X.calm = true) (hg1 : Gl X "len") (hm1 : X.mg "len" = none) (hg2 : Gl X "set") (hm2 : X.mg "set" = none) (hg3 : Gl X "list") (hm3 : X.mg "list" = none) (ho : PE X o td)
    (hbase : attributeBase o "values" X.env (eval o X.env) = eval o X.env) (hline : (apos.endLine == cpos.line) = true) :
    PE X (.Call (.Name "len" p1) [.Call (.Name "set" p2) [.Call (.Name "list" p3) [.Call (.Attribute o "values" apos) [] [] cpos] [] q3] [] q2] [] q1) (tLsv td) := by
  refine ⟨fun pins s σ H Q I h => ?_⟩
  refine Call_ (ld_blt I hg1 hm1 boot_len ?_)
  refine PyProof.Rows.callWith_builtin1 (PyProof.Rows.args_cons ?_ rfl) rfl rfl
  refine Call_ (ld_blt I hg2 hm2 boot_set ?_)
  refine PyProof.Rows.callWith_type1 (PyProof.Rows.args_cons ?_ rfl) rfl rfl
  refine Call_ (ld_blt I hg3 hm3 PyProof.Rows.boot_list ?_)
  refine PyProof.Rows.callWith_type1 (PyProof.Rows.args_cons ?_ rfl) rfl rfl
  refine wpAny_Call_method (T := "dict") (id := "dict.values") hbase rfl hline PySem.F.plainAttrs_dict PySem.F.slot_dict_values PySem.F.type_dict_values (thn (ho.run pins s σ H _ I h) fun u s1 ⟨x, H1, I1, rx, a, kvs, ys, ex, hd, hy, hnd, hz, q⟩ => ?_)
  subst ex
  obtain rfl : u = Value.ref a := rx
  obtain ⟨z, hs, vs, rel, dd⟩ := dk_of I1.hok hd
  refine ⟨dd.typeIs, dd.mapOf.noDict, ?_⟩
  obtain ⟨ep, hat⟩ := dd.dictAt
  refine method_meetsIn PySem.F.slot_dict_values PySem.F.entry_dict_values rfl (PySem.evalArgs_none ⟨rfl, dd.typeIs, PySem.F.args_dict_values_1 _, _, meets_dict_values (mixKind X.prog X.w) a hs, ⟨vs, dd⟩, ?_⟩)
  refine PyProof.Rows.args_nil ?_
  have hl : kvs.length = vs.length := rel.length
  have hyl : ys.length = kvs.length := by have := congrArg List.length hy; simpa using this.symm
  refine PySem.W.kdl_call (PySem.W.kdl_values (knd := mixKind X.prog X.w) (kvs := vs) (ep := ep)) (I1.ok.hd hc) ⟨⟨_, Heap.get?_push_size _ rfl, rfl, rfl⟩, hat.push _⟩ (by rw [← hl]; exact z) fun h2 tk2 acc c2 hk2 hD2 hacc => ?_
  refine PyProof.Rows.args_nil ?_
  have hav : acc.toList = vs.map (·.2) := PySem.W.kdl_vals_eq acc.toList (by rw [Array.length_toList]; exact hacc.1) fun j v e => hacc.2 j v (by rw [← Array.getElem?_toList]; exact e)
  have hst : PyProof.Rows.StrsAre acc.toList ys := by
    rw [hav]
    have := kv_vals rel
    rw [hy] at this
    exact strsAre_of this
  have hsz : acc.size = ys.length := by rw [hacc.1, hyl, hl]
  refine call_set_txts (I1.ok.hd hc) ⟨_, hD2, rfl, c2, rfl⟩ hst hnd (by rw [hsz]; unfold scanBound; omega) fun h3 tk3 hS3 hk3 => ?_
  refine PyProof.Rows.args_nil ?_
  obtain ⟨o3, es3, ep3, t3, ho3, hex3, hd3, _, _, _, hf3, hn3⟩ := hS3
  have I3 : Inv X pins σ H1 { s1 with heap := h3, toks := tk3 } := I1.kept fun b ob e => by
    have e1 := hk2 b ob (Heap.get?_push_of_some _ e)
    exact hk3 b ob (Heap.lt_size e1) e1
  refine call_len_set ho3 hex3 hd3 hf3 (by rw [hn3, hsz]; omega) ⟨.int ys.length, H1, I3.tok _, ⟨_, by rw [hn3, hsz]⟩, q⟩
end
theorem sound_lsv (c : Ctx PR k X C) (r : Rec) (hE : ∀ e, PE X e (rdE X.K (r.E C e))) (f : Str) (as : List Expr) (ks : List Keyword) (p pos : Pos) : PE X (.Call (.Name f p) as ks pos) (rdE X.K (stepE (PR.gx k (callK PR k)) r C (.Call (.Name f p) as ks pos))) := by
  cases hxt : xtOf PR.exs f as ks with
  | some t =>
    have e : ∀ ρ, stepE (PR.gx k (callK PR k)) r C (.Call (.Name f p) as ks pos) ρ = evXt (PR.gx k (callK PR k)) r C ρ t := by
      intro ρ
      show (match xtOf PR.exs f as ks with
        | some t => evXt (PR.gx k (callK PR k)) r C ρ t
        | none => _) = _
      rw [hxt]
    rw [show stepE (PR.gx k (callK PR k)) r C (.Call (.Name f p) as ks pos) = fun ρ => evXt (PR.gx k (callK PR k)) r C ρ t from funext e]
    exact sound_xt c r hE f as ks p pos t hxt
  | none =>
  have hno : ∀ ρ, stepE (PR.gx k (callK PR k)) r C (.Call (.Name f p) as ks pos) ρ = (match lsvOf f as ks with
        | some xp => if lsvOk (PR.gx k (callK PR k)) C then M.bnd (r.E C (.Name xp.1 xp.2) ρ) lvOp else M.bad
        | none => evCall (PR.gx k (callK PR k)) r C ρ f as ks pos) := by
    intro ρ
    show (match xtOf PR.exs f as ks with
      | some t => evXt (PR.gx k (callK PR k)) r C ρ t
      | none => _) = _
    rw [hxt]
    try rfl
  rw [show stepE (PR.gx k (callK PR k)) r C (.Call (.Name f p) as ks pos) = _ from funext hno]
  cases hq : lsvOf f as ks with
  | none =>
    exact sound_call c r hE f as ks p pos
  | some xp =>
    refine PE.of fun σ H Q h => ?_
    obtain ⟨F, mu, ρ, S, d, S1, hr, hS, e, q⟩ := h
    have e0 : (if lsvOk (PR.gx k (callK PR k)) C then M.bnd (r.E C (.Name xp.1 xp.2) ρ) lvOp else M.bad) S = .ok d S1 := e
    split at e0
    next hok =>
      unfold lsvOk at hok
      simp only [Bool.and_eq_true] at hok
      obtain ⟨⟨⟨⟨⟨b1, b2⟩, b3⟩, g1⟩, g2⟩, g3⟩ := hok
      unfold lsvOf at hq
      split at hq
      next f2 p2 f3 p3 x px m ap cp q3 q2 =>
        split at hq
        next hc =>
          obtain ⟨rfl, rfl, rfl, rfl, hl⟩ := hc
          cases hq
          refine ⟨_, pe_lsv c.calm (gl_of c g1) (c.wld.blt _ b1) (gl_of c g2) (c.wld.blt _ b2) (gl_of c g3) (c.wld.blt _ b3) (hE (.Name x px)) base_name hl, ?_⟩
          refine Rdg.seq hr hS e0 fun o S2 v F1 mu1 H1 e1 st hS1 hr1 hv => ?_
          cases hv <;> first | (exfalso; cases e1; done) | skip
          case dref ad j h1 =>
            have e2 : (match (dctAt S2 j).bind fun kvs => textsOf (kvs.map (·.2)) with
              | some ys => if ys.Nodup ∧ ys.length ≤ 1000 then Ev2.R.ok (D.int ys.length) S2 else Ev2.R.bad
              | none => Ev2.R.bad) = Ev2.R.ok d S1 := e1
            cases w1 : dctAt S2 j with
            | none => rw [w1] at e2; cases e2
            | some kvs =>
              rw [w1] at e2
              simp only [Option.bind_some] at e2
              cases w2 : textsOf (kvs.map (·.2)) with
              | none => rw [w2] at e2; cases e2
              | some ys =>
                rw [w2] at e2
                simp only at e2
                split at e2
                next hz =>
                  injection e2 with e3 e4
                  subst e3 e4
                  obtain ⟨ks0, h3, h4⟩ := hS1.dct h1 w1
                  have hrs := h4.vals
                  rw [texts_map w2] at hrs
                  exact ⟨ad, ks0, ys, rfl, h3, str_rps hrs, hz.1, hz.2, q _ F1 mu1 H1 st hS1 (.int _)⟩
                next => cases e2
        next => cases hq
      next => cases hq
    next => exact (no_bad e0).elim

/-- one more turn of the evaluator, expressions -/
theorem sound_stepE (c : Ctx PR k X C) (r : Rec) (hE : ∀ (X : Cx) (C : Cxt), Ctx PR k X C → ∀ e, PE X e (rdE X.K (r.E C e))) (hT : ∀ (X : Cx) (C : Cxt), Ctx PR k X C → ∀ e, PT X e (rdT X.K (r.T C e))) (e : Expr) :
    PE X e (rdE X.K (stepE (PR.gx k (callK PR k)) r C e)) := by
  have hE1 := hE X C c
  have hT1 := hT X C c
  cases e <;> first | exact pe_bad fun _ => rfl | skip
  case BoolOp op vs pos =>
    rcases vs with _ | ⟨a, _ | ⟨b, es⟩⟩
    · cases op <;> exact pe_bad fun _ => rfl
    · cases op <;> exact pe_one (hE1 a)
    · exact sound_andor c r hE1 op a b es pos
  case Dict keys values pos => exact sound_disp c r hE1 keys values pos
  case DictComp kx vx gens scope pos =>
    rcases gens with _ | ⟨⟨tg, iter, ifs, ia⟩, _ | ⟨g2, gs⟩⟩
    · exact pe_bad fun _ => rfl
    · by_cases hia : ia = 0
      · subst hia
        exact sound_compD c (callK PR k) r hE hT kx vx tg iter ifs scope pos
      · refine pe_bad fun ρ => ?_
        unfold stepE
        split <;> first | rfl | (simp_all; done)
    · refine pe_bad fun ρ => ?_
      unfold stepE
      split <;> first | rfl | (simp_all; done)
  case JoinedStr vs pos =>
    rcases vs with _ | ⟨v1, _ | ⟨v2, rest⟩⟩
    · exact pe_bad fun _ => rfl
    · exact pe_bad fun _ => rfl
    · exact sound_fstr c r hE1 v1 v2 rest pos
  case BinOp a op b pos => exact sound_binE (n := 0) c r hE1 a b op pos
  case UnaryOp op a pos => exact sound_unE r hE1 op a pos
  case IfExp t a b pos => exact sound_ifE r hE1 hT1 t a b pos
  case ListComp elt gens scope pos =>
    rcases gens with _ | ⟨⟨tg, iter, ifs, ia⟩, _ | ⟨g2, gs⟩⟩
    · exact pe_bad fun _ => rfl
    · by_cases hia : ia = 0
      · subst hia
        exact sound_comp c (callK PR k) r hE hT elt tg iter ifs scope pos
      · refine pe_bad fun ρ => ?_
        unfold stepE
        split <;> first | rfl | (rename_i hh; injection hh with h1 h2; injection h2 with h3 h4; injection h3 with h5 h6 h7 h8; exact absurd h8 hia) | (simp_all; done)
    · obtain ⟨tg1, iter1, ifs1, ia1⟩ := g2
      by_cases hok : ia = 0 ∧ ia1 = 0 ∧ gs = []
      · obtain ⟨rfl, rfl, rfl⟩ := hok
        exact sound_comp2 c (callK PR k) r hE hT elt tg iter tg1 iter1 ifs ifs1 scope pos
      · refine pe_bad fun ρ => ?_
        unfold stepE
        split <;> first | rfl | (simp_all; done)
  case Compare a ops cs pos =>
    rcases ops with _ | ⟨op, _ | ⟨op2, _ | ⟨op3, ops⟩⟩⟩
    · exact pe_bad fun _ => rfl
    · rcases cs with _ | ⟨b, _ | ⟨b2, cs⟩⟩
      · exact pe_bad fun _ => rfl
      · exact sound_cmpE c r hE1 a b op pos
      · exact pe_bad fun _ => rfl
    · rcases cs with _ | ⟨b, _ | ⟨b2, _ | ⟨b3, cs⟩⟩⟩
      · exact pe_bad fun _ => rfl
      · exact pe_bad fun _ => rfl
      · exact sound_chainE c r hE1 a b b2 op op2 pos
      · exact pe_bad fun _ => rfl
    · exact pe_bad fun _ => rfl
  case Call f as ks pos =>
    cases f <;> first | exact pe_bad fun _ => rfl | skip
    case Name f p => exact sound_lsv c r hE1 f as ks p pos
    case Attribute o m ap =>
      cases o <;> first | exact pe_bad fun _ => rfl | skip
      case Name x p =>
        rcases as with _ | ⟨a, _ | ⟨b, as⟩⟩
        · cases ks with
          | nil => exact sound_meth0 c r hE1 x m p ap pos
          | cons kk ks => exact pe_bad fun _ => rfl
        · cases ks with
          | nil => exact sound_meth c r hE1 x m a p ap pos
          | cons kw ks => exact pe_bad fun _ => rfl
        · exact pe_bad fun _ => rfl
      case Constant cv kk kp =>
        cases cv <;> first | exact pe_bad fun _ => rfl | skip
        rename_i z
        rcases as with _ | ⟨a, _ | ⟨b, as⟩⟩
        · exact pe_bad fun _ => rfl
        · cases ks with
          | nil => exact sound_tmC c r hE1 z kk kp m a ap pos
          | cons kw ks => exact pe_bad fun _ => rfl
        · exact pe_bad fun _ => rfl
      case Call f0 as0 ks0 q0 =>
        cases f0 <;> first | exact pe_bad fun _ => rfl | skip
        rename_i f p
        cases as0 with
        | cons x y => exact pe_bad fun _ => rfl
        | nil =>
          cases ks0 with
          | cons x y => exact pe_bad fun _ => rfl
          | nil =>
            rcases as with _ | ⟨a, _ | ⟨b, as⟩⟩
            · exact pe_bad fun _ => rfl
            · cases ks with
              | nil => exact sound_cindex c r hE1 f m a p q0 ap pos
              | cons kw ks => exact pe_bad fun _ => rfl
            · exact pe_bad fun _ => rfl
  case Constant cv kk pos =>
    cases cv <;> first | exact pe_bad fun _ => rfl | skip
    case none => exact pe_const pe_non fun _ _ => .non
    case bool b => exact pe_const pe_bl fun _ _ => .bl b
    case int i => exact pe_const pe_int fun _ _ => .int i
    case str x => exact pe_const pe_str fun _ _ => .str x
  case Subscript a b pos =>
    by_cases hb : plainIx b = true
    · exact sound_ixE c r hE1 a b pos hb
    · cases b <;> first | (exfalso; exact hb rfl) | skip
      rename_i lo hi st p2
      cases st with
      | none => exact sound_slE c r hE1 a lo hi p2 pos
      | some st => exact sound_rev c r hE1 a lo hi st p2 pos
  case Name x pos => exact sound_name c (callK PR k) x pos
  case List es pos => exact sound_lstE c r hE1 es pos
  case Tuple es kk pos => exact sound_tupE c r hE1 es kk pos
  case Attribute a n pos => exact sound_attr c r hE1 a n pos

theorem PT.pw {op : BoolOp} {vs : List Expr} {pos : Pos} {t : TT} (h : PT X (.BoolOp op vs pos) t) : PW X (.BoolOp op vs pos) t := ⟨fun whole pins s σ H Q I q => h.run pins s σ H Q I q⟩

theorem sound_truthT (c : Ctx PR k X C) (r : Rec) (hE : ∀ e, PE X e (rdE X.K (r.E C e))) (e : Expr) (h0 : stepT (PR.gx k (callK PR k)) r C e = fun ρ => M.bnd (r.E C e ρ) trM) (he : ∀ whole, isTrue e X.env whole = (do let v ← whole; standAt e.pos; holding [v] (truthy v))) :
    PT X e (rdT X.K (stepT (PR.gx k (callK PR k)) r C e)) := by
  rw [h0]
  refine PT.imp (pt_truth (hE e) he) fun σ H Q h => ?_
  obtain ⟨F, mu, ρ, S, d, S1, hr, hS, e1, q⟩ := h
  refine Rdg.seq hr hS e1 fun x S2 v F1 mu1 H1 e2 st1 hS1 hr1 hv => ?_
  obtain ⟨ht, rfl⟩ := trM_ok e2
  exact ⟨d, hS1.truth hv ht, q d F1 mu1 H1 st1 hS1 rfl⟩

theorem sound_stepT (c : Ctx PR k X C) (r : Rec) (hE : ∀ e, PE X e (rdE X.K (r.E C e))) (hT : ∀ e, PT X e (rdT X.K (r.T C e))) (e : Expr) : PT X e (rdT X.K (stepT (PR.gx k (callK PR k)) r C e)) := by
  cases e <;> first | exact sound_truthT c r hE _ rfl (by intro _; rfl) | skip
  case BoolOp op vs pos =>
    rcases vs with _ | ⟨a, _ | ⟨b, es⟩⟩
    · cases op <;> exact pt_bad fun _ => rfl
    · cases op
      · exact PT.imp (pw_and1 (hT a)).pt fun σ H Q h => h
      · exact PT.imp (pw_or1 (hT a)).pt fun σ H Q h => h
    · cases op
      · refine PT.imp (pw_and (hT a) (PT.pw (hT (.BoolOp .And (b :: es) pos)))).pt fun σ H Q h => ?_
        obtain ⟨F, mu, ρ, S, d, S1, hr, hS, e, q⟩ := h
        refine Rdg.seq hr hS (show M.bnd (r.T C a ρ) (fun k => if k then r.T C (.BoolOp .And (b :: es) pos) ρ else M.pu false) S = _ from e) fun kk S2 k2 F1 mu1 H1 e1 st1 hS1 hr1 hv => ?_
        subst hv
        cases k2 with
        | true =>
          rw [if_pos rfl] at e1 ⊢
          exact ⟨F1, mu1, ρ, S2, d, S1, hr1, hS1, e1, fun v F2 mu2 H2 st2 hS2 hv2 => q v F2 mu2 H2 (st1.trans st2) hS2 hv2⟩
        | false =>
          rw [if_neg Bool.false_ne_true] at e1 ⊢
          obtain ⟨rfl, rfl⟩ := pu_ok e1
          exact q false F1 mu1 H1 st1 hS1 rfl
      · refine PT.imp (pw_or (hT a) (PT.pw (hT (.BoolOp .Or (b :: es) pos)))).pt fun σ H Q h => ?_
        obtain ⟨F, mu, ρ, S, d, S1, hr, hS, e, q⟩ := h
        refine Rdg.seq hr hS (show M.bnd (r.T C a ρ) (fun k => if k then M.pu true else r.T C (.BoolOp .Or (b :: es) pos) ρ) S = _ from e) fun kk S2 k2 F1 mu1 H1 e1 st1 hS1 hr1 hv => ?_
        subst hv
        cases k2 with
        | false =>
          rw [if_neg Bool.false_ne_true] at e1 ⊢
          exact ⟨F1, mu1, ρ, S2, d, S1, hr1, hS1, e1, fun v F2 mu2 H2 st2 hS2 hv2 => q v F2 mu2 H2 (st1.trans st2) hS2 hv2⟩
        | true =>
          rw [if_pos rfl] at e1 ⊢
          obtain ⟨rfl, rfl⟩ := pu_ok e1
          exact q true F1 mu1 H1 st1 hS1 rfl
  case UnaryOp op a pos =>
    cases op <;> first | exact sound_truthT c r hE _ rfl (by intro _; rfl) | skip
    refine PT.imp (pt_not (hT a)) fun σ H Q h => ?_
    obtain ⟨F, mu, ρ, S, d, S1, hr, hS, e, q⟩ := h
    refine Rdg.seq hr hS (show M.bnd (r.T C a ρ) (fun k => M.pu (!k)) S = _ from e) fun kk S2 k2 F1 mu1 H1 e1 st1 hS1 hr1 hv => ?_
    subst hv
    obtain ⟨rfl, rfl⟩ := pu_ok e1
    exact q _ F1 mu1 H1 st1 hS1 rfl
  case IfExp t a b pos => exact pt_bad fun _ => rfl
  case Compare a ops cs pos =>
    rcases ops with _ | ⟨op, _ | ⟨op2, _ | ⟨op3, ops⟩⟩⟩
    · exact pt_bad fun _ => rfl
    · rcases cs with _ | ⟨b, _ | ⟨b2, cs⟩⟩
      · exact pt_bad fun _ => rfl
      · exact sound_cmpT c r hE a b op pos
      · exact pt_bad fun _ => rfl
    · rcases cs with _ | ⟨b, _ | ⟨b2, _ | ⟨b3, cs⟩⟩⟩
      · exact pt_bad fun _ => rfl
      · exact pt_bad fun _ => rfl
      · exact sound_chainT c r hE a b b2 op op2 pos
      · exact pt_bad fun _ => rfl
    · exact pt_bad fun _ => rfl

theorem sound_ev (PR : Prg) (k : Nat) : ∀ n : Nat, (∀ (X : Cx) (C : Cxt), Ctx PR k X C → ∀ e, PE X e (rdE X.K ((ev (PR.gx k (callK PR k)) n).E C e))) ∧ (∀ (X : Cx) (C : Cxt), Ctx PR k X C → ∀ e, PT X e (rdT X.K ((ev (PR.gx k (callK PR k)) n).T C e)))
  | 0 => ⟨fun X C c e => pe_bad fun _ => rfl, fun X C c e => pt_bad fun _ => rfl⟩
  | n + 1 => by
    obtain ⟨ih1, ih2⟩ := sound_ev PR k n
    exact ⟨fun X C c e => sound_stepE c _ ih1 ih2 e, fun X C c e => sound_stepT c _ (ih1 X C c) (ih2 X C c) e⟩
end
end Ev2
/-! E9: statements, defs, the law. -/
namespace Ev2
open PySem L2 PyProof.Rows

/-- what is wanted at a statement's end, by the evaluator's answer -/
def EndP (K : PySem.W.Frag) (F : Hp) (mu : List Addr) (H : Hp) (D : Ends) (S1 : Store) : Fl → Prop
  | .nx ρ => ∀ σ1 F1 mu1 H1, Stp F mu H F1 mu1 H1 → Sr K F1 mu1 S1 H1 → Er K F1 mu1 σ1 ρ → D.nx σ1 H1
  | .rt d => ∀ v F1 mu1 H1, Stp F mu H F1 mu1 H1 → Sr K F1 mu1 S1 H1 → Rp K F1 mu1 v d → D.rt v H1
  | .bk ρ => ∀ σ1 F1 mu1 H1, Stp F mu H F1 mu1 H1 → Sr K F1 mu1 S1 H1 → Er K F1 mu1 σ1 ρ → D.bk σ1 H1
  | .ct ρ => ∀ σ1 F1 mu1 H1, Stp F mu H F1 mu1 H1 → Sr K F1 mu1 S1 H1 → Er K F1 mu1 σ1 ρ → D.ct σ1 H1

theorem EndP.later {K : PySem.W.Frag} {F H F1 H1 : Hp} {mu mu1 : List Addr} {D : Ends} {S1 : Store} {f : Fl} (h : EndP K F mu H D S1 f) (a : Stp F mu H F1 mu1 H1) : EndP K F1 mu1 H1 D S1 f := by
  cases f with
  | nx ρ => exact fun σ2 F2 mu2 H2 st hS hr => h σ2 F2 mu2 H2 (a.trans st) hS hr
  | rt d => exact fun v F2 mu2 H2 st hS hr => h v F2 mu2 H2 (a.trans st) hS hr
  | bk ρ => exact fun σ2 F2 mu2 H2 st hS hr => h σ2 F2 mu2 H2 (a.trans st) hS hr
  | ct ρ => exact fun σ2 F2 mu2 H2 st hS hr => h σ2 F2 mu2 H2 (a.trans st) hS hr

def rdS (K : PySem.W.Frag) (m : Ev2.Env → M Fl) : TS := fun D σ H => ∃ F mu ρ S f S1, Er K F mu σ ρ ∧ Sr K F mu S H ∧ m ρ S = .ok f S1 ∧ EndP K F mu H D S1 f

section
variable {PR : Prg} {k : Nat} {X : Cx} {C : Cxt}

theorem PS.of {st : Stmt} {t : TS} (i : ∀ D σ H, t D σ H → ∃ u : TS, PS X st u ∧ u D σ H) : PS X st t := ⟨fun pins s σ H D I q => let ⟨_, h, q2⟩ := i D σ H q; h.run pins s σ H D I q2⟩
theorem PS.imp {st : Stmt} {t u : TS} (h : PS X st t) (i : ∀ D σ H, u D σ H → t D σ H) : PS X st u := ⟨fun pins s σ H D I q => h.run pins s σ H D I (i D σ H q)⟩
theorem ps_bad {st : Stmt} {m : Ev2.Env → M Fl} (h : ∀ ρ, m ρ = M.bad) : PS X st (rdS X.K m) := ⟨fun pins s σ H D I q => by
  obtain ⟨F, mu, ρ, S, f, S1, hr, hS, e, q⟩ := q
  rw [h ρ] at e
  exact (no_bad e).elim⟩

theorem stepE_nocomp {G : Gx} {r : Rec} {C : Cxt} {elt : Expr} {gens : List Comprehension} {scope : Scope} {pos : Pos} {ρ : Ev2.Env} (h : ∀ tg iter ifs, gens ≠ [⟨tg, iter, ifs, 0⟩]) (h2' : ∀ tg iter ifs tg1 iter1 ifs1, gens ≠ [⟨tg, iter, ifs, 0⟩, ⟨tg1, iter1, ifs1, 0⟩]) : stepE G r C (.ListComp elt gens scope pos) ρ = M.bad := by
  unfold stepE
  split <;> first | rfl | (rename_i hh; injection hh with h1 h2 h3 h4; exact absurd h2 (h _ _ _)) | (rename_i hh; injection hh with h1 h2 h3 h4; exact absurd h2 (h2' _ _ _ _ _ _)) | (simp_all; done)

theorem noswap {e : Expr} (h : isComp e = false) (t : Option Expr) (l : Nat) (env : PySem.Env) : swapsWith e t l env = pure false := by
  cases e <;> first | rfl | (simp [isComp] at h; done)

theorem nosole {e : Expr} (h : isComp e = false) (t : Expr) (l : Nat) (env : PySem.Env) : swapsWithSole [t] e l env = pure false := by
  simp only [swapsWithSole]
  exact noswap h _ _ _

/-- name = {..} on one line, the name a local -/
theorem ps_setDc {i : Nat} {y : Str} {py : Pos} {kx vx tg iter : Expr} {ifs : List Expr} {scope : Scope} {own : List (Str × Nat)} {pos spos : Pos} {wi : TI} {g : TG} {tt : TT} {tk tv : TE} (hc : X.calm = true) (hN : X.N.Nodup) (hy : X.N[i]? = some y) (hyl : X.env.scope.names.lookup y = some .local)
    (hsw : swapsWith (.DictComp kx vx [⟨tg, iter, ifs, 0⟩] scope pos) (some (.Name y py)) spos.line X.env = pure true) (hi : PI X tg iter wi) (ok : BlkOk X.N X.env.scope scope own)
    (hg : ∀ (s : Shared) (H : Hp) (Cc : Addr) (cl : List (Str × Addr)) (fp : List Addr), PG (X.blk s H scope (compEnvC scope cl Cc X.env) fp) tg g) (ht : ∀ (s : Shared) (H : Hp) (Cc : Addr) (cl : List (Str × Addr)) (fp : List Addr), PTs (X.blk s H scope (compEnvC scope cl Cc X.env) fp) ifs tt)
    (hk : ∀ (s : Shared) (H : Hp) (Cc : Addr) (cl : List (Str × Addr)) (fp : List Addr), PE (X.blk s H scope (compEnvC scope cl Cc X.env) fp) kx tk)
    (he : ∀ (s : Shared) (H : Hp) (Cc : Addr) (cl : List (Str × Addr)) (fp : List Addr), PE (X.blk s H scope (compEnvC scope cl Cc X.env) fp) vx tv) (hs : ∀ x, foldedSetIterable iter X.env x = pure x) :
    PS X (.Assign [.Name y py] (.DictComp kx vx [⟨tg, iter, ifs, 0⟩] scope pos) spos) (tAsg (tDc wi g tt tk tv (own.map (·.2))) (gName i)) := by
  refine ⟨fun pins s σ H D I h0 => ?_⟩
  rw [exec_Assign_Name_used _ _ _ _ hsw]
  refine wpAny_bind (wpAny_standAt (wpAny_bind ?_))
  have h : tDc wi g tt tk tv (own.map (·.2)) σ H (fun x H1 => gName i x σ H1 D.nx) := h0
  show wpAny _ X.A (do let _ ← comprehension (.DictComp kx vx [⟨tg, iter, ifs, 0⟩] scope pos) scope X.env (firstIterPos [⟨tg, iter, ifs, 0⟩] pos) newDict false (eval iter X.env) (some (assign (.Name y py) X.env))) _ _ s
  refine wpAny_bind (thn (dc_core (Qf := fun _ s' => SP X pins D .next s') hc hN I hi ok hg ht hk he hs h fun L Cc s' m H' I' q hn f => ?_) fun _ s' hq => wpAny_pure (wpAny_pure hq))
  show wpAny _ _ (assign (.Name y py) X.env (.ref L)) _ _ _
  refine wpAny_assign_Name (store_ok2 (v := V.ref L) I' hN hy (.inl hyl) rfl (fun s2 I2 ⟨a, sb, ha⟩ => ?_) (.inr hyl))
  obtain ⟨f0, f1, f2, f3, f4, f5⟩ := f
  have haC : Cc ≠ a := by
    rcases ha with z | z
    · rw [z]; exact f1
    · exact fun e => f4 y a z e.symm
  exact ⟨m, hn.sameBut sb haC, fun h3 sb3 => ⟨_, H', I2.turned (t' := s2.toks) (fun b o hb e => (sb3.2 b hb).trans e) f0 f1 f3 f4 f5, q⟩⟩
theorem sound_setName (c : Ctx PR k X C) (r : Rec) (hE : ∀ (X : Cx) (C : Cxt), Ctx PR k X C → ∀ e, PE X e (rdE X.K (r.E C e))) (hT : ∀ (X : Cx) (C : Cxt), Ctx PR k X C → ∀ e, PT X e (rdT X.K (r.T C e)))
    (sr : SRec) (r0 : Rec) (n0 : Nat) (hr0 : r = ev (PR.gx k (callK PR k)) (n0 + 1)) (hE0 : ∀ (X : Cx) (C : Cxt), Ctx PR k X C → ∀ e, PE X e (rdE X.K ((ev (PR.gx k (callK PR k)) n0).E C e))) (hT0 : ∀ (X : Cx) (C : Cxt), Ctx PR k X C → ∀ e, PT X e (rdT X.K ((ev (PR.gx k (callK PR k)) n0).T C e)))
    (x : Str) (p : Pos) (e : Expr) (pos : Pos) : PS X (.Assign [.Name x p] e pos) (rdS X.K (stepS (PR.gx k (callK PR k)) r sr C (.Assign [.Name x p] e pos))) := by
  refine PS.of fun D σ H h => ?_
  obtain ⟨F, mu, ρ, S, f, S1, hr, hS, e1, q⟩ := h
  have e2 : M.bnd (r.E C e ρ) (fun d => match setVar C x d ρ with | some ρ1 => M.pu (Fl.nx ρ1) | none => M.bad) S = .ok f S1 := e1
  obtain ⟨d, S2, e3, e4⟩ := bnd_ok e2
  cases q1 : setVar C x d ρ with
  | none => rw [q1] at e4; exact (no_bad e4).elim
  | some ρ1 =>
    rw [q1] at e4
    obtain ⟨rfl, rfl⟩ := pu_ok e4
    obtain ⟨i, hi, rfl, hl, hf⟩ := setVar_ok c q1
    have hN : X.N.Nodup := by rw [c.N]; exact c.nd
    have hix : X.N[i]? = some x := by rw [c.N]; exact ixOf_get hi
    -- the reading of the value and of the store behind it
    have rd : tAsg (rdE X.K (r.E C e)) (gName i) D σ H := ⟨F, mu, ρ, S, d, _, hr, hS, e3, fun v F1 mu1 H1 st hS1 hv => q _ F1 mu1 H1 st hS1 ((hr.later st).set hv i)⟩
    by_cases hcomp : isComp e = true
    · cases e <;> first | (exfalso; simp [isComp] at hcomp; done) | skip
      case ListComp elt gens scope lpos =>
        have hb : ∃ b, swapsWith (.ListComp elt gens scope lpos) (some (.Name x p)) pos.line X.env = pure b := ⟨_, rfl⟩
        obtain ⟨b, hb⟩ := hb
        cases b with
        | false => exact ⟨_, ps_set hN hix hl (hE X C c _) hb hf, rd⟩
        | true =>
          have hloc : X.env.scope.names.lookup x = some .local := by
            have h9 : (pure (X.env.blockKind == .function && X.env.kindOf x == some .local && p.line == lpos.line && !(scope.names.any fun (n, k) => n == x && (k == .local || k == .cell))) : Sem Bool) = pure true := hb
            have h8 : (X.env.blockKind == .function && X.env.kindOf x == some .local && p.line == lpos.line && !(scope.names.any fun (n, k) => n == x && (k == .local || k == .cell))) = true := by
              injection h9
            simp only [Bool.and_eq_true] at h8
            have h7 : X.env.kindOf x = some .local := beq_iff_eq.mp h8.1.1.2
            exact h7
          subst hr0
          have e5 : stepE (PR.gx k (callK PR k)) (ev (PR.gx k (callK PR k)) n0) C (.ListComp elt gens scope lpos) ρ S = .ok d S1 := e3
          rcases gens with _ | ⟨⟨tg, iter, ifs, ia⟩, _ | ⟨g2, gs⟩⟩
          · exact (no_bad (S := S) e5).elim
          · by_cases hia : ia = 0
            · subst hia
              have e6 : evComp (PR.gx k (callK PR k)) (ev (PR.gx k (callK PR k)) n0) C elt tg iter ifs scope lpos ρ S = .ok d S1 := e5
              obtain ⟨⟨hbk, hs⟩, rd2⟩ := comp_reading (Q := fun v H1 => D.nx (σ.set i (some v)) H1) c (callK PR k) (ev (PR.gx k (callK PR k)) n0) hr hS e6 fun v F1 mu1 H1 st hS1 hv => q _ F1 mu1 H1 st hS1 ((hr.later st).set hv i)
              exact ⟨_, ps_setLc c.calm hN hix hloc hb (sound_iter c (callK PR k) _ (hE0 X C c) tg iter) hbk (fun s H Cd cls fp => sound_tgt (c.blk scope s H Cd cls fp) tg)
                (fun s H Cd cls fp => sound_tests _ (hT0 _ _ (c.blk scope s H Cd cls fp)) ifs) (fun s H Cd cls fp => hE0 _ _ (c.blk scope s H Cd cls fp) elt) (foldSet hs), rd2⟩
            · rw [stepE_nocomp (by intro a b c hh; injection hh with h1 h2; injection h1 with h3 h4 h5 h6; exact hia h6) (by intro a b c d e f hh; injection hh with h1 h2; cases h2)] at e5
              exact (no_bad e5).elim
          · obtain ⟨tg1, iter1, ifs1, ia1⟩ := g2
            by_cases hok : ia = 0 ∧ ia1 = 0 ∧ gs = []
            · obtain ⟨rfl, rfl, rfl⟩ := hok
              have e6 : evComp2 (PR.gx k (callK PR k)) (ev (PR.gx k (callK PR k)) n0) C elt tg iter ifs tg1 iter1 ifs1 scope lpos ρ S = .ok d S1 := e5
              obtain ⟨⟨hbk, hs, hs1, hv⟩, rd2⟩ := comp2_reading (Q := fun v H1 => D.nx (σ.set i (some v)) H1) c (callK PR k) (ev (PR.gx k (callK PR k)) n0) hr hS e6 fun v F1 mu1 H1 st hS1 hv => q _ F1 mu1 H1 st hS1 ((hr.later st).set hv i)
              exact ⟨_, ps_setLc2 c.calm hN hix hloc hb (sound_iter c (callK PR k) _ (hE0 X C c) tg iter) hbk hv (fun s H Cd cls fp => sound_tgt (c.blk scope s H Cd cls fp) tg)
                (fun s H Cd cls fp => sound_tests _ (hT0 _ _ (c.blk scope s H Cd cls fp)) ifs) (fun s H Cd cls fp => sound_iter (c.blk scope s H Cd cls fp) (callK PR k) _ (hE0 _ _ (c.blk scope s H Cd cls fp)) tg1 iter1) (fun s H Cd cls fp => sound_tgt (c.blk scope s H Cd cls fp) tg1)
                (fun s H Cd cls fp => sound_tests _ (hT0 _ _ (c.blk scope s H Cd cls fp)) ifs1) (fun s H Cd cls fp => hE0 _ _ (c.blk scope s H Cd cls fp) elt) (foldSet hs) (fun env => foldSet hs1), rd2⟩
            · have e7 : stepE (PR.gx k (callK PR k)) (ev (PR.gx k (callK PR k)) n0) C (.ListComp elt (⟨tg, iter, ifs, ia⟩ :: ⟨tg1, iter1, ifs1, ia1⟩ :: gs) scope lpos) ρ = M.bad := by
                unfold stepE
                split <;> first | rfl | (simp_all; done)
              rw [e7] at e5
              exact (no_bad e5).elim
      case SetComp elt gens scope lpos =>
        subst hr0
        exact (no_bad (S := S) (show M.bad S = .ok d S1 from e3)).elim
      case DictComp kx vx gens scope lpos =>
        have hb : ∃ b, swapsWith (.DictComp kx vx gens scope lpos) (some (.Name x p)) pos.line X.env = pure b := ⟨_, rfl⟩
        obtain ⟨b, hb⟩ := hb
        cases b with
        | false => exact ⟨_, ps_set hN hix hl (hE X C c _) hb hf, rd⟩
        | true =>
          have hloc : X.env.scope.names.lookup x = some .local := by
            have h9 : (pure (X.env.blockKind == .function && X.env.kindOf x == some .local && p.line == lpos.line && !(scope.names.any fun (n, k) => n == x && (k == .local || k == .cell))) : Sem Bool) = pure true := hb
            have h8 : (X.env.blockKind == .function && X.env.kindOf x == some .local && p.line == lpos.line && !(scope.names.any fun (n, k) => n == x && (k == .local || k == .cell))) = true := by
              injection h9
            simp only [Bool.and_eq_true] at h8
            exact beq_iff_eq.mp h8.1.1.2
          subst hr0
          have e5 : stepE (PR.gx k (callK PR k)) (ev (PR.gx k (callK PR k)) n0) C (.DictComp kx vx gens scope lpos) ρ S = .ok d S1 := e3
          have nob : (∀ tg iter ifs, gens ≠ [⟨tg, iter, ifs, 0⟩]) → False := fun hne => by
            have e7 : stepE (PR.gx k (callK PR k)) (ev (PR.gx k (callK PR k)) n0) C (.DictComp kx vx gens scope lpos) ρ = M.bad := by
              unfold stepE
              split <;> first | rfl | (simp_all; done)
            rw [e7] at e5
            exact no_bad e5
          by_cases hg : ∃ tg iter ifs, gens = [⟨tg, iter, ifs, 0⟩]
          · obtain ⟨tg, iter, ifs, rfl⟩ := hg
            have e6 : evCompD (PR.gx k (callK PR k)) (ev (PR.gx k (callK PR k)) n0) C kx vx tg iter ifs scope lpos ρ S = .ok d S1 := e5
            obtain ⟨⟨hbk, hs⟩, rd2⟩ := compD_reading (Q := fun v H1 => D.nx (σ.set i (some v)) H1) c (callK PR k) (ev (PR.gx k (callK PR k)) n0) hr hS e6 fun v F1 mu1 H1 st hS1 hv => q _ F1 mu1 H1 st hS1 ((hr.later st).set hv i)
            exact ⟨_, ps_setDc c.calm hN hix hloc hb (sound_iter c (callK PR k) _ (hE0 X C c) tg iter) hbk (fun s H Cd cls fp => sound_tgt (c.blk scope s H Cd cls fp) tg)
              (fun s H Cd cls fp => sound_tests _ (hT0 _ _ (c.blk scope s H Cd cls fp)) ifs) (fun s H Cd cls fp => hE0 _ _ (c.blk scope s H Cd cls fp) kx) (fun s H Cd cls fp => hE0 _ _ (c.blk scope s H Cd cls fp) vx) (foldSet hs), rd2⟩
          · exact (nob fun tg iter ifs e => hg ⟨tg, iter, ifs, e⟩).elim
    · exact ⟨_, ps_set hN hix hl (hE X C c e) (noswap (by simpa using hcomp) _ _ _) hf, rd⟩

/-! ### o[i] = e -/
def rSetE (K : PySem.W.Frag) : TSet := fun o i v H Q => ∃ F mu S a b d S1, Sr K F mu S H ∧ Rp K F mu o a ∧ Rp K F mu i b ∧ Rp K F mu v d ∧ setItemOp a b d S = .ok () S1 ∧ ∀ F1 mu1 H1, Stp F mu H F1 mu1 H1 → Sr K F1 mu1 S1 H1 → Q H1
theorem sound_set (hu : X.A.units + 1 < cLine) : PSet X (rSetE X.K) := by
  intro pins s σ H o i v ov iv u Q I ro ri rv h
  obtain ⟨F, mu, S, a, b, d, S1, hS, h1, h2, h3, e, q⟩ := h
  cases h1 <;> cases h2 <;> first | (exfalso; cases e; done) | skip
  case dref.str =>
    rename_i ad j ha z
    have e' : (match dctAt S j with | some kvs => if kvs.length < sizeLine then R.ok () (S.set j (.dct (putS kvs z d))) else .bad | none => .bad) = R.ok () S1 := e
    cases q1 : dctAt S j with
    | none => rw [q1] at e'; cases e'
    | some kvs =>
      rw [q1] at e'
      simp only at e'
      split at e'
      next hz =>
        cases e'
        obtain ⟨ks, h4, h5⟩ := hS.dct ha q1
        obtain ⟨r1, s1⟩ := hS.putD ha (h5.put (k := z) h3)
        cases ro
        exact d_setItem hu I (DPut.k (k := .inr z) h4 (by rw [h5.length]; exact hz)) ri rv fun s' I' => ⟨_, I', q _ _ _ s1 r1⟩
      next => cases e'
  rename_i ad j ha kk
  have e' : (match lstAt S j with | some xs => (match ixN xs.length kk with | some n => R.ok () (S.set j (.lst (xs.set n d))) | none => .bad) | none => .bad) = R.ok () S1 := e
  cases q1 : lstAt S j with
  | none => rw [q1] at e'; cases e'
  | some ds =>
    rw [q1] at e'
    simp only at e'
    cases q2 : ixN ds.length kk with
    | none => rw [q2] at e'; cases e'
    | some n =>
      rw [q2] at e'
      cases e'
      obtain ⟨xs, h4, h5⟩ := hS.lst ha q1
      obtain ⟨r1, s1⟩ := hS.put ha (h5.set h3 n)
      exact set_list pins s σ H _ _ v ov iv u Q I ro ri rv ⟨ad, xs, kk, n, rfl, rfl, h4, by rw [h5.length]; exact q2, q _ _ _ s1 r1⟩

theorem sound_setItem (c : Ctx PR k X C) (r : Rec) (hE : ∀ e, PE X e (rdE X.K (r.E C e))) (sr : SRec) (o i e : Expr) (p pos : Pos) : PS X (.Assign [.Subscript o i p] e pos) (rdS X.K (stepS (PR.gx k (callK PR k)) r sr C (.Assign [.Subscript o i p] e pos))) := by
  refine PS.of fun D σ H h => ?_
  obtain ⟨F, mu, ρ, S, f, S1, hr, hS, e1, q⟩ := h
  have e2 : (if plainIx i && !isComp e then M.bnd (r.E C e ρ) fun d => M.bnd (r.E C o ρ) fun x => M.bnd (r.E C i ρ) fun y => M.bnd (setItemOp x y d) fun _ => M.pu (Fl.nx ρ) else M.bad) S = .ok f S1 := e1
  split at e2
  next hc =>
    simp only [Bool.and_eq_true, Bool.not_eq_true'] at hc
    have ha : ∀ v, assign (.Subscript o i p) X.env v = (do
      let ov ← holding [v] (eval o X.env)
      let iv ← holding [v, ov] (eval i X.env)
      standAt p
      holding [v, ov, iv] (setItem ov iv v)
      release [v, ov, iv] []) := by
      intro v
      cases i <;> first | rfl | (simp [plainIx] at hc; done)
    refine ⟨_, ps_asg (hE e) (pg_sub (hE o) (hE i) (sound_set (by have := c.room.un; omega)) ha) (nosole hc.2 _ _ _) (by cases e <;> rfl) rfl, ?_⟩
    refine Rdg.seq hr hS e2 fun d S2 v F1 mu1 H1 e3 st1 hS1 hr1 hv => ?_
    refine Rdg.seq hr1 hS1 e3 fun x S3 ov F2 mu2 H2 e4 st2 hS2 hr2 hx => ?_
    refine Rdg.seq hr2 hS2 e4 fun y S4 iv F3 mu3 H3 e5 st3 hS3 hr3 hy => ?_
    obtain ⟨u, S5, e6, e7⟩ := bnd_ok e5
    obtain ⟨rfl, rfl⟩ := pu_ok e7
    refine ⟨F3, mu3, S4, x, y, d, _, hS3, st3.rp hx, hy, st3.rp (st2.rp hv), e6, fun F4 mu4 H4 st4 hS4 => ?_⟩
    exact q _ F4 mu4 H4 (((st1.trans st2).trans st3).trans st4) hS4 (hr3.later st4)
  next => exact (no_bad e2).elim

/-! ### a, b = e -/
theorem star_none {a : Expr} (h : isStar a = false) : (match (generalizing := false) a with | .Starred _ _ => true | _ => false) = false := by
  cases a <;> first | rfl | (simp [isStar] at h; done)

theorem swap_none {ts vs : List Expr} {kk k2 : Nat} {p p2 : Pos} {env : PySem.Env} (h : parOne ts vs = true) : swappedStores [.Tuple ts kk p] (.Tuple vs k2 p2) env = pure none := by
  unfold parOne at h
  unfold swappedStores
  dsimp only
  by_cases h3 : 3 < ts.length
  · have : (!(ts.length == 2 || ts.length == 3) || vs.length != ts.length || env.blockKind != .function) = true := by
      have h1 : (ts.length == 2) = false := by simp; omega
      have h2 : (ts.length == 3) = false := by simp; omega
      rw [h1, h2]
      rfl
    rw [if_pos this]
    try rfl
  · have hf : vs.all (foldedForSure 8) = true := by simpa [h3] using h
    repeat' (first | rfl | split)
    all_goals first | rfl | (exfalso; simp_all; done)

theorem folded_const : ∀ (n : Nat) (z : Expr), foldedForSure n z = true → constantsAlone n z = true := by
  intro n
  induction n with
  | zero =>
    intro z hz
    cases z <;> first | rfl | (simp [foldedForSure] at hz; done) | skip
  | succ n ih =>
    intro z hz
    cases z <;> first | rfl | (simp [foldedForSure] at hz; done) | skip
    case UnaryOp op z1 p1 =>
      cases z1 <;> first | (simp [foldedForSure] at hz; done) | (simp [constantsAlone]; done) | (cases n <;> simp [constantsAlone])
    case Tuple es k3 p3 =>
      simp only [foldedForSure, List.all_eq_true] at hz
      simp only [constantsAlone, List.all_eq_true]
      exact fun z hz2 => ih z (hz z hz2)

theorem rps3 {K : PySem.W.Frag} {F : Hp} {mu : List Addr} {vs : List V} {a b c : D} (h : Rps K F mu vs [a, b, c]) : ∃ x y z, vs = [x, y, z] ∧ Rp K F mu x a ∧ Rp K F mu y b ∧ Rp K F mu z c := by
  cases h with
  | cons h1 h2 =>
    cases h2 with
    | cons h2 h3 =>
      cases h3 with
      | cons h3 h4 =>
        cases h4
        exact ⟨_, _, _, rfl, h1, h2, h3⟩
theorem set_three (c : Ctx PR k X C) {x y z : Str} {px py pz : Pos} {ds : List D} {ρ ρ1 : Env} (q1 : setAll C [.Name x px, .Name y py, .Name z pz] ds ρ = some ρ1) :
    ∃ d1 d2 d3 i j l, ds = [d1, d2, d3] ∧ ixOf C.N x = some i ∧ ixOf C.N y = some j ∧ ixOf C.N z = some l ∧ ρ1 = ((ρ.set i (some d1)).set j (some d2)).set l (some d3) := by
  rcases ds with _ | ⟨d1, _ | ⟨d2, _ | ⟨d3, _ | ⟨d4, ds⟩⟩⟩⟩
  · cases q1
  · cases w : setVar C x d1 ρ with
    | none => simp [setAll, w] at q1
    | some ρ2 => simp [setAll, w] at q1
  · cases w : setVar C x d1 ρ with
    | none => simp [setAll, w] at q1
    | some ρ2 =>
      cases w2 : setVar C y d2 ρ2 with
      | none => simp [setAll, w, w2] at q1
      | some ρ3 => simp [setAll, w, w2] at q1
  · have q2 : (setVar C x d1 ρ).bind (fun ρ2 => (setVar C y d2 ρ2).bind fun ρ3 => (setVar C z d3 ρ3).bind fun ρ4 => setAll C [] [] ρ4) = some ρ1 := q1
    cases w1 : setVar C x d1 ρ with
    | none => rw [w1] at q2; cases q2
    | some ρ2 =>
      rw [w1] at q2
      simp only [Option.bind_some] at q2
      cases w2 : setVar C y d2 ρ2 with
      | none => rw [w2] at q2; cases q2
      | some ρ3 =>
        rw [w2] at q2
        simp only [Option.bind_some] at q2
        cases w3 : setVar C z d3 ρ3 with
        | none => rw [w3] at q2; cases q2
        | some ρ4 =>
          rw [w3] at q2
          simp only [Option.bind_some, setAll, Option.some.injEq] at q2
          subst q2
          obtain ⟨i, hi, rfl, _, _⟩ := setVar_ok c w1
          obtain ⟨j, hj, rfl, _, _⟩ := setVar_ok c w2
          obtain ⟨l, hl, rfl, _, _⟩ := setVar_ok c w3
          exact ⟨d1, d2, d3, i, j, l, rfl, hi, hj, hl, rfl⟩
  · cases w : setVar C x d1 ρ with
    | none => simp [setAll, w] at q1
    | some ρ2 =>
      cases w2 : setVar C y d2 ρ2 with
      | none => simp [setAll, w, w2] at q1
      | some ρ3 =>
        cases w3 : setVar C z d3 ρ3 with
        | none => simp [setAll, w, w2, w3] at q1
        | some ρ4 => simp [setAll, w, w2, w3] at q1

theorem sound_setTuple (c : Ctx PR k X C) (r : Rec) (n0 : Nat) (hr0 : r = ev (PR.gx k (callK PR k)) (n0 + 1)) (hE : ∀ e, PE X e (rdE X.K (r.E C e))) (hE0 : ∀ e, PE X e (rdE X.K ((ev (PR.gx k (callK PR k)) n0).E C e))) (sr : SRec) (ts : List Expr) (kk : Nat) (e : Expr) (p pos : Pos) :
    PS X (.Assign [.Tuple ts kk p] e pos) (rdS X.K (stepS (PR.gx k (callK PR k)) r sr C (.Assign [.Tuple ts kk p] e pos))) := by
  refine ⟨fun pins s σ H D I h => ?_⟩
  obtain ⟨F, mu, ρ, S, f, S1, hr, hS, e1, q⟩ := h
  have e2 : (if isComp e || !parOk C ts e then M.bad else M.bnd (r.E C e ρ) fun d => match unT d with
      | some ds => (match setAll C ts ds ρ with
        | some ρ1 => M.pu (Fl.nx ρ1)
        | none => M.bad)
      | none => M.bad) S = .ok f S1 := e1
  split at e2
  · exact (no_bad e2).elim
  next hc =>
    simp only [Bool.or_eq_true, Bool.not_eq_true', not_or, Bool.not_eq_true, Bool.not_eq_false] at hc
    obtain ⟨hc1, hc2⟩ := hc
    obtain ⟨d, S2, e3, e4⟩ := bnd_ok e2
    cases q0 : unT d with
    | none => rw [q0] at e4; exact (no_bad e4).elim
    | some ds =>
    rw [q0] at e4
    simp only at e4
    cases q1 : setAll C ts ds ρ with
    | none => rw [q1] at e4; exact (no_bad e4).elim
    | some ρ1 =>
      rw [q1] at e4
      obtain ⟨rfl, rfl⟩ := pu_ok e4
      by_cases ht : ∃ vs k2 p2, e = .Tuple vs k2 p2 ∧ parTwo C ts vs = true
      · obtain ⟨vs, k2, p2, rfl, hc9⟩ := ht
        clear hc2
        have hc2 := hc9
        clear hc9
        unfold parTwo at hc2
        split at hc2
        next ts vs x px y py a b =>
          simp only [Bool.and_eq_true, Bool.not_eq_true', decide_eq_true_eq, beq_iff_eq] at hc2
          obtain ⟨⟨⟨⟨⟨⟨c1, c2⟩, c3⟩, c4⟩, c5⟩, c6⟩, c7⟩ := hc2
          have loc_of : ∀ z, isLoc C.sc z = true → X.env.scope.names.lookup z = some .local := fun z hz => by
            rw [c.sc]
            unfold isLoc at hz
            split at hz
            · assumption
            · cases hz
          have hx := loc_of x c1
          have hy := loc_of y c2
          subst hr0
          have e5 : M.bnd (evA (PR.gx k (callK PR k)) (ev (PR.gx k (callK PR k)) n0) C ρ [a, b]) (fun ds => mkT ds) S = .ok d S1 := e3
          obtain ⟨ds', S3, e6, e7⟩ := bnd_ok e5
          have e8 : ds' = ds ∧ S3 = S1 := by
            unfold mkT at e7
            split at e7
            · cases e7; cases q0; exact ⟨rfl, rfl⟩
            · cases e7
          obtain ⟨rfl, rfl⟩ := e8
          -- both names
          rcases ds' with _ | ⟨d1, _ | ⟨d2, _ | ⟨d3, ds⟩⟩⟩
          · cases q1
          · cases w : setVar C x d1 ρ with
            | none => simp [setAll, w] at q1
            | some ρ2 => simp [setAll, w] at q1
          · have q2 : (setVar C x d1 ρ).bind (fun ρ2 => (setVar C y d2 ρ2).bind fun ρ3 => setAll C [] [] ρ3) = some ρ1 := q1
            cases w1 : setVar C x d1 ρ with
            | none => rw [w1] at q2; cases q2
            | some ρ2 =>
              rw [w1] at q2
              simp only [Option.bind_some] at q2
              cases w2 : setVar C y d2 ρ2 with
              | none => rw [w2] at q2; cases q2
              | some ρ3 =>
                rw [w2] at q2
                simp only [Option.bind_some, setAll, Option.some.injEq] at q2
                subst q2
                obtain ⟨i, hi, rfl, _, _⟩ := setVar_ok c w1
                obtain ⟨j, hj, rfl, _, _⟩ := setVar_ok c w2
                have hij : i ≠ j := fun eq => c3 (by
                  have h1 := ixOf_get hi
                  have h2 := ixOf_get hj
                  rw [eq, h2] at h1
                  exact (Option.some.inj h1).symm)
                have hbk : X.env.blockKind = .function := by
                  unfold PySem.Env.blockKind
                  rw [I.ok.kind]
                  rfl
                have hw : swappedStores [.Tuple [.Name x px, .Name y py] kk p] (.Tuple [a, b] k2 p2) X.env = pure (some [x, y]) := by
                  have kx : X.env.kindOf x = some .local := hx
                  have ky : X.env.kindOf y = some .local := hy
                  have hne : (y == x) = false := by simpa using fun eq => c3 (Eq.symm eq)
                  have hs1 := star_none c5
                  have hs2 := star_none c6
                  have hconst : (constantsAlone 8 a && constantsAlone 8 b) = false := c7
                  have hfold : (foldedForSure 8 a && foldedForSure 8 b) = false := by
                    have sub : ∀ z : Expr, foldedForSure 8 z = true → constantsAlone 8 z = true := by
                      have gen : ∀ (n : Nat) (z : Expr), foldedForSure n z = true → constantsAlone n z = true := by
                        intro n
                        induction n with
                        | zero =>
                          intro z hz
                          cases z <;> first | rfl | (simp [foldedForSure] at hz; done) | skip
                        | succ n ih =>
                          intro z hz
                          cases z <;> first | rfl | (simp [foldedForSure] at hz; done) | skip
                          case UnaryOp op z1 p1 =>
                            cases z1 <;> first | (simp [foldedForSure] at hz; done) | (simp [constantsAlone]; done) | (cases n <;> simp [constantsAlone])
                          case Tuple es k3 p3 =>
                            simp only [foldedForSure, List.all_eq_true] at hz
                            simp only [constantsAlone, List.all_eq_true]
                            exact fun z hz2 => ih z (hz z hz2)
                      exact gen 8
                    cases w1 : foldedForSure 8 a with
                    | false => rfl
                    | true =>
                      cases w2 : foldedForSure 8 b with
                      | false => rfl
                      | true =>
                        rw [sub a w1, sub b w2] at hconst
                        cases hconst
                  unfold swappedStores
                  simp only [List.length_cons, List.length_nil, hbk, List.any_cons, hs1, hs2, List.any_nil, kx, ky, c4, List.filterMap_cons, List.filterMap_nil, List.head?_cons, Option.map_some, Option.getD_some, List.all_cons, List.all_nil, Bool.and_true, hfold, hconst, Expr.pos]
                  simp [hne, List.eraseDups_cons, List.eraseDups_nil, hfold, hconst, c3]
                  intro hh
                  exfalso
                  rcases hh with hh | hh
                  · clear hs1 hs2 hfold hconst e6 e3 e5 e1 e2 c7
                    cases a <;> first | (simp [isStar] at c5; done) | cases hh
                  · clear hs1 hs2 hfold hconst e6 e3 e5 e1 e2 c7
                    cases b <;> first | (simp [isStar] at c6; done) | cases hh
                refine (ps_par (i := i) (j := j) (ta := rdA X.K fun ρ => evA (PR.gx k (callK PR k)) (ev (PR.gx k (callK PR k)) n0) C ρ [a, b]) c.calm (by rw [c.N]; exact c.nd) (by rw [c.N]; exact ixOf_get hi) (by rw [c.N]; exact ixOf_get hj) hij hx hy
                  (sound_args _ _ C hE0 [a, b]) hw rfl).run pins s σ H D I ?_
                refine ⟨F, mu, ρ, S, [d1, d2], _, hr, hS, e6, fun us F1 mu1 H1 st hS1 hus => ?_⟩
                obtain ⟨v1, v2, rfl, r1, r2⟩ := rps2 hus
                exact ⟨v1, v2, rfl, q _ F1 mu1 H1 st hS1 (((hr.later st).set r1 i).set r2 j)⟩
          · cases w : setVar C x d1 ρ with
            | none => simp [setAll, w] at q1
            | some ρ2 =>
              cases w2 : setVar C y d2 ρ2 with
              | none => simp [setAll, w, w2] at q1
              | some ρ3 => simp [setAll, w, w2] at q1
        next => cases hc2
      by_cases ht3 : ∃ vs k2 p2, e = .Tuple vs k2 p2 ∧ parThree C ts vs = true
      · obtain ⟨vs, k2, p2, rfl, hc9⟩ := ht3
        clear hc2 ht
        have hc2 := hc9
        clear hc9
        unfold parThree at hc2
        split at hc2
        next ts vs x px y py z pz a b w =>
          simp only [Bool.and_eq_true, Bool.not_eq_true', decide_eq_true_eq, beq_iff_eq] at hc2
          obtain ⟨⟨⟨⟨⟨⟨⟨⟨⟨⟨⟨c1, c2⟩, c3⟩, c4⟩, c5⟩, c6⟩, c7⟩, c8⟩, c9⟩, c10⟩, c11⟩, c12⟩ := hc2
          have loc_of : ∀ z, isLoc C.sc z = true → X.env.scope.names.lookup z = some .local := fun z hz => by
            rw [c.sc]
            unfold isLoc at hz
            split at hz
            · assumption
            · cases hz
          have hx := loc_of x c1
          have hy := loc_of y c2
          have hz := loc_of z c3
          subst hr0
          have e5 : M.bnd (evA (PR.gx k (callK PR k)) (ev (PR.gx k (callK PR k)) n0) C ρ [a, b, w]) (fun ds => mkT ds) S = .ok d S1 := e3
          obtain ⟨ds', S3, e6, e7⟩ := bnd_ok e5
          have e8 : ds' = ds ∧ S3 = S1 := by
            unfold mkT at e7
            split at e7
            · cases e7; cases q0; exact ⟨rfl, rfl⟩
            · cases e7
          obtain ⟨rfl, rfl⟩ := e8
          obtain ⟨d1, d2, d3, i, j, l, rfl, hi, hj, hl, rfl⟩ := set_three c q1
          have ne : ∀ {u v : Str} {m n : Nat}, ixOf C.N u = some m → ixOf C.N v = some n → u ≠ v → m ≠ n := fun h1 h2 hn eq => hn (by
            have h1 := ixOf_get h1
            have h2 := ixOf_get h2
            rw [eq, h2] at h1
            exact (Option.some.inj h1).symm)
          have hbk : X.env.blockKind = .function := by
            unfold PySem.Env.blockKind
            rw [I.ok.kind]
            rfl
          have hw : swappedStores [.Tuple [.Name x px, .Name y py, .Name z pz] kk p] (.Tuple [a, b, w] k2 p2) X.env = pure (some [x, y, z]) := by
            have kx : X.env.kindOf x = some .local := hx
            have ky : X.env.kindOf y = some .local := hy
            have kz : X.env.kindOf z = some .local := hz
            have n1 : (y == x) = false := by simpa using fun eq => c4 (Eq.symm eq)
            have n2 : (z == x) = false := by simpa using fun eq => c5 (Eq.symm eq)
            have n3 : (z == y) = false := by simpa using fun eq => c6 (Eq.symm eq)
            have hs1 := star_none c9
            have hs2 := star_none c10
            have hs3 := star_none c11
            have hconst : (constantsAlone 8 a && (constantsAlone 8 b && constantsAlone 8 w)) = false := by rw [← Bool.and_assoc]; exact c12
            have hfold : (foldedForSure 8 a && (foldedForSure 8 b && foldedForSure 8 w)) = false := by
              cases w1 : foldedForSure 8 a with
              | false => rfl
              | true =>
                cases w2 : foldedForSure 8 b with
                | false => rfl
                | true =>
                  cases w3 : foldedForSure 8 w with
                  | false => rfl
                  | true =>
                    rw [folded_const 8 a w1, folded_const 8 b w2, folded_const 8 w w3] at hconst
                    cases hconst
            have d7 := c7.symm
            have d8 := c8.symm
            unfold swappedStores
            simp only [List.length_cons, List.length_nil, hbk, List.any_cons, hs1, hs2, hs3, List.any_nil, kx, ky, kz, d7, d8, List.filterMap_cons, List.filterMap_nil, List.head?_cons, Option.map_some, Option.getD_some, List.all_cons, List.all_nil, Bool.and_true, hfold, hconst, Expr.pos]
            simp [n1, n2, n3, List.eraseDups_cons, List.eraseDups_nil, hfold, hconst, d7, d8]
            intro hh
            exfalso
            rcases hh with hh | hh | hh
            · clear hs1 hs2 hs3 hfold hconst e6 e3 e5 e1 e2 c12
              cases a <;> first | (simp [isStar] at c9; done) | cases hh
            · clear hs1 hs2 hs3 hfold hconst e6 e3 e5 e1 e2 c12
              cases b <;> first | (simp [isStar] at c10; done) | cases hh
            · clear hs1 hs2 hs3 hfold hconst e6 e3 e5 e1 e2 c12
              cases w <;> first | (simp [isStar] at c11; done) | cases hh
          refine (ps_par3 (i := i) (j := j) (l := l) (ta := rdA X.K fun ρ => evA (PR.gx k (callK PR k)) (ev (PR.gx k (callK PR k)) n0) C ρ [a, b, w]) c.calm (by rw [c.N]; exact c.nd) (by rw [c.N]; exact ixOf_get hi) (by rw [c.N]; exact ixOf_get hj) (by rw [c.N]; exact ixOf_get hl) (ne hi hj c4) (ne hi hl c5) (ne hj hl c6) hx hy hz
            (sound_args _ _ C hE0 [a, b, w]) hw rfl).run pins s σ H D I ?_
          refine ⟨F, mu, ρ, S, [d1, d2, d3], _, hr, hS, e6, fun us F1 mu1 H1 st hS1 hus => ?_⟩
          obtain ⟨v1, v2, v3, rfl, r1, r2, r3⟩ := rps3 hus
          exact ⟨v1, v2, v3, rfl, q _ F1 mu1 H1 st hS1 ((((hr.later st).set r1 i).set r2 j).set r3 l)⟩
        next => cases hc2
      · have hw : swappedStores [.Tuple ts kk p] e X.env = pure none := by
          by_cases ht2 : ∃ vs k2 p2, e = .Tuple vs k2 p2
          · obtain ⟨vs, k2, p2, rfl⟩ := ht2
            refine swap_none ?_
            have hc3 : (parTwo C ts vs || (parThree C ts vs || parOne ts vs)) = true := hc2
            cases w : parTwo C ts vs with
            | true => exact absurd ⟨_, _, _, rfl, w⟩ ht
            | false =>
              rw [w] at hc3
              cases w3 : parThree C ts vs with
              | true => exact absurd ⟨_, _, _, rfl, w3⟩ ht3
              | false => rw [w3] at hc3; exact hc3
          · cases e <;> first | rfl | (exfalso; exact ht2 ⟨_, _, _, rfl⟩)
        refine (ps_asg (hE e) (sound_tgt c (.Tuple ts kk p)) (nosole hc1 _ _ _) hw rfl).run pins s σ H D I ?_
        refine ⟨F, mu, ρ, S, _, _, hr, hS, e3, fun v F1 mu1 H1 st hS1 hv => ?_⟩
        exact ⟨F1, mu1, d, ρ, ρ1, hS1.sub, hr.later st, hv, tgt_of_all q0 q1, fun σ1 hr1 _ => q σ1 F1 mu1 H1 st hS1 hr1⟩
end
end Ev2
/-! E10: loops, blocks, defs, the law. -/
namespace Ev2
open PySem L2 PyProof.Rows

section
variable {PR : Prg} {k : Nat} {X : Cx} {C : Cxt}

theorem sound_for (c : Ctx PR k X C) (r : Rec) (hE : ∀ e, PE X e (rdE X.K (r.E C e))) (sr : SRec) (hSs : ∀ b, PSs X b (rdS X.K (sr.Ss C b))) (tg iter : Expr) (body : List Stmt) (pos : Pos) :
    PS X (.For tg iter body [] pos) (rdS X.K (stepS (PR.gx k (callK PR k)) r sr C (.For tg iter body [] pos))) := by
  refine PS.of fun D σ H h => ?_
  obtain ⟨F, mu, ρ, S, f, S1, hr, hS, e1, q⟩ := h
  have e2 : (if isSetE iter then M.bad else M.bnd (evIter (PR.gx k (callK PR k)) r C ρ tg iter) fun s => M.bnd (goSrc (loopB sr C tg body) s (.nx ρ)) loopEnd) S = .ok f S1 := e1
  split at e2
  · exact (no_bad e2).elim
  next hs =>
    refine ⟨_, ps_for (by rw [c.xe]; exact PassesOwn.never) c.calm (sound_iter c (callK PR k) r hE tg iter) (sound_tgt c tg) (hSs body) (foldSet (by simpa using hs)), ?_⟩
    obtain ⟨src, S2, e3, e4⟩ := bnd_ok e2
    obtain ⟨fl, S3, e5, e6⟩ := bnd_ok e4
    refine ⟨F, mu, ρ, S, src, S2, hr, hS, e3, fun J F1 mu1 H1 st hS1 hy => ?_⟩
    obtain ⟨Rem, m0, run, hrem⟩ := run_of e5
    refine ⟨fun i m σ' H' => ∃ F' mu' S' ρ', Stp F1 mu1 H1 F' mu' H' ∧ Sr X.K F' mu' S' H' ∧ Er X.K F' mu' σ' ρ' ∧ Rem i m (.nx ρ') S', ⟨m0, F1, mu1, S2, ρ, Stp.refl, hS1, hr.later st, hrem⟩, ?_⟩
    rintro i m σ' H' ⟨F', mu', S', ρ', st', hS', hr', hrem'⟩
    obtain ⟨ds, hds, hcase⟩ := run.step i m _ S' hrem'
    obtain ⟨hgo, hstop⟩ := hy F' mu' S' H' st'.grw hS' ds hds i
    rcases hcase with ⟨x, st1, S4, m1, hx, ef, hm, hrem1⟩ | ⟨hl, rfl, rfl⟩
    · right
      obtain ⟨g1, g2⟩ := hgo x hx
      refine ⟨g1, fun σ2 H2 => ∃ m1, m1 < m ∧ ∃ F' mu' S' ρ', Stp F1 mu1 H1 F' mu' H2 ∧ Sr X.K F' mu' S' H2 ∧ Er X.K F' mu' σ2 ρ' ∧ Rem (i + 1) m1 (.nx ρ') S', fun σ2 H2 h2 => h2, fun v H2 hyl => ?_⟩
      obtain ⟨F2, st2, hS2, hv⟩ := g2 v H2 hyl
      have ef' : (match setTgt C tg x ρ' with
        | some ρ1 => M.bnd (sr.Ss C body ρ1) fun f => match f with
          | .nx ρ2 => M.pu (Fl.nx ρ2)
          | .ct ρ2 => M.pu (Fl.nx ρ2)
          | f => M.pu f
        | none => M.bad) S' = .ok st1 S4 := ef
      cases q1 : setTgt C tg x ρ' with
      | none => rw [q1] at ef'; exact (no_bad ef').elim
      | some ρ1 =>
        rw [q1] at ef'
        refine ⟨F2, mu', x, ρ', ρ1, hS2.sub, hr'.later st2, hv, q1, fun σ1 hr1 _ => ?_⟩
        obtain ⟨f1, S5, e7, e8⟩ := bnd_ok ef'
        refine ⟨F2, mu', ρ1, S', f1, S5, hr1, hS2, e7, ?_⟩
        have all := st'.trans st2
        -- an end that leaves the loop
        have out : ∀ (g : Fl), (∀ d, loopB sr C tg body d g S4 = .ok g S4) → st1 = g → fl = g ∧ S3 = S4 := fun g hg e9 => by
          subst e9
          exact run.idle (i + 1) m1 _ S4 hrem1 hg
        cases f1 with
        | nx ρ2 =>
          obtain ⟨rfl, rfl⟩ := pu_ok e8
          exact fun σ3 F3 mu3 H3 st3 hS3 hr3 => ⟨m1, hm, F3, mu3, _, ρ2, all.trans st3, hS3, hr3, hrem1⟩
        | ct ρ2 =>
          obtain ⟨rfl, rfl⟩ := pu_ok e8
          exact fun σ3 F3 mu3 H3 st3 hS3 hr3 => ⟨m1, hm, F3, mu3, _, ρ2, all.trans st3, hS3, hr3, hrem1⟩
        | rt d =>
          obtain ⟨rfl, rfl⟩ := pu_ok e8
          obtain ⟨rfl, rfl⟩ := out (.rt d) (fun _ => rfl) rfl
          obtain ⟨rfl, rfl⟩ := pu_ok (show M.pu (Fl.rt d) S3 = _ from e6)
          exact fun v F3 mu3 H3 st3 hS3 hv3 => q v F3 mu3 H3 ((st.trans all).trans st3) hS3 hv3
        | bk ρ2 =>
          obtain ⟨rfl, rfl⟩ := pu_ok e8
          obtain ⟨rfl, rfl⟩ := out (.bk ρ2) (fun _ => rfl) rfl
          obtain ⟨rfl, rfl⟩ := pu_ok (show M.pu (Fl.nx ρ2) S3 = _ from e6)
          exact fun σ3 F3 mu3 H3 st3 hS3 hr3 => q σ3 F3 mu3 H3 ((st.trans all).trans st3) hS3 hr3
    · left
      refine ⟨hstop hl, ?_⟩
      obtain ⟨rfl, rfl⟩ := pu_ok (show M.pu (Fl.nx ρ') S' = _ from e6)
      exact q σ' F' mu' H' (st.trans st') hS' hr'

def rAugE (K : PySem.W.Frag) (op : Operator) : TIp := fun x y H Q => ∃ F mu S a b d S1, Sr K F mu S H ∧ Rp K F mu x a ∧ Rp K F mu y b ∧ augOp op a b S = .ok d S1 ∧ Post K F mu H d S1 Q
theorem sound_aug (op : Operator) : PIp X op (rAugE X.K op) := by
  intro pins s σ H x y v u Q I rx ry h
  obtain ⟨F, mu, S, a, b, d, S1, hS, hx, hy, e, p⟩ := h
  cases op <;> first | (exfalso; exact no_bad (S := S) e) | skip
  · cases hx <;> cases hy <;> first | (exfalso; cases e; done) | skip
    obtain ⟨rfl, rfl⟩ := pu_ok e
    exact iop_add pins s σ H _ _ v u Q I rx ry ⟨_, _, rfl, rfl, p.at hS (.int _)⟩
  · cases hx <;> cases hy <;> first | (exfalso; cases e; done) | skip
    rename_i i j
    have e : (if i.natAbs.log2 + j.natAbs.log2 < 1000000 then M.pu (D.int (i * j)) else M.bad) S = .ok d S1 := e
    split at e
    next hc =>
      obtain ⟨rfl, rfl⟩ := pu_ok e
      obtain ⟨t, rfl⟩ := rx
      obtain ⟨t', rfl⟩ := ry
      exact imul_int ⟨.int _, H, I.tok _, ⟨_, rfl⟩, p.at hS (.int _)⟩ (CMulW.ok hc)
    next => exact (no_bad e).elim

theorem sound_augS (c : Ctx PR k X C) (r : Rec) (n0 : Nat) (hr0 : r = ev (PR.gx k (callK PR k)) (n0 + 1)) (hE : ∀ e, PE X e (rdE X.K (r.E C e))) (sr : SRec) (x : Str) (p : Pos) (op : Operator) (e : Expr) (pos : Pos) :
    PS X (.AugAssign (.Name x p) op e pos) (rdS X.K (stepS (PR.gx k (callK PR k)) r sr C (.AugAssign (.Name x p) op e pos))) := by
  refine PS.of fun D σ H h => ?_
  obtain ⟨F, mu, ρ, S, f, S1, hr, hS, e1, q⟩ := h
  have e2 : M.bnd (r.E C (.Name x p) ρ) (fun a => M.bnd (r.E C e ρ) fun b => M.bnd (augOp op a b) fun d => match setVar C x d ρ with
      | some ρ1 => M.pu (Fl.nx ρ1)
      | none => M.bad) S = .ok f S1 := e1
  obtain ⟨a, S2, e3, e4⟩ := bnd_ok e2
  obtain ⟨b, S3, e5, e6⟩ := bnd_ok e4
  obtain ⟨d, S4, e7, e8⟩ := bnd_ok e6
  cases q1 : setVar C x d ρ with
  | none => rw [q1] at e8; exact (no_bad e8).elim
  | some ρ1 =>
    rw [q1] at e8
    obtain ⟨rfl, rfl⟩ := pu_ok e8
    obtain ⟨i, hi, rfl, hl, hf⟩ := setVar_ok c q1
    -- the name's value
    subst hr0
    have e9 : getVar (PR.gx k (callK PR k)) C x ρ S = .ok a S2 := e3
    have hvis : isVis C.sc x = true := by
      rw [c.sc] at hl
      unfold isVis
      rcases hl with hl | hl <;> rw [hl]
    unfold getVar at e9
    split at e9
    · exact (no_bad e9).elim
    next ho =>
      rw [hi] at e9
      simp only at e9
      cases q2 : ρ[i]? with
      | none => rw [q2] at e9; exact (no_bad e9).elim
      | some o =>
        cases o with
        | none => rw [q2] at e9; exact (no_bad e9).elim
        | some a' =>
          rw [q2] at e9
          obtain ⟨rfl, rfl⟩ := pu_ok e9
          obtain ⟨v, h1, h2⟩ := hr.at_ i a q2
          refine ⟨_, ps_aug (by rw [c.N]; exact c.nd) (by rw [c.N]; exact ixOf_get hi) hl (hE e) (sound_aug op) hf, v, h1, ?_⟩
          refine ⟨F, mu, ρ, _, b, S3, hr, hS, e5, fun u F1 mu1 H1 st hS1 hu => ?_⟩
          exact ⟨F1, mu1, S3, a, b, d, _, hS1, st.rp h2, hu, e7, fun w F2 mu2 H2 st2 hS2 hw => q _ F2 mu2 H2 (st.trans st2) hS2 ((hr.later (st.trans st2)).set hw i)⟩

/-- one more turn of the evaluator, statements -/
theorem sound_stepS (c : Ctx PR k X C) (n0 : Nat) (sr : SRec) (hSs : ∀ b, PSs X b (rdS X.K (sr.Ss C b))) (st : Stmt) : PS X st (rdS X.K (stepS (PR.gx k (callK PR k)) (ev (PR.gx k (callK PR k)) (n0 + 1)) sr C st)) := by
  obtain ⟨hE0, hT0⟩ := sound_ev PR k n0
  obtain ⟨hE, hT⟩ := sound_ev PR k (n0 + 1)
  have hE1 := hE X C c
  have hT1 := hT X C c
  cases st <;> first | exact ps_bad fun _ => rfl | skip
  case Return v pos =>
    cases v with
    | none =>
      refine PS.imp ps_retN fun D σ H h => ?_
      obtain ⟨F, mu, ρ, S, f, S1, hr, hS, e, q⟩ := h
      obtain ⟨rfl, rfl⟩ := pu_ok (show M.pu (Fl.rt .non) S = _ from e)
      exact q _ F mu H Stp.refl hS .non
    | some v =>
      refine PS.imp (ps_ret (hE1 v)) fun D σ H h => ?_
      obtain ⟨F, mu, ρ, S, f, S1, hr, hS, e, q⟩ := h
      refine Rdg.seq hr hS (show M.bnd ((ev (PR.gx k (callK PR k)) (n0 + 1)).E C v ρ) (fun d => M.pu (Fl.rt d)) S = _ from e) fun d S2 v F1 mu1 H1 e1 st1 hS1 hr1 hv => ?_
      obtain ⟨rfl, rfl⟩ := pu_ok e1
      exact q v F1 mu1 H1 st1 hS1 hv
  case Assign ts e pos =>
    rcases ts with _ | ⟨t, _ | ⟨t2, ts⟩⟩
    · exact ps_bad fun _ => rfl
    · cases t <;> first | exact ps_bad fun _ => rfl | skip
      case Subscript o i p => exact sound_setItem c _ hE1 sr o i e p pos
      case Name x p => exact sound_setName c _ hE hT sr (ev (PR.gx k (callK PR k)) n0) n0 rfl hE0 hT0 x p e pos
      case Tuple ts kk p => exact sound_setTuple c _ n0 rfl hE1 (hE0 X C c) sr ts kk e p pos
    · cases t <;> exact ps_bad fun _ => rfl
  case AugAssign t op e pos =>
    cases t <;> first | exact ps_bad fun _ => rfl | skip
    rename_i x p
    exact sound_augS c _ n0 rfl hE1 sr x p op e pos
  case For tg iter body orelse pos =>
    cases orelse with
    | nil => exact sound_for c _ hE1 sr hSs tg iter body pos
    | cons a b => exact ps_bad fun _ => rfl
  case If t a b pos =>
    refine PS.imp (ps_if (hT1 t) (hSs a) (hSs b)) fun D σ H h => ?_
    obtain ⟨F, mu, ρ, S, f, S1, hr, hS, e, q⟩ := h
    refine Rdg.seq hr hS (show M.bnd ((ev (PR.gx k (callK PR k)) (n0 + 1)).T C t ρ) (fun k => if k then sr.Ss C a ρ else sr.Ss C b ρ) S = _ from e) fun kk S2 k2 F1 mu1 H1 e1 st1 hS1 hr1 hv => ?_
    subst hv
    cases k2 with
    | true =>
      rw [if_pos rfl] at e1 ⊢
      exact ⟨F1, mu1, ρ, S2, f, S1, hr1, hS1, e1, q.later st1⟩
    | false =>
      rw [if_neg Bool.false_ne_true] at e1 ⊢
      exact ⟨F1, mu1, ρ, S2, f, S1, hr1, hS1, e1, q.later st1⟩
  case Expr e pos =>
    refine PS.of fun D σ H h => ?_
    obtain ⟨F, mu, ρ, S, f, S1, hr, hS, e1, q⟩ := h
    have e2 : (if isComp e then M.bad else M.bnd ((ev (PR.gx k (callK PR k)) (n0 + 1)).E C e ρ) fun _ => M.pu (Fl.nx ρ)) S = .ok f S1 := e1
    split at e2
    · exact (no_bad e2).elim
    next hc =>
      refine ⟨_, ps_expr (hE1 e) (noswap (by simpa using hc) _ _ _), ?_⟩
      refine Rdg.seq hr hS e2 fun d S2 v F1 mu1 H1 e1 st1 hS1 hr1 hv => ?_
      obtain ⟨rfl, rfl⟩ := pu_ok e1
      exact q σ F1 mu1 H1 st1 hS1 hr1
  case Pass pos =>
    refine PS.imp ps_pass fun D σ H h => ?_
    obtain ⟨F, mu, ρ, S, f, S1, hr, hS, e, q⟩ := h
    obtain ⟨rfl, rfl⟩ := pu_ok (show M.pu (Fl.nx ρ) S = _ from e)
    exact q σ F mu H Stp.refl hS hr
  case Break pos =>
    refine PS.imp ps_break fun D σ H h => ?_
    obtain ⟨F, mu, ρ, S, f, S1, hr, hS, e, q⟩ := h
    obtain ⟨rfl, rfl⟩ := pu_ok (show M.pu (Fl.bk ρ) S = _ from e)
    exact q σ F mu H Stp.refl hS hr
  case Continue pos =>
    refine PS.imp ps_continue fun D σ H h => ?_
    obtain ⟨F, mu, ρ, S, f, S1, hr, hS, e, q⟩ := h
    obtain ⟨rfl, rfl⟩ := pu_ok (show M.pu (Fl.ct ρ) S = _ from e)
    exact q σ F mu H Stp.refl hS hr

theorem sound_block {one : Cxt → Stmt → Ev2.Env → M Fl} (sr : SRec) (h1 : ∀ st, PS X st (rdS X.K (one C st))) : ∀ b : List Stmt, PSs X b (rdS X.K (stepSs sr one C b))
  | [] => ⟨fun pins s σ H D I h => by
    obtain ⟨F, mu, ρ, S, f, S1, hr, hS, e, q⟩ := h
    obtain ⟨rfl, rfl⟩ := pu_ok (show M.pu (Fl.nx ρ) S = _ from e)
    exact (pss_nil (X := X)).run pins s σ H D I (q σ F mu H Stp.refl hS hr)⟩
  | st :: rest => ⟨fun pins s σ H D I h => by
    have ih := sound_block sr h1 rest
    obtain ⟨F, mu, ρ, S, f, S1, hr, hS, e, q⟩ := h
    obtain ⟨f1, S2, e1, e2⟩ := bnd_ok (show M.bnd (one C st ρ) (fun f => match f with | .nx ρ1 => stepSs sr one C rest ρ1 | f => M.pu f) S = _ from e)
    refine (pss_cons (h1 st) ih).run pins s σ H D I ⟨F, mu, ρ, S, f1, S2, hr, hS, e1, ?_⟩
    cases f1 with
    | nx ρ1 => exact fun σ1 F1 mu1 H1 st1 hS1 hr1 => ⟨F1, mu1, ρ1, S2, f, S1, hr1, hS1, e2, q.later st1⟩
    | rt d => obtain ⟨rfl, rfl⟩ := pu_ok e2; exact q
    | bk ρ1 => obtain ⟨rfl, rfl⟩ := pu_ok e2; exact q
    | ct ρ1 => obtain ⟨rfl, rfl⟩ := pu_ok e2; exact q⟩

theorem sound_evS (c : Ctx PR k X C) (n0 : Nat) : ∀ n : Nat, ∀ b, PSs X b (rdS X.K ((evS (PR.gx k (callK PR k)) (ev (PR.gx k (callK PR k)) (n0 + 1)) n).Ss C b))
  | 0 => fun b => ⟨fun pins s σ H D I h => by
    obtain ⟨F, mu, ρ, S, f, S1, hr, hS, e, q⟩ := h
    exact (no_bad (S := S) e).elim⟩
  | n + 1 => fun b => sound_block _ (sound_stepS c n0 _ (sound_evS c n0 n)) b
end

/-! ### defs -/
section
variable {P : Program} {w : World} {K : PySem.W.Frag} {mg : Str → Option Value} {base : Heap}

/-- a def's promise from its body, where no repr is under way -/
theorem fn_g {x qual : Str} {st : Stmt} {f : Addr} {fd : FuncData} {N ps : List Str} {k : Nat} {sp : Sp} (F : Fun K x qual st f fd) (S : FnScope N ps (defScope st)) (len : ∀ vs H Q E, sp vs H Q E → vs.length = ps.length)
    (body : ∀ (cdv : Value) (A : Around) (outer : List PySem.Env) (s : Shared) (H : Hp) (vs : List V) (Q : VK) (E : XK), Room k (A.deeper (envOfC qual (defScope st) s.heap.objs.size f cdv)) → A.guards = some [] → sp vs H Q E →
      ∃ t, PSs (cxOf CX0 P w K mg base N qual (defScope st) f cdv A outer s H E).nox (defBody st) t ∧ t { nx := fun _ H1 => Q .non H1, rt := Q } (L2.start N vs) H) : FnG P w K mg base CX0 (k + 1) f fd ps sp := by
  obtain ⟨oc, od, kV, doc, pm, an, cdv, ct, osl, rfl, lk, hcd⟩ := F.ex
  refine ⟨len, fun A outer s H args us vs Q E room gd e0 bd rv hsp => ?_⟩
  have kept : ∀ b o, base.get? b = some o → s.heap.get? b = some o := fun b o e => (e0.bs b o e).1
  have KX : K.In s.heap := e0.mod.kin.keeps kept
  have kinds : ∀ y ∈ ps.zip us, (defScope st).names.lookup y.1 = some .local ∨ ((defScope st).names.lookup y.1 = some .cell ∧ ((cellsFrom (s.heap.objs.size + 1) (defScope st).names []).lookup y.1).isSome = true) := by
    rintro ⟨n, v⟩ hy
    exact (S.par n (List.of_mem_zip hy).1).imp id fun q => ⟨q, PySem.W.cellsFrom_some _ _ _ (.inl q)⟩
  refine codeAny_call_function room.depth (KX _ _ lk) rfl S.co S.gen rfl (PySem.W.codeRec_of KX hcd) (bd _ _ _ _ (wpAny_newFunctionEnv_cells S.kind kinds ?_))
  rintro env rfl s1 ic
  refine ⟨(e0.mod.nolimit.keeps kept).keeps ic.toInCall.keep, codeAny_func ?_⟩
  obtain ⟨t, ht, hq⟩ := body cdv A outer s H vs Q E (room.deeper _) gd hsp
  have I : L2.Inv (cxOf CX0 P w K mg base N qual (defScope st) f cdv A outer s H E) [] (L2.start N vs) H s1 := inv_start S room.hd e0 (len _ _ _ _ hsp) rv ic
  refine wpAny_mono (ht.nox.run [] s1 (L2.start N vs) H _ I hq) (fun fl s2 hs => ?_) fun _ _ hs => hs
  cases fl with
  | ret u => obtain ⟨v, _, H2, J, r2, q2⟩ := hs; exact ⟨v, H2, J.os, J.bare, J.base, J.hok, r2, q2⟩
  | next => obtain ⟨_, H2, J, q2⟩ := hs; exact ⟨.non, H2, J.os, J.bare, J.base, J.hok, rfl, q2⟩
  | brk => obtain ⟨_, _, _, q2⟩ := hs; exact q2.elim
  | cont => obtain ⟨_, _, _, q2⟩ := hs; exact q2.elim

/-- where the defs of the text stand -/
def Stand (K : PySem.W.Frag) (mg : Str → Option Value) (PR : Prg) : Prop := ∀ x d, PR.defs x = some d → ∃ (f : Addr) (fd : FuncData) (st : Stmt),
  mg x = some (.ref f) ∧ Fun K x x st f fd ∧ FnScope d.N d.ps (defScope st) ∧ d.sc = defScope st ∧ d.body = defBody st ∧ Binds K fd d.ps [] ∧ ∀ p ∈ d.kp, KwB K fd d.ps p

theorem start_er {K : PySem.W.Frag} {F : Hp} {mu : List Addr} {N : List Str} {vs : List V} {ds : List D} (h : Rps K F mu vs ds) : Er K F mu (L2.start N vs) (ds.map some ++ List.replicate (N.length - ds.length) none) := by
  unfold L2.start
  have hl := h.length
  refine ⟨by simp [hl], fun i d e => ?_⟩
  by_cases hi : i < ds.length
  · rw [List.getElem?_append_left (by simpa using hi), List.getElem?_map] at e
    cases q : ds[i]? with
    | none => rw [q] at e; cases e
    | some d' =>
      rw [q] at e
      cases e
      obtain ⟨v, hv, rv⟩ := h.get q
      refine ⟨v, ?_, rv⟩
      rw [List.getElem?_append_left (by simpa [hl] using hi), List.getElem?_map, hv]
      rfl
  · rw [List.getElem?_append_right (by simpa using hi), List.getElem?_replicate] at e
    split at e <;> cases e

theorem fns_all {PR : Prg} (hb : ∃ o, base.get? sysModules = some o) (W : Wld w K mg PR) (T : Stand K mg PR) : ∀ k : Nat, Fns P w K mg base PR k
  | 0 => by
    refine ⟨fun x d hd => ?_, fun x ds h => ?_, hb⟩
    · obtain ⟨f, fd, st, h1, h2, h3, h4, h5, h6, h7⟩ := T x d hd
      refine ⟨f, fd, h1, h2.kp, h6, h7, ⟨fun vs H Q E h => h.1, fun A outer s H args us vs Q E room gd e0 bd rv h => ?_⟩⟩
      obtain ⟨_, F, mu, S, ds, dd, S1, g, hg, _, _, e, _⟩ := h
      simp only [callK, hd, Option.map_some, Option.some.injEq] at hg
      subst hg
      exact (no_bad e).elim
    · cases h
  | k + 1 => by
    have ih := fns_all hb W T k
    refine ⟨fun x d hd => ?_, fun x ds h => ?_, hb⟩
    · obtain ⟨f, fd, st, h1, h2, h3, h4, h5, h6, h7⟩ := T x d hd
      refine ⟨f, fd, h1, h2.kp, h6, h7, fn_g h2 h3 (fun vs H Q E h => h.1) fun cdv A outer s H vs Q E room gd h => ?_⟩
      obtain ⟨hlen, F, mu, S, ds, dd, S1, g, hg, hS, hrs, e, post⟩ := h
      simp only [callK, hd, Option.map_some, Option.some.injEq] at hg
      subst hg
      have c : Ctx PR k (cxOf CX0 P w K mg base d.N x (defScope st) f cdv A outer s H E).nox ⟨d.N, d.sc, fun _ => true⟩ :=
        ⟨W, ih, rfl, h4.symm, h3.nd, rfl, fun _ _ => rfl, gd, room, rfl⟩
      refine ⟨_, sound_evS c 39 deepS (defBody st), ?_⟩
      have e1 : runDf (PR.gx k (callK PR k)) d ds [] S = .ok dd S1 := e
      unfold runDf bindKw at e1
      simp only [List.isEmpty_nil, if_true] at e1
      have hdl : ds.length = d.ps.length := hrs.length.symm.trans hlen
      rw [if_pos hdl] at e1
      obtain ⟨fl, S2, e2, e3⟩ := bnd_ok e1
      rw [h5] at e2
      refine ⟨F, mu, _, S, fl, S2, start_er (N := d.N) hrs, hS, e2, ?_⟩
      cases fl with
      | nx ρ => obtain ⟨rfl, rfl⟩ := pu_ok e3; exact fun σ1 F1 mu1 H1 st1 hS1 hr1 => post _ F1 mu1 H1 st1 hS1 .non
      | rt v => obtain ⟨rfl, rfl⟩ := pu_ok e3; exact fun v F1 mu1 H1 st1 hS1 hr1 => post v F1 mu1 H1 st1 hS1 hr1
      | bk ρ => exact (no_bad e3).elim
      | ct ρ => exact (no_bad e3).elim
    · have h0 : (PR.defs x).bind ctupOf = some ds := h
      cases hd : PR.defs x with
      | none => rw [hd] at h0; cases h0
      | some d =>
        rw [hd] at h0
        have h00 : ctupOf d = some ds := h0
        obtain ⟨f, fd, st, h1, h2, h3, h4, h5, h6, h7⟩ := T x d hd
        obtain ⟨dN, dps, dsc, dbody, dkp⟩ := d
        have form : ∃ es kk p pos, dN = [] ∧ dps = [] ∧ dbody = [.Return (some (.Tuple es kk p)) pos] ∧ es.length ≤ 1000 ∧ txtsOf es = some ds := by
          unfold ctupOf at h00
          split at h00
          next es kk p pos e1 e2 e3 =>
            split at h00
            next hz => exact ⟨es, kk, p, pos, e1, e2, e3, hz, h00⟩
            next => cases h00
          next => cases h00
        obtain ⟨es, kk, p, pos, rfl, rfl, rfl, hz, htx⟩ := form
        clear h00
        · refine ⟨⟨es, htx⟩, f, fd, h1, h2.kp, h6, fn_g h2 h3 (fun vs H Q E h => by rw [h.1]; rfl) fun cdv A outer s H vs Q E room gd h => ?_⟩
          obtain ⟨rfl, h⟩ := h
          have h5' : defBody st = [.Return (some (.Tuple es kk p)) pos] := h5.symm
          rw [h5']
          -- the texts, one by one
          have texts : ∀ (es : List Expr) (ds : List D), txtsOf es = some ds → PA (cxOf CX0 P w K mg base [] x (defScope st) f cdv A outer s H E).nox es (fun _ H Q => Q (ds.map textV) H) := by
            intro es
            induction es with
            | nil =>
              intro ds e
              cases e
              exact pa_nil
            | cons a es ihs =>
              intro ds e
              unfold txtsOf at e
              cases q1 : txtOf a with
              | none => rw [q1] at e; cases e
              | some d1 =>
                cases q2 : txtsOf es with
                | none => rw [q1, q2] at e; cases e
                | some ds1 =>
                  rw [q1, q2] at e
                  cases e
                  unfold txtOf at q1
                  split at q1
                  · cases q1
                    exact pa_cons pe_str (ihs ds1 q2) rfl
                  · cases q1
          have lens : ∀ (es : List Expr) (ds : List D), txtsOf es = some ds → ds.length = es.length := by
            intro es
            induction es with
            | nil => intro ds e; cases e; rfl
            | cons a es ihs =>
              intro ds e
              unfold txtsOf at e
              cases q1 : txtOf a with
              | none => rw [q1] at e; cases e
              | some d1 =>
                cases q2 : txtsOf es with
                | none => rw [q1, q2] at e; cases e
                | some ds1 =>
                  rw [q1, q2] at e
                  cases e
                  simp [ihs ds1 q2]
          have small : ds.length ≤ sizeLine := by
            rw [lens es ds htx, sizeLine_eq]
            omega
          refine ⟨fun D σ H1 => ∀ (q : Addr) (o : Obj), H1 q = none → o.dict = none → D.rt (.ref q) (upd H1 q (.frz o (.tup (ds.map textV)))), pss_one ⟨fun pins s1 σ H1 D I hq => ?_⟩, h⟩
          refine wpAny_Return_some (wpAny_Tuple_spliced (thn ((texts es ds htx).run p pins s1 σ H1 (fun vs H2 => vs = ds.map textV ∧ H2 = H1) I ⟨rfl, rfl⟩) fun us s2 hv => ?_))
          obtain ⟨vs, H2, I2, r, rfl, rfl⟩ := hv
          refine ⟨by rw [← r.length, List.length_map]; exact small, ?_⟩
          have fr := I2.hok.fresh (Nat.le_refl s2.heap.objs.size)
          refine ⟨.ref s2.heap.objs.size, σ, upd H2 s2.heap.objs.size (.frz { cls := .type "tuple", data := .seq us.toArray } (.tup (ds.map textV))), ?_, rfl, hq _ _ fr rfl⟩
          refine I2.laid (t' := s2.toks) (fun b u e => Heap.get?_push_of_some _ e) (Nat.le_refl _) ⟨Heap.get?_push_size _ rfl, by rw [List.length_map]; exact small, us, r, ⟨_, Heap.get?_push_size _ rfl, rfl, _, rfl⟩⟩
end
end Ev2
/-! E11: the law at its caller. -/
namespace Ev2
open PySem L2 PyProof.Rows

/-- the script alone is tracked, or nothing -/
structure OnlyScript (K : PySem.W.Frag) (h : Heap) (a : Addr) (o : Obj) (xs : List V) (H : Hp) : Prop where
  other : ∀ b, b ≠ a → H b = none
  here : H a = none ∨ (H a = some (.frz o (.lst xs)) ∧ K.lookup a = none)

theorem law_at {P : Program} {w : World} {K : PySem.W.Frag} {mg mb : Str → Option Value} {k : Nat} {fa a : Addr} {x : Str} {sp : Sp} {s1 : Shared} {vs : List Value} {ns : List Int}
    (KX : K.In s1.heap) (gl : s1.heap.Ns mainGlobals mg) (bl : s1.heap.Ns builtinsNs mb) (bb : ∀ x : Str, x ≠ "__name__" → mb x = bootBuiltins x) (lim : s1.heap.NoLimit) (sm : ∃ mm, s1.heap.Ns sysModules mm) (gens : s1.gens = #[])
    (ha : s1.heap.get? a = some { cls := .type "list", data := .seq vs.toArray }) (hi : IntsAre vs ns) (hl : ns.length ≤ sizeLine) (room : Room k callerA)
    (F : ∀ base : Heap, K.In base → base.Ns mainGlobals mg → (∃ o, base.get? sysModules = some o) → ∃ fd, Binds K fd [x] [] ∧ FnG P w K mg base CX0 k fa fd [x] sp)
    (hsp : ∀ H : Hp, SqL K H a (ns.map V.int) → sp [.ref a] H (fun v _ => v = .bl true) E0) :
    codeAny (model P w) callerA (.call (.ref fa) ⟨[.ref a], []⟩) (fun r s2 => r = .ok (.ret (.bool true)) ∧ OldK s1.heap s2.heap ∧ s2.os = s1.os ∧ AllBare s2.gens) s1 := by
  have rv := vals_ints hi
  have main : ∀ H : Hp, OnlyScript K s1.heap a { cls := .type "list", data := .seq vs.toArray } (ns.map V.int) H → HOk P w H s1.heap → SqL K H a (ns.map V.int) →
      codeAny (model P w) callerA (.call (.ref fa) ⟨[.ref a], []⟩) (fun r s2 => r = .ok (.ret (.bool true)) ∧ OldK s1.heap s2.heap ∧ s2.os = s1.os ∧ AllBare s2.gens) s1 := by
    intro H only hok hS
    have free : ∀ {b : Addr} {o : Obj} {es : Array DictEntry} {ep : Nat}, s1.heap.get? b = some o → o.data = .dict es ep → H b = none := by
      intro b o es ep e d
      by_cases hb : b = a
      · rw [hb, ha] at e
        cases e
        cases (show Data.seq vs.toArray _ = Data.dict es ep from d)
      · exact only.other b hb
    have nsB : ∀ {b : Addr} {m : Str → Option Value}, s1.heap.Ns b m → (hidT s1.heap H).Ns b m := by
      rintro b m ⟨o, es, ep, e, d, r⟩
      exact ⟨o, es, ep, hidT_get e (free e d), d, r⟩
    have kB : K.In (hidT s1.heap H) := by
      intro b o e
      refine hidT_get (KX b o e) ?_
      by_cases hb : b = a
      · subst hb
        rcases only.here with z | ⟨_, z⟩
        · exact z
        · rw [z] at e; cases e
      · exact only.other b hb
    have md : Mod K mg (hidT s1.heap H) := ⟨kB, nsB gl, ⟨mb, nsB bl, bb⟩, by
      obtain ⟨mc, h1, h2⟩ := lim
      exact ⟨mc, nsB h1, h2⟩⟩
    have e0 : Env0 P w K mg (hidT s1.heap H) callerA [] s1 H :=
      ⟨rfl, md, fun b o e => of_hidT e, Nat.le_of_eq (hidT_size _ _), trivial, fun b hb => (by cases hb), hok, .of_eq gens⟩
    obtain ⟨mm, hmm⟩ := sm
    obtain ⟨om, _, _, hom, _⟩ := nsB hmm
    obtain ⟨fd, bd, G⟩ := F _ kB (nsB gl) ⟨om, hom⟩
    have run := G.run callerA [] s1 H ⟨[.ref a], []⟩ [.ref a] [.ref a] _ _ room rfl e0 (bd s1 [.ref a] KX rfl) (.cons rfl .nil) (hsp H hS)
    refine codeAny_mono run fun r s2 h => ?_
    match r, h with
    | .error e, h => exact h.elim
    | .ok .next, h => exact h.elim
    | .ok .brk, h => exact h.elim
    | .ok .cont, h => exact h.elim
    | .ok (.ret u), h =>
      obtain ⟨v, H2, os, bare, un, hok2, r2, q⟩ := h
      cases (show v = .bl true from q)
      cases (show u = Value.bool true from r2)
      refine ⟨rfl, OldK.of_keep fun b o e => ?_, os, bare⟩
      by_cases hb : H b = none
      · exact un.keep b o e hb (by intro z; cases z) (by simp)
      · by_cases hba : b = a
        · subst hba
          rcases only.here with z | ⟨z, _⟩
          · exact absurd z hb
          · have z2 := un.frzs b _ _ z
            obtain ⟨e1, _⟩ := hok b _ z
            obtain ⟨e2, _⟩ := hok2 b _ z2
            rw [e] at e1
            cases e1
            exact e2
        · exact absurd (only.other b hba) hb
  have lenV := hi.length
  cases hk : K.lookup a with
  | some o =>
    have e := KX a o hk
    rw [ha] at e
    cases e
    exact main (fun _ => none) ⟨fun _ _ => rfl, .inl rfl⟩ (fun b u z => by cases z) (.inr ⟨_, vs.toArray, _, hk, rfl, rfl, rfl, by rw [List.size_toArray, lenV]; exact hl, by simpa using rv⟩)
  | none =>
    refine main (upd (fun _ => none) a (.frz { cls := .type "list", data := .seq vs.toArray } (.lst (ns.map V.int)))) ⟨fun b hb => upd_ne hb, .inr ⟨upd_same, hk⟩⟩ (fun b u z => ?_) (.inl (.inr ⟨_, upd_same⟩))
    by_cases hb : b = a
    · subst hb
      rw [upd_same] at z
      cases z
      exact ⟨ha, by rw [List.length_map]; exact hl, vs, _, rv, ha⟩
    · rw [upd_ne hb] at z
      cases z

/-- the evaluator's answer is True at every script -/
def Always (PR : Prg) (k : Nat) : Prop := ∀ ns : List Int, ns.length ≤ 63 → ∃ g S1, callK PR k "law" = some g ∧ g [.rol (ns.map D.int)] [] [] = .ok (.bl true) S1

theorem ints_rps2 {K : PySem.W.Frag} {F : Hp} {mu : List Addr} : ∀ ns : List Int, Rps K F mu (ns.map V.int) (ns.map D.int)
  | [] => .nil
  | n :: ns => .cons (.int n) (ints_rps2 ns)

theorem walk_g {l : PySem.W.OpenLaw} {k : Nat} {q : Program} {loose : List Str} {XP : (Str → Option Value) → Heap → Prop} {YP : World → Heap → Prop} {d : DefRec} {K : Params → PySem.W.Frag} {PR : Prg} {df : Df} {x : Str}
    (hn : l.most = some 63) (hdf : d.params.defaults = []) (room : Room (k + 2) callerA) (hY : ∀ (w : World) (h : Heap), YP w h → (K w.params).In h) (hd : PR.defs "law" = some df) (hps : df.ps = [x]) (hname : d.name = "law") (himp : importsNone q = true)
    (F : ∀ (w : World) (mg : Str → Option Value) (h : Heap), (K w.params).In h → h.Ns mainGlobals mg → Wld w (K w.params) mg PR ∧ Stand (K w.params) mg PR)
    (always : Always PR k) : PySem.W.WalkO q loose XP YP l.row.toRowW d [] (fun f vs => PySem.call f vs) := by
  refine Att.attach_call hn hdf fun w s0 s1 mg mb fa o pm cd doc a vs ns G Y ho hdd hcd hmg hobj hints hlen hg => ?_
  have KX := hY w _ Y
  obtain ⟨W, T⟩ := F w mg _ KX G.T.g
  rw [hname] at hmg
  refine law_at KX G.T.g G.T.b G.T.builtins G.T.nolimit (let ⟨mm, h, _⟩ := (G.T.seer himp).mods; ⟨mm, h⟩) hg hobj hints (Nat.le_trans hlen (by decide)) room (x := x) (sp := spK (K w.params) PR k "law" [x]) (fun base kb gb hb => ?_) fun H hS => ?_
  · obtain ⟨f, fd, g1, g2, g3, g4⟩ := (fns_all (P := l.prog) (w := w) (base := base) hb W T k).fn "law" df hd
    rw [hmg] at g1
    cases g1
    rw [hps] at g3 g4
    exact ⟨fd, g3, g4.2⟩
  · obtain ⟨g, S1, hc, he⟩ := always ns hlen
    refine ⟨rfl, H, [], [], [.rol (ns.map D.int)], .bl true, S1, g, hc, ⟨Same.refl H, rfl, List.nodup_nil, fun _ z => (by cases z), fun i a o z => (by simp at z)⟩, .cons (.rol hS (ints_rps2 ns)) .nil, he, fun v F1 mu1 H1 st hS1 hv => ?_⟩
    cases hv
    rfl
end Ev2
/-! E12: what the top of the law's text has written. -/
namespace Ev2
open PySem L2 PyProof.Rows

/-- a def of the text stands where the top has written it -/
def At (K : PySem.W.Frag) (mg : Str → Option Value) (x : Str) (st : Stmt) : Prop := ∃ (f : Addr) (fd : FuncData), mg x = some (.ref f) ∧ Fun K x x st f fd

theorem at_mk {K : PySem.W.Frag} {mg : Str → Option Value} {h : Heap} {x : Str} {st : Stmt} {f : Addr} {oc : Value} {od an : Option Addr} {sl : Array (Option Value)} {kV dc pm cd ct : Value} (X : K.In h) (G : h.Ns mainGlobals mg)
    (a : PySem.W.nsIn K mainGlobals x = some (some (.ref f))) (l : K.lookup f = some ⟨oc, od, .func (PySem.W.fnOf x x (defArgs st) (defBody st) (defScope st) .none kV dc pm an cd ct), sl⟩) (c : PySem.W.codeIn K cd x = true) (k : PySem.W.keepIn K (.ref f) = true) : At K mg x st :=
  ⟨f, _, PySem.W.mg_of X G a, fun_mk l c k⟩

/-- the text's own part of a def: its slots, its scope, its parameters -/
structure Shape (x : Str) (d : Df) (st : Stmt) : Prop where
  sc : FnScope d.N d.ps (defScope st)
  s : d.sc = defScope st
  b : d.body = defBody st
  bd : ∀ (kV doc pm : Value) (an : Option Addr) (cdv ct : Value) (us : List Value), us.length = d.ps.length → bindArgs (PySem.W.fnOf x x (defArgs st) (defBody st) (defScope st) .none kV doc pm an cdv ct) ⟨us, []⟩ = pure (d.ps.zip us)
  kw : ∀ p ∈ d.kp, ∀ (kV doc pm : Value) (an : Option Addr) (cdv ct : Value) (us ws : List Value), us.length = p.n → ws.length = p.ks.length → bindArgs (PySem.W.fnOf x x (defArgs st) (defBody st) (defScope st) .none kV doc pm an cdv ct) ⟨us, p.ks.zip ws⟩ = pure (d.ps.zip (byIx p.ix (us ++ ws)))
theorem Shape.kwb {K : PySem.W.Frag} {x : Str} {d : Df} {st : Stmt} {f : Addr} {fd : FuncData} (sh : Shape x d st) (F : Fun K x x st f fd) : ∀ p ∈ d.kp, KwB K fd d.ps p := by
  obtain ⟨oc, od, kV, doc, pm, an, cdv, ct, osl, rfl, lk, hcd⟩ := F.ex
  intro p hp s us ws _ h1 h2
  exact BindsTo.of_eq (sh.kw p hp kV doc pm an cdv ct us ws h1 h2)

inductive Stands (K : PySem.W.Frag) (mg : Str → Option Value) : List (Str × Df) → Prop
  | nil : Stands K mg []
  | cons {x : Str} {d : Df} {st : Stmt} {r : List (Str × Df)} : Shape x d st → At K mg x st → Stands K mg r → Stands K mg ((x, d) :: r)

theorem Stands.get {K : PySem.W.Frag} {mg : Str → Option Value} : ∀ {l : List (Str × Df)}, Stands K mg l → ∀ x d, l.lookup x = some d → ∃ (f : Addr) (fd : FuncData) (st : Stmt),
    mg x = some (.ref f) ∧ Fun K x x st f fd ∧ FnScope d.N d.ps (defScope st) ∧ d.sc = defScope st ∧ d.body = defBody st ∧ Binds K fd d.ps [] ∧ ∀ p ∈ d.kp, KwB K fd d.ps p
  | _, .nil, x, d, e => by cases e
  | _, .cons (x := y) (d := d') sh ⟨f, fd, h1, h2⟩ r, x, d, e => by
    rw [List.lookup_cons] at e
    by_cases hx : (x == y) = true
    · rw [hx] at e
      cases e
      have hx := eq_of_beq hx
      subst hx
      exact ⟨f, fd, _, h1, h2, sh.sc, sh.s, sh.b, h2.binds sh.bd, sh.kwb h2⟩
    · have : (x == y) = false := by simpa using hx
      rw [this] at e
      exact r.get x d e

/-- a written value -/
def CAt (K : PySem.W.Frag) (u : Value) (d : D) : Prop := ∃ v, RelV v u ∧ Rp K (fun _ => none) [] v d
inductive CAts (K : PySem.W.Frag) : List Value → List D → Prop
  | nil : CAts K [] []
  | cons {u : Value} {us : List Value} {d : D} {ds : List D} : CAt K u d → CAts K us ds → CAts K (u :: us) (d :: ds)
theorem CAts.out {K : PySem.W.Frag} : ∀ {us : List Value} {ds : List D}, CAts K us ds → ∃ vs, Vals vs us ∧ Rps K (fun _ => none) [] vs ds
  | _, _, .nil => ⟨[], .nil, .nil⟩
  | _, _, .cons ⟨v, h1, h2⟩ r => let ⟨vs, h3, h4⟩ := r.out; ⟨v :: vs, .cons h1 h3, .cons h2 h4⟩
theorem cat_non {K : PySem.W.Frag} : CAt K .none .non := ⟨.non, rfl, .non⟩
theorem cat_bl {K : PySem.W.Frag} {b : Bool} : CAt K (.bool b) (.bl b) := ⟨.bl b, rfl, .bl b⟩
theorem cat_int {K : PySem.W.Frag} {i : Int} {t} : CAt K (.int i t) (.int i) := ⟨.int i, ⟨t, rfl⟩, .int i⟩
theorem cat_str {K : PySem.W.Frag} {i : Str} {t} : CAt K (.str i t) (.str i) := ⟨.str i, ⟨t, rfl⟩, .str i⟩
theorem cat_tup {K : PySem.W.Frag} {a : Addr} {od : Option Addr} {its : Array Value} {n : Nat} {sl : Array (Option Value)} {ds : List D} (l : K.lookup a = some ⟨.type "tuple", od, .seq its n, sl⟩) (hs : its.size ≤ sizeLine) (c : CAts K its.toList ds) : CAt K (.ref a) (.tup ds) := by
  obtain ⟨vs, h1, h2⟩ := c.out
  exact ⟨.ref a, rfl, .tup (.inr ⟨_, its, n, l, rfl, rfl, hs, h1⟩) h2⟩
theorem cat_lst {K : PySem.W.Frag} {a : Addr} {its : Array Value} {n : Nat} {sl : Array (Option Value)} {ds : List D} (l : K.lookup a = some ⟨.type "list", none, .seq its n, sl⟩) (hs : its.size ≤ sizeLine) (c : CAts K its.toList ds) : CAt K (.ref a) (.rol ds) := by
  obtain ⟨vs, h1, h2⟩ := c.out
  exact ⟨.ref a, rfl, .rol (.inr ⟨_, its, n, l, rfl, rfl, rfl, hs, h1⟩) h2⟩

/-- a constant of the text -/
def Cst (K : PySem.W.Frag) (mg : Str → Option Value) (x : Str) (d : D) : Prop := (∃ u v, mg x = some u ∧ RelV v u ∧ Rp K (fun _ => none) [] v d) ∧ ∀ ds, d = .tup ds → ∃ a o, mg x = some (.ref a) ∧ K.lookup a = some o ∧ o.cls = .type "tuple" ∧ o.dict = none
theorem cst_mk {K : PySem.W.Frag} {mg : Str → Option Value} {h : Heap} {x : Str} {u : Value} {d : D} (X : K.In h) (G : h.Ns mainGlobals mg) (a : PySem.W.nsIn K mainGlobals x = some (some u)) (c : CAt K u d) (n : ∀ ds, d ≠ .tup ds) : Cst K mg x d := by
  obtain ⟨v, h1, h2⟩ := c
  exact ⟨⟨u, v, PySem.W.mg_of X G a, h1, h2⟩, fun ds e => absurd e (n ds)⟩
theorem cst_tup {K : PySem.W.Frag} {mg : Str → Option Value} {h : Heap} {x : Str} {b : Addr} {its : Array Value} {n : Nat} {sl : Array (Option Value)} {ds : List D} (X : K.In h) (G : h.Ns mainGlobals mg) (a : PySem.W.nsIn K mainGlobals x = some (some (.ref b)))
    (l : K.lookup b = some ⟨.type "tuple", none, .seq its n, sl⟩) (hs : its.size ≤ sizeLine) (c : CAts K its.toList ds) : Cst K mg x (.tup ds) := by
  obtain ⟨v, h1, h2⟩ := cat_tup l hs c
  exact ⟨⟨_, v, PySem.W.mg_of X G a, h1, h2⟩, fun ds e => ⟨b, _, PySem.W.mg_of X G a, l, rfl, rfl⟩⟩
inductive Csts (K : PySem.W.Frag) (mg : Str → Option Value) : List (Str × D) → Prop
  | nil : Csts K mg []
  | cons {x : Str} {d : D} {r : List (Str × D)} : Cst K mg x d → Csts K mg r → Csts K mg ((x, d) :: r)
theorem Csts.get {K : PySem.W.Frag} {mg : Str → Option Value} : ∀ {l : List (Str × D)}, Csts K mg l → ∀ x d, l.lookup x = some d → Cst K mg x d
  | _, .nil, x, d, e => by cases e
  | _, .cons (x := y) c r, x, d, e => by
    rw [List.lookup_cons] at e
    by_cases hx : (x == y) = true
    · rw [hx] at e
      cases e
      have hx := eq_of_beq hx
      subst hx
      exact c
    · have : (x == y) = false := by simpa using hx
      rw [this] at e
      exact r.get x d e

inductive Blts (mg : Str → Option Value) : List Str → Prop
  | nil : Blts mg []
  | cons {x : Str} {r : List Str} : mg x = none → Blts mg r → Blts mg (x :: r)
theorem Blts.get {mg : Str → Option Value} : ∀ {l : List Str}, Blts mg l → ∀ x, l.contains x = true → mg x = none
  | _, .nil, x, e => by cases e
  | _, .cons (x := y) c r, x, e => by
    rw [List.contains_cons] at e
    by_cases hx : (x == y) = true
    · have hx := eq_of_beq hx
      subst hx
      exact c
    · have : (x == y) = false := by simpa using hx
      rw [this] at e
      exact r.get x (by simpa using e)

/-! dicts of the module -/
inductive KEs (w : World) (K : PySem.W.Frag) : List DictEntry → List Str → List D → Prop
  | nil : KEs w K [] [] []
  | cons {x : Str} {t : Tok} {u : Value} {hs : Int} {d : D} {es : List DictEntry} {ks : List Str} {vs : List D} : hs = PyData.keyHash w.params x → CAt K u d → KEs w K es ks vs → KEs w K (⟨hs, .str x t, u⟩ :: es) (x :: ks) (d :: vs)
theorem KEs.lit {w : World} {K : PySem.W.Frag} : ∀ {es : List DictEntry} {ks : List Str} {vs : List D}, KEs w K es ks vs → PySem.W.KeysLit w.params es
  | _, _, _, .nil => trivial
  | _, _, _, .cons (x := x) (t := t) h _ r => ⟨⟨x, t, rfl, h⟩, r.lit⟩
theorem KEs.plain {w : World} {K : PySem.W.Frag} : ∀ {es : List DictEntry} {ks : List Str} {vs : List D}, KEs w K es ks vs → es.any (·.refKey) = false
  | _, _, _, .nil => rfl
  | _, _, _, .cons (x := x) (t := t) h _ r => by
    rw [List.any_cons, r.plain]
    rfl
theorem KEs.find {w : World} {K : PySem.W.Frag} (z : Str) : ∀ {es : List DictEntry} {ks : List Str} {vs : List D}, KEs w K es ks vs → (es.find? (·.key.isStr z)).isSome = ks.contains z ∧ ∀ d, dGet ks vs z = some d → ∃ e v, es.find? (·.key.isStr z) = some e ∧ RelV v e.val ∧ Rp K (fun _ => none) [] v d
  | _, _, _, .nil => ⟨rfl, fun d e => by cases e⟩
  | _, _, _, .cons (x := x) (t := t) (u := u) (hs := hs) (d := d0) (es := es) (ks := ks) (vs := vs) h c r => by
    have ih := KEs.find z r
    have e : (DictEntry.mk hs (Value.str x t) u).key.isStr z = decide (z = x) := by
      show (x == z) = _
      by_cases q : z = x
      · rw [decide_eq_true q, q, beq_self_eq_true]
      · rw [decide_eq_false q]
        exact beq_eq_false_iff_ne.mpr (Ne.symm q)
    by_cases hz : z = x
    · subst hz
      refine ⟨?_, fun d hd => ?_⟩
      · rw [List.find?_cons_of_pos (by rw [e]; simp)]
        simp
      · rw [List.find?_cons_of_pos (by rw [e]; simp)]
        obtain ⟨v, c1, c2⟩ := c
        have : dGet (z :: ks) (d0 :: vs) z = some d0 := by simp [dGet]
        rw [this] at hd
        cases hd
        exact ⟨_, v, rfl, c1, c2⟩
    · rw [List.find?_cons_of_neg (by rw [e]; simpa using hz)]
      refine ⟨?_, fun d hd => ih.2 d ?_⟩
      · rw [ih.1, List.contains_cons]
        have : (z == x) = false := by simpa using hz
        rw [this]
        rfl
      · have : dGet (x :: ks) (d0 :: vs) z = dGet ks vs z := by
          show (if x = z then some d0 else dGet ks vs z) = _
          rw [if_neg (Ne.symm hz)]
        rw [this] at hd
        exact hd
theorem kd_mk {w : World} {K : PySem.W.Frag} {mg : Str → Option Value} {h : Heap} {x : Str} {a : Addr} {es : Array DictEntry} {n : Nat} {ks : List Str} {vs : List D} (X : K.In h) (G : h.Ns mainGlobals mg) (e : PySem.W.nsIn K mainGlobals x = some (some (.ref a)))
    (l : K.lookup a = some ⟨.type "dict", none, .dict es n, #[]⟩) (lo : (a == sysModules) = false) (c : KEs w K es.toList ks vs) : KdAt w K mg x ks vs := by
  refine ⟨a, es, n, PySem.W.mg_of X G e, ⟨l, c.lit, lo⟩, fun z => ?_⟩
  obtain ⟨h1, h2⟩ := c.find z
  refine ⟨(es.toList.find? (·.key.isStr z)).map (·.val), ?_, ?_, fun d hd => ?_⟩
  · unfold PySem.W.nsIn
    rw [l]
    dsimp only
    cases q : es.toList.find? (·.key.isStr z) with
    | some e => rfl
    | none =>
      dsimp only
      rw [c.plain]
      rfl
  · rw [Option.isSome_map, h1]
  · obtain ⟨e, v, q1, q2, q3⟩ := h2 d hd
    rw [q1]
    exact ⟨e.val, v, rfl, q2, q3⟩
inductive Kds (w : World) (K : PySem.W.Frag) (mg : Str → Option Value) : List (Str × List Str × List D) → Prop
  | nil : Kds w K mg []
  | cons {x : Str} {ks : List Str} {vs : List D} {r : List (Str × List Str × List D)} : KdAt w K mg x ks vs → Kds w K mg r → Kds w K mg ((x, ks, vs) :: r)
theorem Kds.get {w : World} {K : PySem.W.Frag} {mg : Str → Option Value} : ∀ {l : List (Str × List Str × List D)}, Kds w K mg l → ∀ x ks vs, l.lookup x = some (ks, vs) → KdAt w K mg x ks vs
  | _, .nil, x, _, _, e => by cases e
  | _, .cons (x := y) c r, x, ks, vs, e => by
    rw [List.lookup_cons] at e
    by_cases hx : (x == y) = true
    · rw [hx] at e
      cases e
      have hx := eq_of_beq hx
      subst hx
      exact c
    · have : (x == y) = false := by simpa using hx
      rw [this] at e
      exact r.get x ks vs e

/-! error classes -/
/-- the stmt i of a class's body -/
def clsBody : Stmt → List Stmt
  | .ClassDef _ _ _ b _ _ _ _ _ _ _ => b
  | _ => []
/-- def __init__(self, f): self.f = f -/
structure IShape (f : Str) (st : Stmt) : Prop where
  sc : FnScope ["self", f] ["self", f] (defScope st)
  b : ∃ p1 p2 p3 pos, defBody st = [.Assign [.Attribute (.Name "self" p1) f p2] (.Name f p3) pos]
  bd : ∀ (q : Str) (kV doc pm : Value) (an : Option Addr) (cdv ct : Value) (a v : Value), bindArgs (PySem.W.fnOf "__init__" q (defArgs st) (defBody st) (defScope st) .none kV doc pm an cdv ct) ⟨[a, v], []⟩ = pure [(("self" : Str), a), (f, v)]
  kw : ∀ (q : Str) (kV doc pm : Value) (an : Option Addr) (cdv ct : Value) (a v : Value), bindArgs (PySem.W.fnOf "__init__" q (defArgs st) (defBody st) (defScope st) .none kV doc pm an cdv ct) ⟨[a], [(f, v)]⟩ = pure [(("self" : Str), a), (f, v)]
  d1 : (f == ("__debug__" : Str)) = false
  d2 : (f == ("__classdict__" : Str)) = false
/-- what each error class says of itself -/
structure ExB (K : PySem.W.Frag) (mg : Str → Option Value) (x : Str) (C : Addr) : Prop where
  ns : PySem.W.nsIn K mainGlobals x = some (some (.ref C))
  at_ : mg x = some (.ref C)
  xc : ExcC K C
  ty : PySem.W.typeIn K (.ref C) = some (.type "type")
  v : PySem.W.subIn K (.ref C) (.type "ValueError") = some true
theorem exb_mk {K : PySem.W.Frag} {mg : Str → Option Value} {h : Heap} {x : Str} {C : Addr} (X : K.In h) (G : h.Ns mainGlobals mg) (a : PySem.W.nsIn K mainGlobals x = some (some (.ref C)))
    (g1 : PySem.W.findIn K (.ref C) "__getattribute__" = some (some (.builtin "BaseException.__getattribute__"))) (g2 : PySem.W.findIn K (.ref C) "__getattr__" = some none) (g3 : PySem.W.subIn K (.ref C) (.type "BaseException") = some true) (g4 : PySem.W.hasDictIn K C = true)
    (g5 : PySem.W.findIn K (.ref C) "__class__" = some (some (.builtin "object.__class__"))) (g6 : PySem.W.specialIn K (.builtin "object.__class__") "__get__" = some (some (.builtin "getset_descriptor.__get__"))) (g7 : PySem.W.takesIn K (.builtin "object.__class__") = some true)
    (g8 : PySem.W.mroIn K C (.type "object") = some true) (t : PySem.W.typeIn K (.ref C) = some (.type "type")) (v : PySem.W.subIn K (.ref C) (.type "ValueError") = some true) : ExB K mg x C :=
  ⟨a, PySem.W.mg_of X G a, ⟨g1, g2, g3, g4, g5, g6, g7, g8⟩, t, v⟩
theorem init_of {K : PySem.W.Frag} {C fI : Addr} {f q : Str} {st : Stmt} {nm qn : Str} {N : Addr} {bs bm : List Value} {sn : List Str} {sub : List Value} {ab : Bool} {col : Option Bool} {dd : Option Addr} {k0 k1 k2 k3 k5 : Option Value} {oc : Value} {od an : Option Addr} {osl : Array (Option Value)} {kV doc pm cdv ct : Value}
    (sh : IShape f st) (l : K.lookup C = some (excClassObj nm qn C N bs bm true sn sub ab col dd k0 k1 k2 k3 k5 "ValueError.__new__")) (hb : PySem.HandSPX.refsVE bm = true) (sa : PySem.W.findIn K (.ref C) "__setattr__" = some (some (.builtin "object.__setattr__")))
    (ex : PySem.W.subIn K (.ref C) (.type "BaseException") = some true) (ty : PySem.W.typeIn K (.ref C) = some (.type "type")) (kc : PySem.W.keepIn K (.ref C) = true) (i : PySem.W.findIn K (.ref C) "__init__" = some (some (.ref fI))) (t : PySem.W.typeIn K (.ref fI) = some (.type "function"))
    (no : PySem.W.findIn K (.ref C) f = some none) (lf : K.lookup fI = some ⟨oc, od, .func (PySem.W.fnOf "__init__" q (defArgs st) (defBody st) (defScope st) .none kV doc pm an cdv ct), osl⟩) (c : PySem.W.codeIn K cdv q = true) (kf : PySem.W.keepIn K (.ref fI) = true) :
    ∃ fI fd, InitOf K C fI f fd := by
  obtain ⟨p1, p2, p3, pos, hbd⟩ := sh.b
  refine ⟨fI, _, ⟨⟨nm, qn, N, bs, bm, sn, sub, ab, col, dd, k0, k1, k2, k3, k5, l, hb⟩, sa, ex, ty, kc⟩, i, t, no, ⟨st, q, p1, p2, p3, pos, fun_mk lf c kf, hbd, sh.sc⟩, ?_, fun s a v => BindsTo.of_eq (sh.kw q kV doc pm an cdv ct a v), sh.d1, sh.d2⟩
  intro s us _ hl
  match us, hl with
  | [a, v], _ => exact BindsTo.of_eq (sh.bd q kV doc pm an cdv ct a v)
/-- beside all classes -/
inductive ExP (K : PySem.W.Frag) (C : Addr) (sup : List Str) : List Str → Prop
  | nil : ExP K C sup []
  | cons {y : Str} {D : Addr} {b : Bool} {r : List Str} : PySem.W.nsIn K mainGlobals y = some (some (.ref D)) → PySem.W.subIn K (.ref C) (.ref D) = some b → b = sup.contains y → ExP K C sup r → ExP K C sup (y :: r)
theorem ExP.get {K : PySem.W.Frag} {C : Addr} {sup : List Str} : ∀ {l : List Str}, ExP K C sup l → ∀ y ∈ l, ∃ D, PySem.W.nsIn K mainGlobals y = some (some (.ref D)) ∧ PySem.W.subIn K (.ref C) (.ref D) = some (sup.contains y)
  | _, .nil, y, h => by cases h
  | _, .cons a s e r, y, h => by
    rcases List.mem_cons.mp h with rfl | h
    · exact ⟨_, a, by rw [← e]; exact s⟩
    · exact r.get y h
inductive Exs (K : PySem.W.Frag) (mg : Str → Option Value) (all : List Str) : List (Str × ExI) → Prop
  | nil : Exs K mg all []
  | cons {x : Str} {i : ExI} {C : Addr} {r : List (Str × ExI)} : ExB K mg x C → (i.made = true → ExMk K C i) → x ≠ "ValueError" → (∀ f, i.fld = some f → PySem.W.findIn K (.ref C) f = some none) → i.sup.contains x = true → ExP K C i.sup all → Exs K mg all r → Exs K mg all ((x, i) :: r)
theorem Exs.base {K : PySem.W.Frag} {mg : Str → Option Value} {all : List Str} : ∀ {l : List (Str × ExI)}, Exs K mg all l → ∀ x i, l.lookup x = some i → x ∈ l.map (·.1) ∧ ∃ C, ExB K mg x C ∧ (i.made = true → ExMk K C i) ∧ x ≠ "ValueError" ∧ (∀ f, i.fld = some f → PySem.W.findIn K (.ref C) f = some none) ∧ i.sup.contains x = true ∧ ExP K C i.sup all
  | _, .nil, x, i, e => by cases e
  | _, .cons (x := y) b m n f s p r, x, i, e => by
    rw [List.lookup_cons] at e
    by_cases hx : (x == y) = true
    · rw [hx] at e
      cases e
      have hx := eq_of_beq hx
      subst hx
      exact ⟨.head _, _, b, m, n, f, s, p⟩
    · have : (x == y) = false := by simpa using hx
      rw [this] at e
      obtain ⟨h1, h2⟩ := r.base x i e
      exact ⟨.tail _ h1, h2⟩
theorem kit_ref {K : PySem.W.Frag} {C D : Addr} {b : Bool} (hd : PySem.W.hasDictIn K D = true) (ht : PySem.W.typeIn K (.ref D) = some (.type "type")) (h : PySem.W.subIn K (.ref C) (.ref D) = some b) (hb : C = D → b = true) : PySem.W.kitOne K (.ref C) (.ref D) = some b := by
  unfold PySem.W.kitOne
  by_cases e : C = D
  · subst e
    rw [hb rfl, if_pos (beq_self_eq_true _)]
  · rw [if_neg (fun q => e (Value.ref.inj (beq_iff_eq.mp q)))]
    obtain ⟨cd, hc, _⟩ := PySem.W.any_some hd
    have e2 : ((PySem.W.clsIn K D).isSome && PySem.W.typeIn K (.ref D) == some (.type "type")) = true := by
      rw [hc, ht]
      rfl
    show (if ((PySem.W.clsIn K D).isSome && PySem.W.typeIn K (.ref D) == some (.type "type")) = true then PySem.W.subIn K (.ref C) (.ref D) else none) = some b
    rw [if_pos e2]
    exact h
theorem Exs.at {K : PySem.W.Frag} {mg : Str → Option Value} {l : List (Str × ExI)} (E : Exs K mg (l.map (·.1)) l) (x : Str) (i : ExI) (e : l.lookup x = some i) : ∃ C, ExAt K mg (fun x => l.lookup x) x i C := by
  obtain ⟨_, C, b, m, n, f, s, p⟩ := E.base x i e
  refine ⟨C, b.ns, b.at_, b.xc, ⟨b.xc.hg, b.xc.hk, b.xc.hs, b.xc.hd⟩, m, fun y j hy => ?_, ?_, n, f⟩
  · obtain ⟨hm, D, bD, _, _, _, _, _⟩ := E.base y j hy
    obtain ⟨D', h1, h2⟩ := p.get y hm
    have hD := bD.ns
    rw [h1] at hD
    cases hD
    refine ⟨D, bD.at_, kit_ref bD.xc.hd bD.ty h2 fun eC => ?_, PySem.W.exm_ref bD.xc.hs bD.xc.hd bD.ty h2⟩
    obtain ⟨D2, h3, h4⟩ := p.get x (E.base x i e).1
    have h5 := b.ns
    rw [h3] at h5
    cases h5
    rw [← eC, h4, s] at h2
    exact (Option.some.inj h2).symm
  · show (if (Value.ref C == Value.type "ValueError") = true then some true else PySem.W.kitCls K (.ref C) (.type "ValueError")) = some true
    have hne : ¬ (Value.ref C == Value.type "ValueError") = true := fun q => by
      have z := beq_iff_eq.mp q
      cases z
    rw [if_neg hne]
    show (if PySem.W.kitMeta "ValueError" = true then PySem.W.subIn K (.ref C) (.type "ValueError") else none) = some true
    rw [if_pos (by decide +kernel)]
    exact b.v
def prg (csts : List (Str × D)) (blts : List Str) (mus : List Pos) (dfs : List (Str × Df)) (kds : List (Str × List Str × List D) := []) (exs : List (Str × ExI) := []) : Prg := ⟨fun x => csts.lookup x, fun x => blts.contains x, fun p => mus.contains p, fun x => dfs.lookup x, fun x => kds.lookup x, fun x => exs.lookup x⟩
theorem top_mk {w : World} {K : PySem.W.Frag} {mg : Str → Option Value} {csts : List (Str × D)} {blts : List Str} {mus : List Pos} {dfs : List (Str × Df)} {kds : List (Str × List Str × List D)} {exs : List (Str × ExI)} (c : Csts K mg csts) (b : Blts mg blts) (s : Stands K mg dfs) (d : Kds w K mg kds) (xs : Exs K mg (exs.map (·.1)) exs) : Wld w K mg (prg csts blts mus dfs kds exs) ∧ Stand K mg (prg csts blts mus dfs kds exs) :=
  ⟨⟨fun x i e => xs.at x i e, fun x ks vs e => d.get x ks vs e, fun x d e => (c.get x d e).1, fun x ds e => (c.get x _ e).2 ds rfl, fun x e => b.get x e⟩, fun x d e => s.get x d e⟩
end Ev2
/-! E13: words for the plain form of a def. -/
namespace Ev2
open PySem M

abbrev Cl := Str → Option (List D → List (Str × D) → M D)

def rdV (ρ : Env) (i : Nat) : M D := match ρ[i]? with
  | some (some d) => pu d
  | _ => bad
def aL : List (M D) → M (List D)
  | [] => pu []
  | m :: ms => bnd m fun d => bnd (aL ms) fun ds => pu (d :: ds)
/-- items with stars among them -/
def aX : List (Bool × M D) → M (List D)
  | [] => pu []
  | (false, m) :: ms => bnd m fun d => bnd (aX ms) fun ds => pu (d :: ds)
  | (true, m) :: ms => bnd m fun d => bnd (sqM d) fun xs => bnd (aX ms) fun ds => pu (xs ++ ds)
/-- keywords -/
def aK : List (Str × M D) → M (List (Str × D))
  | [] => pu []
  | (n, m) :: ms => bnd m fun d => bnd (aK ms) fun ds => pu ((n, d) :: ds)
def callKw (c : Option (List D → List (Str × D) → M D)) (as : M (List D)) (ks : M (List (Str × D))) : M D := match c with
  | some g => bnd as fun ds => bnd ks fun kv => g ds kv
  | none => bad
def callM (c : Option (List D → List (Str × D) → M D)) (as : M (List D)) : M D := match c with
  | some g => bnd as fun ds => g ds []
  | none => bad
def sq (m : M Fl) (k : Env → M Fl) : M Fl := bnd m fun f => match f with
  | .nx ρ1 => k ρ1
  | f => pu f
def fin (m : M Fl) : M D := bnd m fun f => match f with
  | .rt v => pu v
  | .nx _ => pu .non
  | _ => bad
def setN (i : Nat) (d : D) (ρ : Env) : Option Env := some (ρ.set i (some d))
def setSl : List Nat → List D → Env → Option Env
  | [], [], ρ => some ρ
  | i :: is, d :: ds, ρ => setSl is ds (ρ.set i (some d))
  | _, _, _ => none
def setT (is : List Nat) (d : D) (ρ : Env) : Option Env := (unT d).bind fun ds => setSl is ds ρ
/-- (a, b), c = d -/
def setT2 (is js : List Nat) (d : D) (ρ : Env) : Option Env := (unT d).bind fun ds => (match ds with
  | d0 :: ds => (unT d0).bind fun es => (setSl is es ρ).bind fun ρ1 => setSl js ds ρ1
  | [] => none)
def asgT (is : List Nat) (m : M D) (ρ : Env) : M Fl := bnd m fun d => match unT d with
  | some ds => (match setSl is ds ρ with
    | some ρ1 => pu (.nx ρ1)
    | none => bad)
  | none => bad
def asgN (i : Nat) (m : M D) (ρ : Env) : M Fl := bnd m fun d => pu (.nx (ρ.set i (some d)))
def lpB (set : D → Env → Option Env) (body : Env → M Fl) (d : D) (st : Fl) : M Fl := match st with
  | .nx ρ => (match set d ρ with
    | some ρ1 => bnd (body ρ1) fun f => match f with
      | .nx ρ2 => pu (.nx ρ2)
      | .ct ρ2 => pu (.nx ρ2)
      | f => pu f
    | none => bad)
  | f => pu f
def cmB (set : D → Env → Option Env) (w : List Nat) (t : Env → M Bool) (e : Env → M D) (ρ : Env) (d : D) (acc : List D) : M (List D) := match set d (wipeE ρ w) with
  | some ρ1 => bnd (t ρ1) fun b => if b then bnd (e ρ1) fun v => if acc.length < sizeLine then pu (acc ++ [v]) else bad else pu acc
  | none => bad
/-- two fors: the inner one, the outer one -/
def cmB1 (set1 : D → Env → Option Env) (w1 : List Nat) (t1 : Env → M Bool) (e : Env → M D) (ρ1 : Env) (d : D) (acc : List D) : M (List D) := match set1 d (wipeE ρ1 w1) with
  | some ρ2 => bnd (t1 ρ2) fun b => if b then bnd (e ρ2) fun v => if acc.length < sizeLine then pu (acc ++ [v]) else bad else pu acc
  | none => bad
def cmB2 (set : D → Env → Option Env) (w : List Nat) (t : Env → M Bool) (it : Env → M Src) (set1 : D → Env → Option Env) (w1 : List Nat) (t1 : Env → M Bool) (e : Env → M D) (ρ : Env) (d : D) (acc : List D) : M (List D) := match set d (wipeE ρ w) with
  | some ρ1 => bnd (t ρ1) fun b => if b then bnd (it ρ1) fun s1 => goSrc (cmB1 set1 w1 t1 e ρ1) s1 acc else pu acc
  | none => bad
def partM (m : M D) : M (Option Int) := bnd m fun d => match d with
  | .int i => pu (some i)
  | _ => bad
/-- parts of an f-string -/
def ptF (m : M D) : M Str := bnd m fun d => (match d with
  | .str y => if y.length ≤ sizeLine then pu y else bad
  | _ => bad)
def ptC (m : M D) : M Str := bnd m fun d => (match d with
  | .str y => pu y
  | _ => bad)
def jnL : List (M Str) → Str → M Str
  | [], acc => pu acc
  | m :: ms, acc => bnd m fun y => if (acc ++ y).length ≤ sizeLine then jnL ms (acc ++ y) else bad
/-- {k: d} -/
def dk1 (mu : Bool) (kd d : D) : M D := match kd with
  | .str z => mkD mu [z] [d]
  | _ => bad
/-- {k: v for ..} -/
def cmD (set : D → Env → Option Env) (w : List Nat) (t : Env → M Bool) (kx vx : Env → M D) (ρ : Env) (d : D) (acc : List (Str × D)) : M (List (Str × D)) := match set d (wipeE ρ w) with
  | some ρ1 => bnd (t ρ1) fun b => if b then bnd (kx ρ1) fun k => bnd (vx ρ1) fun v => putE k v acc else pu acc
  | none => bad
end Ev2
/-! E14: the plain form's runs, behind-first. -/
namespace Ev2
open PySem M

/-- the run ends well, and what is asked holds behind it -/
class Kt (α : Type) where
  k : α → Store → Prop
/-- what stands behind the run is kept where simp does not look, until the run is through -/
def wpI {α : Type} (m : M α) [Q : Kt α] (S : Store) : Prop := ∃ a S1, m S = .ok a S1 ∧ Q.k a S1
@[reducible] def wp {α : Type} (m : M α) (Q : α → Store → Prop) (S : Store) : Prop := @wpI α m ⟨Q⟩ S

section
variable {α β : Type} {S S1 S2 : Store}

theorem wp_bnd {m : M α} {f : α → M β} {Q : β → Store → Prop} : wp (bnd m f) Q S ↔ wp m (fun a S1 => wp (f a) Q S1) S := by
  unfold wp wpI bnd
  constructor
  · rintro ⟨a, S1, e, q⟩
    cases h : m S with
    | ok b S2 => rw [h] at e; exact ⟨b, S2, rfl, a, S1, e, q⟩
    | exc c fs S2 => rw [h] at e; cases e
    | bad => rw [h] at e; cases e
  · rintro ⟨b, S2, e, a, S1, e2, q⟩
    exact ⟨a, S1, by rw [e]; exact e2, q⟩
theorem wp_pu {a : α} {Q : α → Store → Prop} : wp (pu a) Q S ↔ Q a S := by
  unfold wp wpI pu
  constructor
  · rintro ⟨b, S1, e, q⟩; cases e; exact q
  · exact fun q => ⟨a, S, rfl, q⟩
theorem wp_mono {m : M α} {Q R : α → Store → Prop} (h : wp m Q S) (i : ∀ a S1, Q a S1 → R a S1) : wp m R S := let ⟨a, S1, e, q⟩ := h; ⟨a, S1, e, i a S1 q⟩
theorem wp_run {m : M α} {a : α} {Q : α → Store → Prop} (e : m S = .ok a S1) (q : Q a S1) : wp m Q S := ⟨a, S1, e, q⟩
theorem wp_ite {c : Prop} [Decidable c] {m n : M α} {Q : α → Store → Prop} : wp (if c then m else n) Q S ↔ if c then wp m Q S else wp n Q S := by
  split <;> exact Iff.rfl
theorem wp_if {b : Bool} {m n : M α} {Q : α → Store → Prop} : wp (if b then m else n) Q S ↔ if b then wp m Q S else wp n Q S := wp_ite

theorem wp_sq {m : M Fl} {k : Env → M Fl} {Q : Fl → Store → Prop} : wp (sq m k) Q S ↔ wp m (fun f S1 => match f with | .nx ρ => wp (k ρ) Q S1 | f => Q f S1) S := by
  unfold sq
  rw [wp_bnd]
  constructor
  · intro h; refine wp_mono h fun f S1 q => ?_
    cases f <;> first | exact q | exact wp_pu.mp q
  · intro h; refine wp_mono h fun f S1 q => ?_
    cases f <;> first | exact q | exact wp_pu.mpr q
theorem wp_fin {m : M Fl} {Q : D → Store → Prop} : wp (fin m) Q S ↔ wp m (fun f S1 => match f with | .rt v => Q v S1 | .nx _ => Q .non S1 | _ => False) S := by
  unfold fin
  rw [wp_bnd]
  constructor
  · intro h; refine wp_mono h fun f S1 q => ?_
    cases f <;> first | exact wp_pu.mp q | (obtain ⟨a, S2, e, _⟩ := q; cases e)
  · intro h; refine wp_mono h fun f S1 q => ?_
    cases f <;> first | exact wp_pu.mpr q | exact q.elim
theorem wp_asgN {i : Nat} {m : M D} {ρ : Env} {Q : Fl → Store → Prop} : wp (asgN i m ρ) Q S ↔ wp m (fun d S1 => Q (.nx (ρ.set i (some d))) S1) S := by
  unfold asgN
  simp only [wp_bnd, wp_pu]
theorem wp_aL_nil {Q : List D → Store → Prop} : wp (aL []) Q S ↔ Q [] S := by unfold aL; exact wp_pu
theorem wp_aL_cons {m : M D} {ms : List (M D)} {Q : List D → Store → Prop} : wp (aL (m :: ms)) Q S ↔ wp m (fun d S1 => wp (aL ms) (fun ds S2 => Q (d :: ds) S2) S1) S := by
  rw [aL]; simp only [wp_bnd, wp_pu]
theorem wp_callM {g : List D → List (Str × D) → M D} {as : M (List D)} {Q : D → Store → Prop} : wp (callM (some g) as) Q S ↔ wp as (fun ds S1 => wp (g ds []) Q S1) S := by
  unfold callM; exact wp_bnd
theorem rdV_some {ρ : Env} {i : Nat} {d : D} (h : ρ[i]? = some (some d)) : rdV ρ i = pu d := by unfold rdV; rw [h]
theorem wp_rdV {ρ : Env} {i : Nat} {Q : D → Store → Prop} : wp (rdV ρ i) Q S ↔ ∃ d, ρ[i]? = some (some d) ∧ Q d S := by
  unfold rdV
  constructor
  · rintro ⟨a, S1, e, q⟩
    rcases h : ρ[i]? with _ | (_ | d)
    · rw [h] at e; cases e
    · rw [h] at e; cases e
    · rw [h] at e; cases e; exact ⟨_, rfl, q⟩
  · rintro ⟨d, h, q⟩
    rw [h]
    exact wp_pu.mpr q

/-! loops -/
theorem wp_goVals_nil {f : D → β → M β} {b : β} {Q : β → Store → Prop} : wp (goVals f [] b) Q S ↔ Q b S := wp_pu
theorem wp_goVals_cons {f : D → β → M β} {d : D} {ds : List D} {b : β} {Q : β → Store → Prop} : wp (goVals f (d :: ds) b) Q S ↔ wp (f d b) (fun b1 S1 => wp (goVals f ds b1) Q S1) S := by
  rw [goVals]; exact wp_bnd
theorem wp_goVals {f : D → β → M β} {Q : β → Store → Prop} (I : Nat → β → Store → Prop) : ∀ (xs : List D) (j : Nat) (b : β) (S : Store), I j b S → (∀ k d b S, xs[k]? = some d → I (j + k) b S → wp (f d b) (I (j + k + 1)) S) → (∀ b S, I (j + xs.length) b S → Q b S) → wp (goVals f xs b) Q S
  | [], j, b, S, h, _, q => wp_goVals_nil.mpr (q b S (by simpa using h))
  | d :: ds, j, b, S, h, st, q => by
    rw [wp_goVals_cons]
    refine wp_mono (st 0 d b S rfl h) fun b1 S1 h1 => ?_
    refine wp_goVals I ds (j + 1) b1 S1 h1 (fun k d' b' S' e hi => ?_) fun b' S' hi => ?_
    · have := st (k + 1) d' b' S' (by simpa using e) (by rw [← Nat.add_assoc, Nat.add_right_comm]; exact hi)
      have e2 : j + (k + 1) + 1 = j + 1 + k + 1 := by omega
      rw [e2] at this
      exact this
    · have e2 : j + (d :: ds).length = j + 1 + ds.length := by simp; omega
      exact q b' S' (by rw [e2]; exact hi)
theorem wp_goSrc {f : D → β → M β} {xs : List D} {b : β} {Q : β → Store → Prop} : wp (goSrc f (.vals xs) b) Q S ↔ wp (goVals f xs b) Q S := Iff.rfl
theorem wp_goRef {f : D → β → M β} {i : Nat} {xs : List D} {Q : β → Store → Prop} (I : Nat → β → Store → Prop) : ∀ (n k : Nat) (b : β) (S : Store), n + k = xs.length + 1 → k ≤ xs.length → I k b S → (∀ k b S, I k b S → lstAt S i = some xs) →
    (∀ k d b S, xs[k]? = some d → I k b S → wp (f d b) (I (k + 1)) S) → (∀ b S, I xs.length b S → Q b S) → wp (goRef f i n k b) Q S
  | 0, k, b, S, e, l, _, _, _, _ => by omega
  | n + 1, k, b, S, e, l, h, hl, st, q => by
    have h0 := hl k b S h
    rcases Nat.lt_or_ge k xs.length with hk | hk
    · have hx : xs[k]? = some xs[k] := List.getElem?_eq_getElem hk
      have main : wp (bnd (f xs[k] b) fun b1 => goRef f i n (k + 1) b1) Q S := by
        rw [wp_bnd]
        exact wp_mono (st k _ b S hx h) fun b1 S1 h1 => wp_goRef I n (k + 1) b1 S1 (by omega) (by omega) h1 hl st q
      obtain ⟨a, S1, e1, q1⟩ := main
      refine ⟨a, S1, ?_, q1⟩
      rw [goRef]
      simp only [h0, hx]
      exact e1
    · have hx : xs[k]? = none := List.getElem?_eq_none hk
      have : k = xs.length := by omega
      subst this
      refine ⟨b, S, ?_, q b S h⟩
      rw [goRef]
      simp only [h0, hx]
theorem wp_goLref {f : D → β → M β} {i : Nat} {xs : List D} {b : β} {Q : β → Store → Prop} (I : Nat → β → Store → Prop) (h : I 0 b S) (hl : ∀ k b S, I k b S → lstAt S i = some xs)
    (st : ∀ k d b S, xs[k]? = some d → I k b S → wp (f d b) (I (k + 1)) S) (q : ∀ b S, I xs.length b S → Q b S) : wp (goSrc f (.lref i) b) Q S := by
  obtain ⟨a, S1, e, q1⟩ := wp_goRef (f := f) (i := i) (xs := xs) I (xs.length + 1) 0 b S (by omega) (by omega) h hl st q
  refine ⟨a, S1, ?_, q1⟩
  simp only [goSrc, hl 0 b S h]
  exact e

/-! the store -/
theorem lstAt_set_same {i : Nat} {xs ys : List D} (h : lstAt S i = some ys) : lstAt (S.set i (.lst xs)) i = some xs := by
  unfold lstAt at h ⊢
  have hi : i < S.length := by
    rcases Nat.lt_or_ge i S.length with z | z
    · exact z
    · rw [List.getElem?_eq_none z] at h; cases h
  rw [List.getElem?_set_self hi]
theorem lstAt_set_ne {i j : Nat} {o : SO} (h : i ≠ j) : lstAt (S.set i o) j = lstAt S j := by
  unfold lstAt; rw [List.getElem?_set_ne h]
theorem lstAt_new {xs : List D} : lstAt (S ++ [.lst xs]) S.length = some xs := by unfold lstAt; simp
theorem lstAt_lt {i : Nat} {xs : List D} (h : lstAt S i = some xs) : i < S.length := by
  rcases Nat.lt_or_ge i S.length with z | z
  · exact z
  · unfold lstAt at h; rw [List.getElem?_eq_none z] at h; cases h
theorem lstAt_app {i : Nat} {T : Store} (h : i < S.length) : lstAt (S ++ T) i = lstAt S i := by unfold lstAt; rw [List.getElem?_append_left h]

/-- what lies in the store stays, but for the hand -/
structure Fr (i : Nat) (S S1 : Store) : Prop where
  len : S.length ≤ S1.length
  old : ∀ j, j < S.length → j ≠ i → S1[j]? = S[j]?
theorem Fr.refl {i : Nat} : Fr i S S := ⟨Nat.le_refl _, fun _ _ _ => rfl⟩
theorem Fr.trans {i : Nat} (a : Fr i S S1) (b : Fr i S1 S2) : Fr i S S2 := ⟨Nat.le_trans a.len b.len, fun j h n => (b.old j (Nat.lt_of_lt_of_le h a.len) n).trans (a.old j h n)⟩
theorem Fr.set {i : Nat} {o : SO} : Fr i S (S.set i o) := ⟨by simp, fun j _ n => List.getElem?_set_ne (Ne.symm n)⟩
theorem Fr.new {i : Nat} {T : Store} : Fr i S (S ++ T) := ⟨by simp, fun j h _ => List.getElem?_append_left h⟩
theorem Fr.at {i j : Nat} {xs : List D} (a : Fr i S S1) (h : lstAt S j = some xs) (n : j ≠ i) : lstAt S1 j = some xs := by
  have l := lstAt_lt h
  unfold lstAt at h ⊢
  rw [a.old j l n]
  exact h
theorem dctAt_lt {i : Nat} {kvs : List (Str × D)} (h : dctAt S i = some kvs) : i < S.length := by
  unfold dctAt at h
  exact Nat.lt_of_not_le fun l => by rw [List.getElem?_eq_none l] at h; cases h
theorem Fr.atD {i j : Nat} {kvs : List (Str × D)} (a : Fr i S S1) (h : dctAt S j = some kvs) (n : j ≠ i) : dctAt S1 j = some kvs := by
  have l := dctAt_lt h
  unfold dctAt at h ⊢
  rw [a.old j l n]
  exact h

/-- the hand: three whole numbers; the last one counts -/
structure Hd (S : Store) (i n : Nat) : Prop where
  ex : ∃ a b c : Int, lstAt S i = some [.int a, .int b, .int c] ∧ 0 ≤ a ∧ a < 2 ^ 1100 ∧ 0 ≤ b ∧ b < 2 ^ 62 ∧ 0 ≤ c ∧ c ≤ n
theorem Hd.mono {i n m : Nat} (h : Hd S i n) (l : n ≤ m) : Hd S i m := by
  obtain ⟨a, b, c, h1, h2, h3, h4, h5, h6, h7⟩ := h.ex
  exact ⟨a, b, c, h1, h2, h3, h4, h5, h6, by omega⟩
theorem Hd.new {i n : Nat} {T : Store} (h : Hd S i n) : Hd (S ++ T) i n := by
  obtain ⟨a, b, c, h1, h2⟩ := h.ex
  exact ⟨a, b, c, by rw [lstAt_app (lstAt_lt h1)]; exact h1, h2⟩
theorem Hd.set {i j n : Nat} {o : SO} (h : Hd S i n) (ne : j ≠ i) : Hd (S.set j o) i n := by
  obtain ⟨a, b, c, h1, h2⟩ := h.ex
  exact ⟨a, b, c, by rw [lstAt_set_ne ne]; exact h1, h2⟩
theorem Hd.lt {i n : Nat} (h : Hd S i n) : i < S.length := by
  obtain ⟨a, b, c, h1, h2⟩ := h.ex
  exact lstAt_lt h1
/-! operators -/
theorem wp_add {mu : Bool} {a b : Int} {Q : D → Store → Prop} : wp (binOp mu .Add (.int a) (.int b)) Q S ↔ Q (.int (a + b)) S := wp_pu
theorem wp_sub {mu : Bool} {a b : Int} {Q : D → Store → Prop} : wp (binOp mu .Sub (.int a) (.int b)) Q S ↔ Q (.int (a - b)) S := wp_pu
theorem wp_mul {mu : Bool} {a b : Int} {Q : D → Store → Prop} (h : a.natAbs.log2 + b.natAbs.log2 < 1000000) : wp (binOp mu .Mult (.int a) (.int b)) Q S ↔ Q (.int (a * b)) S := by
  have e : binOp mu .Mult (.int a) (.int b) = pu (.int (a * b)) := if_pos h
  rw [e]; exact wp_pu
theorem wp_mod {mu : Bool} {a b : Int} {Q : D → Store → Prop} (h : 0 < b) : wp (binOp mu .Mod (.int a) (.int b)) Q S ↔ Q (.int (a % b)) S := by
  have e : binOp mu .Mod (.int a) (.int b) = pu (.int (a % b)) := if_pos h
  rw [e]; exact wp_pu
theorem wp_div {mu : Bool} {a b : Int} {Q : D → Store → Prop} (h : 0 < b) (h2 : b.natAbs.log2 < 9000) : wp (binOp mu .FloorDiv (.int a) (.int b)) Q S ↔ Q (.int (a / b)) S := by
  have e : binOp mu .FloorDiv (.int a) (.int b) = pu (.int (a / b)) := if_pos (And.intro h h2)
  rw [e]; exact wp_pu
theorem wp_pow {mu : Bool} {a b : Int} {Q : D → Store → Prop} (h : 0 ≤ b) (h2 : (Builtin.Int.intBits a : Int) * b ≤ 2 ^ 27) : wp (binOp mu .Pow (.int a) (.int b)) Q S ↔ Q (.int (a ^ b.toNat)) S := by
  have e : binOp mu .Pow (.int a) (.int b) = pu (.int (a ^ b.toNat)) := if_pos (And.intro h h2)
  rw [e]; exact wp_pu
theorem wp_lt {a b : Int} {Q : D → Store → Prop} : wp (cmpOp .Lt (.int a) (.int b)) Q S ↔ Q (.bl (decide (a < b))) S := wp_pu
theorem wp_le {a b : Int} {Q : D → Store → Prop} : wp (cmpOp .LtE (.int a) (.int b)) Q S ↔ Q (.bl (decide (a ≤ b))) S := wp_pu
theorem wp_gt {a b : Int} {Q : D → Store → Prop} : wp (cmpOp .Gt (.int a) (.int b)) Q S ↔ Q (.bl (decide (b < a))) S := wp_pu
theorem wp_ge {a b : Int} {Q : D → Store → Prop} : wp (cmpOp .GtE (.int a) (.int b)) Q S ↔ Q (.bl (decide (b ≤ a))) S := wp_pu
theorem wp_asB {b : Bool} {Q : Bool → Store → Prop} : wp (asB (.bl b)) Q S ↔ Q b S := wp_pu
theorem wp_eqS {a b : D} {r : Bool} {Q : D → Store → Prop} (h : eqS a b = some r) : wp (cmpOp .Eq a b) Q S ↔ Q (.bl r) S := by
  have e : cmpOp .Eq a b S = .ok (.bl r) S := by simp only [cmpOp, eqD, h]
  exact ⟨fun ⟨x, S1, e1, q⟩ => by rw [e] at e1; cases e1; exact q, fun q => ⟨_, _, e, q⟩⟩
theorem wp_neS {a b : D} {r : Bool} {Q : D → Store → Prop} (h : eqS a b = some r) : wp (cmpOp .NotEq a b) Q S ↔ Q (.bl (!r)) S := by
  have e : cmpOp .NotEq a b S = .ok (.bl (!r)) S := by simp only [cmpOp, eqD, h]
  exact ⟨fun ⟨x, S1, e1, q⟩ => by rw [e] at e1; cases e1; exact q, fun q => ⟨_, _, e, q⟩⟩
/-- a run that is known -/
theorem wp_known {α : Type} {m : M α} {a : α} {Q : α → Store → Prop} (e : m S = .ok a S1) : wp m Q S ↔ Q a S1 :=
  ⟨fun ⟨x, S2, e1, q⟩ => by rw [e] at e1; cases e1; exact q, fun q => ⟨_, _, e, q⟩⟩
theorem ixOp_seq {a : D} {xs : List D} {k : Int} {d : D} (h : seqOf S a = some xs) (hx : L2.atI xs k = some d) : ixOp a (.int k) S = .ok d S := by
  have key : (match seqOf S a with
    | some xs => (match L2.atI xs k with
      | some d => R.ok d S
      | none => .bad)
    | none => .bad) = R.ok d S := by rw [h]; show (match L2.atI xs k with | some d => R.ok d S | none => .bad) = _; rw [hx]
  cases a with
  | str x => cases h
  | non => cases h
  | bl b => cases h
  | int i => cases h
  | ty t => cases h
  | tup ys => exact key
  | lst ys => exact key
  | rol ys => exact key
  | ref i => exact key
  | dct ks vs => cases h
  | dref i => cases h
  | err c ks vs => cases h
theorem ixD_dct {ks : List Str} {vs : List D} {b : D} : ixD (.dct ks vs) b = dixOp ks vs b := rfl
theorem ixD_tup {xs : List D} {b : D} : ixD (.tup xs) b = ixOp (.tup xs) b := rfl
theorem ixD_lst {xs : List D} {b : D} : ixD (.lst xs) b = ixOp (.lst xs) b := rfl
theorem ixD_rol {xs : List D} {b : D} : ixD (.rol xs) b = ixOp (.rol xs) b := rfl
theorem ixD_ref {i : Nat} {b : D} : ixD (.ref i) b = ixOp (.ref i) b := rfl
theorem ixD_dref {i : Nat} {b : D} : ixD (.dref i) b = drefIx i b := rfl
theorem ixD_seq {a b : D} {xs : List D} (h : seqOf S a = some xs) : ixD a b = ixOp a b := by
  cases a <;> first | rfl | (exfalso; cases h; done)
theorem dix_run {ks : List Str} {vs : List D} {x : Str} {d : D} (h : dGet ks vs x = some d) : dixOp ks vs (.str x) S = .ok d S := by
  show (match dGet ks vs x with
    | some d => pu d
    | none => bad) S = _
  rw [h]
  rfl
theorem ixOp_ref {i : Nat} {xs : List D} {k : Int} {d : D} (h : lstAt S i = some xs) (hx : L2.atI xs k = some d) : ixOp (.ref i) (.int k) S = .ok d S := ixOp_seq h hx
theorem setItem_ref {i j : Nat} {xs : List D} {k : Int} {v : D} (h : lstAt S i = some xs) (hx : L2.ixN xs.length k = some j) : setItemOp (.ref i) (.int k) v S = .ok () (S.set i (.lst (xs.set j v))) := by
  show (match lstAt S i with
    | some xs => (match L2.ixN xs.length k with
      | some j => R.ok () (S.set i (.lst (xs.set j v)))
      | none => .bad)
    | none => .bad) = _
  rw [h]
  show (match L2.ixN xs.length k with
      | some j => R.ok () (S.set i (.lst (xs.set j v)))
      | none => .bad) = _
  rw [hx]
theorem mkL_new {xs : List D} (h : xs.length ≤ sizeLine) : mkL true xs S = .ok (.ref S.length) (S ++ [.lst xs]) := by unfold mkL; rw [if_pos h]; rfl
theorem mkL_frz {xs : List D} (h : xs.length ≤ sizeLine) : mkL false xs S = .ok (.lst xs) S := by unfold mkL; rw [if_pos h]; rfl
theorem mkT_ok {xs : List D} (h : xs.length ≤ sizeLine) : mkT xs S = .ok (.tup xs) S := by unfold mkT; rw [if_pos h]
theorem len_seq {mu : Bool} {a : D} {xs : List D} (h : seqOf S a = some xs) : callB mu .len [a] S = .ok (.int xs.length) S := by
  have key : (match seqOf S a with
    | some xs => R.ok (D.int xs.length) S
    | none => .bad) = R.ok (D.int xs.length) S := by rw [h]
  cases a with
  | str x => cases h
  | non => cases h
  | bl b => cases h
  | int i => cases h
  | ty t => cases h
  | tup ys => exact key
  | lst ys => exact key
  | rol ys => exact key
  | ref i => exact key
  | dct ks vs => cases h
  | dref i => cases h
  | err c ks vs => cases h
end
end Ev2
/-! E15: bounds of whole numbers; the words of a run. -/
namespace Ev2
open PySem M

/-- below 2^k -/
def Bd (x : Int) (k : Nat) : Prop := x.natAbs < 2 ^ k
instance {x : Int} {k : Nat} : Decidable (Bd x k) := inferInstanceAs (Decidable (x.natAbs < 2 ^ k))
theorem Bd.mono {x : Int} {j k : Nat} (h : Bd x j) (l : j ≤ k) : Bd x k := Nat.lt_of_lt_of_le h (Nat.pow_le_pow_right (by decide) l)
theorem Bd.mul {x y : Int} {j k : Nat} (a : Bd x j) (b : Bd y k) : Bd (x * y) (j + k) := by
  unfold Bd at *
  rw [Int.natAbs_mul, Nat.pow_add]
  exact Nat.lt_of_le_of_lt (Nat.mul_le_mul_right _ (Nat.le_of_lt a)) (Nat.mul_lt_mul_of_pos_left b (Nat.pow_pos (by decide)))
theorem Bd.add {x y : Int} {k : Nat} (a : Bd x k) (b : Bd y k) : Bd (x + y) (k + 1) := by
  unfold Bd at *
  have := Int.natAbs_add_le x y
  rw [Nat.pow_succ]
  omega
theorem Bd.mod {x y : Int} {k : Nat} (h : 0 < y) (b : Bd y k) : Bd (x % y) k := by
  unfold Bd at *
  have h1 := Int.emod_nonneg x (Int.ne_of_gt h)
  have h2 := Int.emod_lt_of_pos x h
  omega
theorem Bd.of {x : Int} {k : Nat} (h : 0 ≤ x) (l : x < 2 ^ k) : Bd x k := by
  unfold Bd
  have e : ((2 ^ k : Nat) : Int) = (2 : Int) ^ k := by simp
  omega
theorem Bd.log {x : Int} {k : Nat} (h : Bd x k) (p : 0 < k) : x.natAbs.log2 < k := by
  unfold Bd at h
  by_cases z : x.natAbs = 0
  · rw [z]; simpa using p
  · exact (Nat.log2_lt z).mpr h
theorem Bd.bits {x : Int} {k : Nat} (h : Bd x k) (p : 0 < k) : Builtin.Int.intBits x ≤ k := by
  unfold Builtin.Int.intBits
  have := h.log p
  split <;> omega

variable {S S1 : Store}
theorem wp_mulB {mu : Bool} {a b : Int} {j k : Nat} {Q : D → Store → Prop} (ha : Bd a j) (hb : Bd b k) (l : j + k ≤ 100000) (q : Bd (a * b) (j + k) → Q (.int (a * b)) S) : wp (binOp mu .Mult (.int a) (.int b)) Q S := by
  refine (wp_mul ?_).mpr (q (ha.mul hb))
  have h1 := (ha.mono (Nat.le_succ j)).log (Nat.succ_pos j)
  have h2 := (hb.mono (Nat.le_succ k)).log (Nat.succ_pos k)
  omega
theorem wp_modB {mu : Bool} {a b : Int} {Q : D → Store → Prop} (h : 0 < b) (q : 0 ≤ a % b → a % b < b → Q (.int (a % b)) S) : wp (binOp mu .Mod (.int a) (.int b)) Q S :=
  (wp_mod h).mpr (q (Int.emod_nonneg a (Int.ne_of_gt h)) (Int.emod_lt_of_pos a h))
theorem wp_divB {mu : Bool} {a b : Int} {k : Nat} {Q : D → Store → Prop} (h : 0 < b) (hb : Bd b k) (l : k ≤ 8000) (q : Q (.int (a / b)) S) : wp (binOp mu .FloorDiv (.int a) (.int b)) Q S := by
  refine (wp_div h ?_).mpr q
  have h1 := (hb.mono (Nat.le_succ k)).log (Nat.succ_pos k)
  omega
theorem wp_powB {mu : Bool} {a : Int} {k n : Nat} {Q : D → Store → Prop} (ha : Bd a k) (p : 0 < k) (l : k * n ≤ 100000) (q : Q (.int (a ^ n)) S) : wp (binOp mu .Pow (.int a) (.int n)) Q S := by
  refine (wp_pow (Int.natCast_nonneg n) ?_).mpr q
  have h := ha.bits p
  have h2 : Builtin.Int.intBits a * n ≤ k * n := Nat.mul_le_mul_right n h
  have h3 : (Builtin.Int.intBits a : Int) * (n : Int) = ((Builtin.Int.intBits a * n : Nat) : Int) := by simp
  rw [h3]
  have : (2 : Int) ^ 27 = 134217728 := rfl
  omega

theorem rdV0 {d : D} {ρ : Env} : rdV (some d :: ρ) 0 = pu d := rfl
theorem rdVs {d : Option D} {ρ : Env} {i : Nat} : rdV (d :: ρ) (i + 1) = rdV ρ i := rfl
theorem fits {n : Nat} (h : n ≤ 1000000) : n ≤ sizeLine := Nat.le_trans h (by decide)
theorem fitsL {xs : List D} (h : xs.length ≤ 1000000) : xs.length ≤ sizeLine := fits h
end Ev2
/-! E16: repr of values that are not great. -/
namespace Ev2
open PySem M

/-- the data's text is not longer than n, its depth is not above k -/
structure Sm (n k : Nat) (p : PyData) : Prop where
  s : p.showable = true
  l : p.shown.length ≤ n
  d : p.depth ≤ k

theorem Sm.mono {n m k j : Nat} {p : PyData} (h : Sm n k p) (a : n ≤ m) (b : k ≤ j) : Sm m j p := ⟨h.s, Nat.le_trans h.l a, Nat.le_trans h.d b⟩
theorem Sm.non : Sm 4 0 .none := ⟨rfl, by decide, by decide⟩
theorem Sm.bl (b : Bool) : Sm 5 0 (.bool b) := ⟨rfl, by cases b <;> decide, by simp [PyData.depth]⟩
theorem Sm.str {x : Str} {n : Nat} (h : (reprText x).length ≤ n) : Sm n 0 (.str x) := ⟨rfl, by simpa [PyData.shown] using h, by simp [PyData.depth]⟩
theorem Sm.int {i : Int} (h : i.natAbs.log2 < 1920) : Sm 1921 0 (.int i) := ⟨by simpa [PyData.showable] using h, by simpa only [PyData.shown] using PyProof.Rows.int_text_len_1921 h, by simp [PyData.depth]⟩

theorem textFrom_up (n : Nat) : ∀ (ts : List Str) (k : Nat) (acc : Str), (∀ t ∈ ts, t.length ≤ n) → (textFrom k acc ts).length ≤ acc.length + ts.length * (n + 2)
  | [], k, acc, _ => by show acc.length ≤ _; omega
  | t :: r, k, acc, h => by
    have ih := textFrom_up n r (k + 1) (acc ++ (if k > 0 then ", " else "" : String) ++ t) fun u hu => h u (List.mem_cons_of_mem _ hu)
    have e : (acc ++ (if k > 0 then ", " else "" : String) ++ t).length = acc.length + (if k > 0 then 2 else 0) + t.length := by
      rw [strLen_append, strLen_append]
      split <;> rfl
    have ht := h t List.mem_cons_self
    rw [e] at ih
    show (textFrom (k + 1) _ r).length ≤ _
    have : (if k > 0 then 2 else 0 : Nat) ≤ 2 := by split <;> omega
    rw [List.length_cons, Nat.succ_mul]
    omega

theorem piled_up (n : Nat) : ∀ ts : List Str, (∀ t ∈ ts, t.length ≤ n) → piled ts ≤ ts.length * (n + 2)
  | [], _ => by simp [piled]
  | t :: r, h => by
    have ih := piled_up n r fun u hu => h u (List.mem_cons_of_mem _ hu)
    have ht := h t List.mem_cons_self
    rw [piled_cons, List.length_cons, Nat.succ_mul]
    omega

theorem Sm.all {n k : Nat} : ∀ {ps : List PyData}, (∀ p ∈ ps, Sm n k p) → PyData.showableAll ps = true ∧ (∀ t ∈ PyData.shownAll ps, t.length ≤ n) ∧ PyData.depthAll ps ≤ k ∧ (PyData.shownAll ps).length = ps.length
  | [], _ => ⟨rfl, (fun _ h => by cases h), by simp [PyData.depthAll], rfl⟩
  | p :: ps, h => by
    obtain ⟨h1, h2, h3, h4⟩ := Sm.all fun q hq => h q (List.mem_cons_of_mem _ hq)
    have hp := h p List.mem_cons_self
    refine ⟨by simp [PyData.showableAll, hp.s, h1], fun t ht => ?_, ?_, by simp [PyData.shownAll, h4]⟩
    · simp only [PyData.shownAll, List.mem_cons] at ht
      rcases ht with rfl | ht
      · exact hp.l
      · exact h2 t ht
    · have := hp.d
      simp only [PyData.depthAll]
      omega

theorem Sm.tup {n k : Nat} {ps : List PyData} (h : ∀ p ∈ ps, Sm n k p) : Sm (3 + ps.length * (n + 2)) (k + 1) (.tuple ps) := by
  obtain ⟨h1, h2, h3, h4⟩ := Sm.all h
  refine ⟨by simpa only [PyData.showable] using h1, ?_, by simp only [PyData.depth]; omega⟩
  simp only [PyData.shown]
  unfold tupleText
  rw [strLen_append, strLen_append]
  have e1 : ((("(" : String) : Str)).length = 1 := rfl
  have e3 : (((if (PyData.shownAll ps).length == 1 then ",)" else ")" : String) : Str)).length ≤ 2 := by split <;> decide
  have hp := piled_up n _ h2
  rw [h4] at hp
  by_cases e : PyData.shownAll ps = []
  · rw [e] at e3 ⊢
    have : (Str.join ", " []).length = 0 := rfl
    omega
  · have := join_length_add _ e
    omega

theorem Sm.lst {n k : Nat} {ps : List PyData} (h : ∀ p ∈ ps, Sm n k p) : Sm (3 + ps.length * (n + 2)) (k + 1) (.list ps) := by
  obtain ⟨h1, h2, h3, h4⟩ := Sm.all h
  refine ⟨by simpa only [PyData.showable] using h1, ?_, by simp only [PyData.depth]; omega⟩
  simp only [PyData.shown]
  unfold listText
  rw [strLen_append]
  have e1 : ((("[" : String) : Str)).length = 1 := rfl
  have e2 : ((("]" : String) : Str)).length = 1 := rfl
  have := textFrom_up n (PyData.shownAll ps) 0 "[" h2
  rw [h4] at this
  omega

theorem repr_run {S : Store} {mu : Bool} {a : D} {p : PyData} {n k : Nat} (h : pyAny S a = some p) (s : Sm n k p) (hn : n ≤ 1000000) (hk : k ≤ 64) : callB mu .repr [a] S = .ok (.str p.shown) S := by
  have t : (p.showable && decide (p.shown.length ≤ sizeLine) && decide (p.depth ≤ 64)) = true := by
    have h1 := Nat.le_trans s.d hk
    have h2 : p.shown.length ≤ sizeLine := Nat.le_trans (Nat.le_trans s.l hn) (by decide)
    rw [s.s, decide_eq_true h1, decide_eq_true h2]
    rfl
  show (match pyAny S a with
    | some p => if p.showable && decide (p.shown.length ≤ sizeLine) && decide (p.depth ≤ 64) then R.ok (D.str p.shown) S else .bad
    | none => .bad) = _
  rw [h]
  show (if p.showable && decide (p.shown.length ≤ sizeLine) && decide (p.depth ≤ 64) then R.ok (D.str p.shown) S else .bad) = _
  rw [t]
  rfl

/-- the items' data -/
theorem toPys_of {n k : Nat} (f : D → Prop) (h : ∀ d, f d → ∃ p, toPyD d = some p ∧ Sm n k p) : ∀ ds : List D, (∀ d ∈ ds, f d) → ∃ ps, toPysD ds = some ps ∧ ps.length = ds.length ∧ ∀ p ∈ ps, Sm n k p
  | [], _ => ⟨[], rfl, rfl, fun _ z => by cases z⟩
  | d :: ds, hd => by
    obtain ⟨p, h1, h2⟩ := h d (hd d List.mem_cons_self)
    obtain ⟨ps, h3, h4, h5⟩ := toPys_of f h ds fun x hx => hd x (List.mem_cons_of_mem _ hx)
    refine ⟨p :: ps, by simp only [toPysD, h1, h3], by simp [h4], fun q hq => ?_⟩
    rcases List.mem_cons.mp hq with rfl | hq
    · exact h2
    · exact h5 q hq
end Ev2
namespace Ev2
open PySem M
theorem comp_run {set : D → Env → Option Env} {w : List Nat} {t : Env → M Bool} {e : Env → M D} {ρ : Env} {S : Store} (p : D → Bool) (f : D → D) (ρ' : D → Env) : ∀ (xs acc : List D),
    (∀ d ∈ xs, set d (wipeE ρ w) = some (ρ' d) ∧ t (ρ' d) S = .ok (p d) S ∧ (p d = true → e (ρ' d) S = .ok (f d) S)) → acc.length + xs.length ≤ 1000000 →
    goVals (cmB set w t e ρ) xs acc S = .ok (acc ++ (xs.filter p).map f) S
  | [], acc, _, _ => by simp [goVals, pu]
  | d :: ds, acc, h, l => by
    obtain ⟨h1, h2, h3⟩ := h d List.mem_cons_self
    have hl : acc.length < sizeLine := Nat.lt_of_lt_of_le (by simp at l; omega : acc.length < 1000001) (by decide)
    have rest := fun acc' l' => comp_run p f ρ' ds acc' (fun x hx => h x (List.mem_cons_of_mem _ hx)) l'
    have one : cmB set w t e ρ d acc S = .ok (if p d then acc ++ [f d] else acc) S := by
      unfold cmB
      rw [h1]
      show bnd (t (ρ' d)) _ S = _
      unfold bnd
      rw [h2]
      by_cases hp : p d = true
      · show (if p d then bnd (e (ρ' d)) fun v => if acc.length < sizeLine then pu (acc ++ [v]) else bad else pu acc) S = _
        rw [if_pos hp, if_pos hp]
        show bnd _ _ S = _
        unfold bnd
        rw [h3 hp]
        show (if acc.length < sizeLine then pu (acc ++ [f d]) else bad) S = _
        rw [if_pos hl]
        rfl
      · show (if p d then bnd (e (ρ' d)) fun v => if acc.length < sizeLine then pu (acc ++ [v]) else bad else pu acc) S = _
        rw [if_neg hp, if_neg hp]
        rfl
    rw [goVals]
    unfold bnd
    rw [one]
    show goVals _ ds (if p d then acc ++ [f d] else acc) S = _
    by_cases hp : p d = true
    · rw [if_pos hp, rest _ (by simp at l ⊢; omega), List.filter_cons_of_pos hp]
      simp
    · rw [if_neg hp, rest _ (by simp at l; omega), List.filter_cons_of_neg hp]

theorem in_run {S : Store} {a b : D} {xs : List D} (h : seqOf S b = some xs) (ha : flatD a = true) (hx : xs.all flatD = true) : cmpOp .In a b S = .ok (.bl (inF a xs)) S := by
  show (match seqOf S b with
    | some xs => if flatD a && xs.all flatD then R.ok (D.bl (inF a xs)) S else (match inDeep S a b with | some r => R.ok (D.bl r) S | none => .bad)
    | none => .bad) = _
  rw [h]
  show (if flatD a && xs.all flatD then R.ok (D.bl (inF a xs)) S else (match inDeep S a b with | some r => R.ok (D.bl r) S | none => .bad)) = _
  rw [ha, hx]
  rfl
theorem eqS_refl_str {x : Str} : eqS (.str x) (.str x) = some true := by simp [eqS]
theorem tuple_run {S : Store} {mu : Bool} {a : D} {xs : List D} (h : seqOf S a = some xs) : callB mu .tuple [a] S = .ok (.tup xs) S := by
  show (match seqOf S a with
    | some xs => R.ok (D.tup xs) S
    | none => .bad) = _
  rw [h]
theorem list_run {S : Store} {mu : Bool} {a : D} {xs : List D} (h : seqOf S a = some xs) : callB mu .list [a] S = mkL mu xs S := by
  show (match seqOf S a with
    | some xs => mkL mu xs S
    | none => .bad) = _
  rw [h]
theorem bnd_run {α β : Type} {m : M α} {f : α → M β} {a : α} {S S1 : Store} (h : m S = .ok a S1) : bnd m f S = f a S1 := by unfold bnd; rw [h]
theorem boolsOf_true : ∀ {xs : List D}, (∀ d ∈ xs, d = .bl true) → ∃ bs, boolsOf xs = some bs ∧ bs.all id = true
  | [], _ => ⟨[], rfl, rfl⟩
  | d :: ds, h => by
    obtain ⟨bs, h1, h2⟩ := boolsOf_true fun x hx => h x (List.mem_cons_of_mem _ hx)
    have := h d List.mem_cons_self
    subst this
    exact ⟨true :: bs, by simp [boolsOf, h1], by simpa using h2⟩
theorem all_run {S : Store} {mu : Bool} {a : D} {xs : List D} (h : listOf S a = some xs) (t : ∀ d ∈ xs, d = .bl true) : callB mu .all [a] S = .ok (.bl true) S := by
  obtain ⟨bs, h1, h2⟩ := boolsOf_true t
  show (match (listOf S a).bind boolsOf with
    | some bs => R.ok (D.bl (bs.all id)) S
    | none => .bad) = _
  rw [h]
  show (match boolsOf xs with
    | some bs => R.ok (D.bl (bs.all id)) S
    | none => .bad) = _
  rw [h1]
  show R.ok (D.bl (bs.all id)) S = _
  rw [h2]
theorem atI_in {xs : List D} {d : Int} (h0 : 0 ≤ d) (h : d < xs.length) : ∃ x, L2.atI xs d = some x ∧ x ∈ xs := by
  obtain ⟨j, rfl⟩ := Int.eq_ofNat_of_zero_le h0
  have hj : j < xs.length := by omega
  exact ⟨xs[j], L2.atI_nat (List.getElem?_eq_getElem hj), List.getElem_mem hj⟩
end Ev2
namespace Ev2
open PySem M
variable {S : Store}
theorem wp_cmN {i : Nat} {w : List Nat} {t : Env → M Bool} {e : Env → M D} {ρ : Env} {d : D} {acc : List D} {Q : List D → Store → Prop} (hl : acc.length ≤ 1000000)
    (h : wp (t ((wipeE ρ w).set i (some d))) (fun b S1 => if b then wp (e ((wipeE ρ w).set i (some d))) (fun v S2 => Q (acc ++ [v]) S2) S1 else Q acc S1) S) : wp (cmB (setN i) w t e ρ d acc) Q S := by
  have h2 : acc.length < sizeLine := Nat.lt_of_le_of_lt hl (by decide)
  show wp (bnd (t ((wipeE ρ w).set i (some d))) fun b => if b then bnd (e ((wipeE ρ w).set i (some d))) fun v => if acc.length < sizeLine then pu (acc ++ [v]) else bad else pu acc) Q S
  rw [wp_bnd]
  refine wp_mono h fun b S1 hb => ?_
  cases b with
  | false => exact wp_pu.mpr hb
  | true =>
    show wp (bnd _ _) Q S1
    rw [wp_bnd]
    refine wp_mono hb fun v S2 hv => ?_
    rw [if_pos h2]
    exact wp_pu.mpr hv
theorem wp_cmN1 {i : Nat} {w : List Nat} {e : Env → M D} {ρ : Env} {d : D} {acc : List D} {Q : List D → Store → Prop} (hl : acc.length ≤ 1000000)
    (h : wp (e ((wipeE ρ w).set i (some d))) (fun v S2 => Q (acc ++ [v]) S2) S) : wp (cmB (setN i) w (fun _ => pu true) e ρ d acc) Q S := wp_cmN hl (wp_pu.mpr h)
theorem wp_lpN {i : Nat} {body : Env → M Fl} {ρ : Env} {d : D} {Q : Fl → Store → Prop}
    (h : wp (body (ρ.set i (some d))) (fun f S1 => match f with | .nx ρ2 => Q (.nx ρ2) S1 | .ct ρ2 => Q (.nx ρ2) S1 | f => Q f S1) S) : wp (lpB (setN i) body d (.nx ρ)) Q S := by
  show wp (bnd (body (ρ.set i (some d))) fun f => match f with
      | .nx ρ2 => pu (.nx ρ2)
      | .ct ρ2 => pu (.nx ρ2)
      | f => pu f) Q S
  rw [wp_bnd]
  refine wp_mono h fun f S1 hf => ?_
  cases f <;> exact wp_pu.mpr hf
def upTo (n : Nat) : List D := (List.range n).map fun (k : Nat) => D.int (k : Int)
theorem upTo_len {n : Nat} : (upTo n).length = n := by simp [upTo]
theorem upTo_at {n k : Nat} {d : D} (h : (upTo n)[k]? = some d) : k < n ∧ d = .int k := by
  unfold upTo at h
  rw [List.getElem?_map] at h
  rcases Nat.lt_or_ge k n with z | z
  · rw [List.getElem?_range z] at h
    cases h
    exact ⟨z, rfl⟩
  · rw [List.getElem?_eq_none (by simpa using z)] at h
    cases h
theorem range_run {n : Nat} (h : n ≤ 1000000) : rangeSrc (.int n) S = .ok (.vals (upTo n)) S := by
  have : (n : Int) < 2 ^ 62 ∧ -(2 ^ 62) ≤ (n : Int) := by omega
  unfold rangeSrc
  dsimp only
  rw [if_pos this, Int.toNat_natCast]
  rfl
theorem loopEnd_rt {d : D} : loopEnd (.rt d) = pu (.rt d) := rfl
theorem loopEnd_nx {ρ : Env} : loopEnd (.nx ρ) = pu (.nx ρ) := rfl
theorem wp_iterVal {m : M D} {Q : Src → Store → Prop} : wp (iterVal m) Q S ↔ wp m (fun d S1 => wp (srcOf d) Q S1) S := wp_bnd
theorem srcOf_tup {xs : List D} : srcOf (.tup xs) = pu (.vals xs) := rfl
theorem srcOf_lst {xs : List D} : srcOf (.lst xs) = pu (.vals xs) := rfl
theorem srcOf_rol {xs : List D} : srcOf (.rol xs) = pu (.vals xs) := rfl
theorem srcOf_run {i : Nat} {xs : List D} {S : Store} (h : lstAt S i = some xs) : srcOf (.ref i) S = .ok (.lref i) S := by
  show (match lstAt S i with | some _ => R.ok (Src.lref i) S | none => .bad) = _
  rw [h]
theorem chk_run {i : Nat} {xs : List D} {S : Store} (h : lstAt S i = some xs) : chk (.ref i) S = .ok () S := by
  show (match lstAt S i with | some _ => R.ok () S | none => .bad) = _
  rw [h]
theorem chk_runD {i : Nat} {kvs : List (Str × D)} {S : Store} (h : dctAt S i = some kvs) : chk (.dref i) S = .ok () S := by
  show (match dctAt S i with | some _ => R.ok () S | none => .bad) = _
  rw [h]
theorem update_run {p : Nat} {kvs : List (Str × D)} {ks : List Str} {vs : List D} {S : Store} (h : dctAt S p = some kvs) (l : kvs.length + ks.length ≤ 1000000) : methOp .update (.dref p) (.dct ks vs) S = .ok .non (S.set p (.dct (mergeS kvs (ks.zip vs)))) := by
  show (match dctAt S p, D.dct ks vs with
    | some kvs, .dct ks vs => if kvs.length + ks.length ≤ sizeLine then R.ok D.non (S.set p (.dct (mergeS kvs (ks.zip vs)))) else .bad
    | _, _ => .bad) = _
  rw [h]
  show (if kvs.length + ks.length ≤ sizeLine then R.ok D.non (S.set p (.dct (mergeS kvs (ks.zip vs)))) else .bad) = _
  rw [if_pos (Nat.le_trans l (by decide))]
theorem mkD_frz {ks : List Str} {vs : List D} : mkD false ks vs = pu (.dct ks vs) := rfl
theorem mkD_new {ks : List Str} {vs : List D} {S : Store} : mkD true ks vs S = .ok (.dref S.length) (S ++ [.dct (ks.zip vs)]) := rfl
theorem dctAt_new {kvs : List (Str × D)} {S : Store} : dctAt (S ++ [.dct kvs]) S.length = some kvs := by unfold dctAt; simp
theorem dctAt_set {i : Nat} {kvs ys : List (Str × D)} {S : Store} (h : dctAt S i = some ys) : dctAt (S.set i (.dct kvs)) i = some kvs := by
  unfold dctAt at h ⊢
  have hi : i < S.length := by
    cases q : S[i]? with
    | none => rw [q] at h; cases h
    | some o => exact (List.getElem?_eq_some_iff.mp q).1
  rw [List.getElem?_set_self hi]
theorem setItem_dref {p : Nat} {kvs : List (Str × D)} {z : Str} {v : D} {S : Store} (h : dctAt S p = some kvs) (l : kvs.length ≤ 1000000) : setItemOp (.dref p) (.str z) v S = .ok () (S.set p (.dct (putS kvs z v))) := by
  show (match dctAt S p with | some kvs => if kvs.length < sizeLine then R.ok () (S.set p (.dct (putS kvs z v))) else .bad | none => .bad) = _
  rw [h]
  exact if_pos (Nat.lt_of_le_of_lt l (by decide))
theorem lv_run {p : Nat} {kvs : List (Str × D)} {ys : List Str} {S : Store} (h : dctAt S p = some kvs) (e : textsOf (kvs.map (·.2)) = some ys) (nd : ys.Nodup) (l : ys.length ≤ 1000) : lvOp (.dref p) S = .ok (.int ys.length) S := by
  unfold lvOp
  dsimp only
  rw [h]
  show (match textsOf (kvs.map (·.2)) with | some ys => if ys.Nodup ∧ ys.length ≤ 1000 then R.ok (D.int ys.length) S else .bad | none => .bad) = _
  rw [e]
  exact if_pos ⟨nd, l⟩
theorem kdcmp_run {ks : List Str} {z : Str} {S : Store} : kdCmp .NotIn ks (.str z) S = .ok (.bl (!ks.contains z)) S := rfl
theorem kdin_run {ks : List Str} {z : Str} {S : Store} : kdCmp .In ks (.str z) S = .ok (.bl (ks.contains z)) S := rfl
theorem drix_run {p : Nat} {kvs : List (Str × D)} {x : Str} {d : D} {S : Store} (h : dctAt S p = some kvs) (e : lookS kvs x = some d) : drefIx p (.str x) S = .ok d S := by
  show (match (dctAt S p).bind fun kvs => lookS kvs x with
    | some d => R.ok d S
    | none => .bad) = _
  rw [h]
  show (match lookS kvs x with
    | some d => R.ok d S
    | none => .bad) = _
  rw [e]
/-- a comprehension whose items are drawn one by one -/
theorem wp_comp {set : D → Env → Option Env} {w : List Nat} {t : Env → M Bool} {e : Env → M D} {ρ : Env} {xs : List D} {Q : List D → Store → Prop} (I : Nat → List D → Store → Prop)
    (h0 : I 0 [] S) (st : ∀ k d acc S, xs[k]? = some d → I k acc S → wp (cmB set w t e ρ d acc) (I (k + 1)) S) (q : ∀ acc S, I xs.length acc S → Q acc S) : wp (goSrc (cmB set w t e ρ) (.vals xs) []) Q S := by
  refine wp_goVals I xs 0 [] S h0 (fun k d b S' e1 h => ?_) fun b S' h => q b S' (by simpa using h)
  have := st k d b S' e1 (by simpa using h)
  simpa using this
/-- a loop over values -/
theorem wp_loop {f : D → Fl → M Fl} {ρ : Env} {xs : List D} {Q : Fl → Store → Prop} (I : Nat → Env → Store → Prop)
    (h0 : I 0 ρ S) (st : ∀ k d ρ S, xs[k]? = some d → I k ρ S → wp (f d (.nx ρ)) (fun f S1 => ∃ ρ1, f = .nx ρ1 ∧ I (k + 1) ρ1 S1) S) (q : ∀ ρ S, I xs.length ρ S → Q (.nx ρ) S) : wp (goSrc f (.vals xs) (.nx ρ)) Q S := by
  refine wp_goVals (fun j f S => ∃ ρ1, f = Fl.nx ρ1 ∧ I j ρ1 S) xs 0 (Fl.nx ρ) S ⟨ρ, rfl, h0⟩ (fun k d b S' e1 h => ?_) fun b S' h => ?_
  · obtain ⟨ρ1, rfl, h1⟩ := h
    have := st k d ρ1 S' e1 (by simpa using h1)
    simpa using this
  · obtain ⟨ρ1, rfl, h1⟩ := h
    exact q ρ1 S' (by simpa using h1)
end Ev2
namespace Ev2
theorem Fr.put {i p : Nat} {S S1 : Store} {o : SO} (a : Fr i S S1) (h : S.length ≤ p) : Fr i S (S1.set p o) :=
  ⟨by simpa using a.len, fun j hj n => by rw [List.getElem?_set_ne (by omega)]; exact a.old j hj n⟩
theorem seqOf_ref {S : Store} {i : Nat} {xs : List D} (h : lstAt S i = some xs) : seqOf S (.ref i) = some xs := h
end Ev2
namespace Ev2
open PySem M
theorem run_of_wp {α : Type} {m : M α} {a : α} {S S1 : Store} (h : wp m (fun x T => x = a ∧ T = S1) S) : m S = .ok a S1 := by
  obtain ⟨x, T, e, rfl, rfl⟩ := h
  exact e
theorem wp_asgT {is : List Nat} {m : M D} {ρ : Env} {Q : Fl → Store → Prop} {S : Store} (h : wp m (fun d S1 => ∃ ds ρ1, unT d = some ds ∧ setSl is ds ρ = some ρ1 ∧ Q (.nx ρ1) S1) S) : wp (asgT is m ρ) Q S := by
  unfold asgT
  rw [wp_bnd]
  refine wp_mono h ?_
  rintro d S1 ⟨ds, ρ1, e0, e, q⟩
  rw [e0]
  show wp (match setSl is ds ρ with
    | some ρ1 => pu (.nx ρ1)
    | none => bad) Q S1
  rw [e]
  exact wp_pu.mpr q
theorem wp_trB {b : Bool} {S : Store} {Q : Bool → Store → Prop} : wp (trM (.bl b)) Q S ↔ Q b S := wp_known (m := trM (.bl b)) rfl
theorem add_ref_lst {mu : Bool} {i : Nat} {xs ys : List D} {S : Store} (h : lstAt S i = some xs) : binOp mu .Add (.ref i) (.lst ys) S = mkL mu (xs ++ ys) S := by
  show (match lstAt S i with
    | some xs => mkL mu (xs ++ ys) S
    | none => .bad) = _
  rw [h]
theorem add_lst_lst {mu : Bool} {xs ys : List D} {S : Store} : binOp mu .Add (.lst xs) (.lst ys) S = mkL mu (xs ++ ys) S := rfl
theorem append_run {p : Nat} {xs : List D} {v : D} {S : Store} (h : lstAt S p = some xs) (l : xs.length ≤ 1000000) : methOp .append (.ref p) v S = .ok .non (S.set p (.lst (xs ++ [v]))) := by
  have hl : xs.length < sizeLine := Nat.lt_of_le_of_lt l (by decide)
  show (match lstAt S p with
    | some xs => if xs.length < sizeLine then R.ok D.non (S.set p (.lst (xs ++ [v]))) else .bad
    | none => .bad) = _
  rw [h]
  show (if xs.length < sizeLine then R.ok D.non (S.set p (.lst (xs ++ [v]))) else .bad) = _
  rw [if_pos hl]
theorem mulT_run {mu : Bool} {xs : List D} {k : Nat} {S : Store} (h1 : xs ≠ []) (h2 : 2 ≤ k) (h3 : k ≤ 1000) (h4 : xs.length ≤ 1000) : binOp mu .Mult (.tup xs) (.int k) S = .ok (.tup (List.replicate k xs).flatten) S := by
  show (if xs ≠ [] ∧ 2 ≤ (k : Int) ∧ (k : Int) ≤ 1000 ∧ xs.length ≤ 1000 then pu (D.tup (List.replicate (k : Int).toNat xs).flatten) else bad) S = _
  rw [if_pos ⟨h1, by omega, by omega, h4⟩, Int.toNat_natCast]
  rfl
end Ev2
namespace Ev2
open PySem M
theorem comp_map {set : D → Env → Option Env} {w : List Nat} {e : Env → M D} {ρ : Env} {S : Store} (f : D → D) (ρ' : D → Env) {xs : List D}
    (h : ∀ d ∈ xs, set d (wipeE ρ w) = some (ρ' d) ∧ e (ρ' d) S = .ok (f d) S) (l : xs.length ≤ 1000000) : goSrc (cmB set w (fun _ => pu true) e ρ) (.vals xs) [] S = .ok (xs.map f) S := by
  have := comp_run (t := fun _ => pu true) (fun _ => true) f ρ' xs [] (fun d hd => ⟨(h d hd).1, rfl, fun _ => (h d hd).2⟩) (by simpa using l)
  rw [List.filter_eq_self.mpr (fun _ _ => rfl), List.nil_append] at this
  exact this
theorem comp_filter {i : Nat} {set : D → Env → Option Env} {w : List Nat} {t : Env → M Bool} {ρ : Env} {S : Store} (p : D → Bool) (ρ' : D → Env) {xs : List D}
    (h : ∀ d ∈ xs, set d (wipeE ρ w) = some (ρ' d) ∧ (ρ' d)[i]? = some (some d) ∧ t (ρ' d) S = .ok (p d) S) (l : xs.length ≤ 1000000) : goSrc (cmB set w t (fun ρ => rdV ρ i) ρ) (.vals xs) [] S = .ok (xs.filter p) S := by
  have := comp_run (e := fun ρ => rdV ρ i) p id ρ' xs [] (fun d hd => ⟨(h d hd).1, (h d hd).2.2, fun _ => by show rdV _ i S = _; rw [rdV_some (h d hd).2.1]; rfl⟩) (by simpa using l)
  rw [List.map_id, List.nil_append] at this
  exact this
end Ev2
/-! E17: tests as one truth; more runs. -/
namespace Ev2
open PySem M
variable {S : Store}
theorem wp_ifF {b : Bool} {m n : M Fl} {Q : Fl → Store → Prop} : wp (if b then m else n) Q S ↔ if b then wp m Q S else wp n Q S := wp_ite
theorem wp_ifD {b : Bool} {m n : M D} {Q : D → Store → Prop} : wp (if b then m else n) Q S ↔ if b then wp m Q S else wp n Q S := wp_ite
theorem wp_andB {b c : Bool} {m : M Bool} {Q : Bool → Store → Prop} (h : m S = .ok c S) : wp (if b then m else pu false) Q S ↔ Q (b && c) S := by
  cases b with
  | true => exact wp_known h
  | false => exact wp_pu
theorem wp_orB {b c : Bool} {m : M Bool} {Q : Bool → Store → Prop} (h : m S = .ok c S) : wp (if b then pu true else m) Q S ↔ Q (b || c) S := by
  cases b with
  | true => exact wp_pu
  | false => exact wp_known h
end Ev2
namespace Ev2
open PySem M
variable {S : Store}
/-- what a loop goes over, whatever the sequence is -/
theorem wp_srcGo {β : Type} {v : D} {xs : List D} {f : D → β → M β} {b : β} {Q : β → Store → Prop} (I : Nat → β → Store → Prop) (h0 : I 0 b S) (hv : ∀ k b S, I k b S → seqOf S v = some xs)
    (st : ∀ k d b S, xs[k]? = some d → I k b S → wp (f d b) (I (k + 1)) S) (q : ∀ b S, I xs.length b S → Q b S) : wp (srcOf v) (fun s S1 => wp (goSrc f s b) Q S1) S := by
  have e0 := hv 0 b S h0
  have key : wp (goSrc f (.vals xs) b) Q S := by
    refine wp_goVals I xs 0 b S h0 (fun k d b S' e1 h => ?_) fun b S' h => q b S' (by simpa using h)
    have := st k d b S' e1 (by simpa using h)
    simpa using this
  cases v <;> first | (exfalso; cases e0; done) | skip
  · cases e0; exact wp_pu.mpr key
  · cases e0; exact wp_pu.mpr key
  · cases e0; exact wp_pu.mpr key
  · exact (wp_known (srcOf_run (xs := xs) e0)).mpr (wp_goLref I h0 hv st q)
theorem wp_srcLoop {v : D} {xs : List D} {f : D → Fl → M Fl} {ρ : Env} {Q : Fl → Store → Prop} (I : Nat → Env → Store → Prop) (h0 : I 0 ρ S) (hv : ∀ k ρ S, I k ρ S → seqOf S v = some xs)
    (st : ∀ k d ρ S, xs[k]? = some d → I k ρ S → wp (f d (.nx ρ)) (fun f S1 => ∃ ρ1, f = .nx ρ1 ∧ I (k + 1) ρ1 S1) S) (q : ∀ ρ S, I xs.length ρ S → Q (.nx ρ) S) :
    wp (srcOf v) (fun s S1 => wp (bnd (goSrc f s (.nx ρ)) loopEnd) Q S1) S := by
  have key : wp (srcOf v) (fun s S1 => wp (goSrc f s (.nx ρ)) (fun r S2 => wp (loopEnd r) Q S2) S1) S := by
    refine wp_srcGo (xs := xs) (fun j f S => ∃ ρ1, f = Fl.nx ρ1 ∧ I j ρ1 S) ⟨ρ, rfl, h0⟩ (fun k b S h => ?_) (fun k d b S' e1 h => ?_) fun b S' h => ?_
    · obtain ⟨ρ1, rfl, h1⟩ := h
      exact hv k ρ1 S h1
    · obtain ⟨ρ1, rfl, h1⟩ := h
      exact st k d ρ1 S' e1 h1
    · obtain ⟨ρ1, rfl, h1⟩ := h
      exact wp_pu.mpr (q ρ1 S' h1)
  exact wp_mono key fun s S1 h => wp_bnd.mpr h
theorem extend_run {p : Nat} {xs ys : List D} (h : lstAt S p = some xs) (l : xs.length + ys.length ≤ 1000000) : methOp .extend (.ref p) (.lst ys) S = .ok .non (S.set p (.lst (xs ++ ys))) := by
  have hl : xs.length + ys.length ≤ sizeLine := Nat.le_trans l (by decide)
  show extend1 p (.lst ys) S = _
  unfold extend1
  rw [h]
  show (if xs.length + ys.length ≤ sizeLine then R.ok D.non (S.set p (.lst (xs ++ ys))) else .bad) = _
  rw [if_pos hl]
theorem extend_runT {p : Nat} {xs ys : List D} (h : lstAt S p = some xs) (l : xs.length + ys.length ≤ 1000000) : methOp .extend (.ref p) (.tup ys) S = .ok .non (S.set p (.lst (xs ++ ys))) := by
  have hl : xs.length + ys.length ≤ sizeLine := Nat.le_trans l (by decide)
  show extend1 p (.tup ys) S = _
  unfold extend1
  rw [h]
  show (if xs.length + ys.length ≤ sizeLine then R.ok D.non (S.set p (.lst (xs ++ ys))) else .bad) = _
  rw [if_pos hl]
theorem addT_run {mu : Bool} {xs ys : List D} (l : xs.length + ys.length ≤ 1000000) : binOp mu .Add (.tup xs) (.tup ys) S = .ok (.tup (xs ++ ys)) S := by
  have hl : xs.length + ys.length ≤ sizeLine := Nat.le_trans l (by decide)
  show (if xs.length + ys.length ≤ sizeLine then pu (D.tup (xs ++ ys)) else bad) S = _
  rw [if_pos hl]
  rfl
theorem reprB_run {mu b : Bool} : callB mu .repr [.bl b] S = .ok (.str (PyData.bool b).shown) S := repr_run rfl (.bl b) (by decide) (by decide)
theorem ne_same {x : D} {s : Str} {Q : D → Store → Prop} : wp (cmpOp .NotEq (.str s) (.str s)) Q S ↔ Q (.bl false) S := by
  rw [wp_neS (r := true) (by simp [eqS])]
  rfl
end Ev2
/-! E18: repr of values, the number of cells, small helps. -/
namespace Ev2
open PySem M
variable {S : Store}
/-- d's text is at hand, whatever the store -/
def Rep (d : D) : Prop := ∃ s, ∀ mu S, callB mu .repr [d] S = .ok (.str s) S
/-- d is plain data of a size -/
def Dat (n k : Nat) (d : D) : Prop := ∃ p, toPyD d = some p ∧ Sm n k p
theorem Dat.mono {n m k j : Nat} {d : D} (h : Dat n k d) (a : n ≤ m) (b : k ≤ j) : Dat m j d := let ⟨p, e, s⟩ := h; ⟨p, e, s.mono a b⟩
theorem Dat.rep {n k : Nat} {d : D} (h : Dat n k d) (hn : n ≤ 1000000) (hk : k ≤ 64) : Rep d := by
  obtain ⟨p, e, s⟩ := h
  refine ⟨p.shown, fun mu S => repr_run ?_ s hn hk⟩
  unfold pyAny
  rw [e]
theorem Dat.tup {n k : Nat} {ds : List D} (h : ∀ d ∈ ds, Dat n k d) : Dat (3 + ds.length * (n + 2)) (k + 1) (.tup ds) := by
  obtain ⟨ps, e, l, s⟩ := toPys_of (n := n) (k := k) (fun d => Dat n k d) (fun d hd => hd) ds h
  refine ⟨.tuple ps, by simp only [toPyD, e]; rfl, ?_⟩
  rw [← l]
  exact .tup s
theorem Dat.lst {n k : Nat} {ds : List D} (h : ∀ d ∈ ds, Dat n k d) : Dat (3 + ds.length * (n + 2)) (k + 1) (.lst ds) := by
  obtain ⟨ps, e, l, s⟩ := toPys_of (n := n) (k := k) (fun d => Dat n k d) (fun d hd => hd) ds h
  refine ⟨.list ps, by simp only [toPyD, e]; rfl, ?_⟩
  rw [← l]
  exact .lst s
theorem Dat.bl (b : Bool) : Dat 5 0 (.bl b) := ⟨_, rfl, .bl b⟩
theorem Dat.non : Dat 4 0 .non := ⟨_, rfl, .non⟩
theorem Dat.str {x : Str} {n : Nat} (h : (reprText x).length ≤ n) : Dat n 0 (.str x) := ⟨_, rfl, .str h⟩
theorem Dat.int {i : Int} (h : i.natAbs.log2 < 1920) : Dat 1921 0 (.int i) := ⟨_, rfl, .int h⟩
theorem min_run {mu : Bool} {i j : Int} : callB mu .min [.int i, .int j] S = .ok (.int (if j < i then j else i)) S := rfl
theorem max_run {mu : Bool} {i j : Int} : callB mu .max [.int i, .int j] S = .ok (.int (if j > i then j else i)) S := rfl
/-- max(1, min(m, n)) -/
theorem cells {m n : Nat} (hm : 1 ≤ m) : ∃ c : Nat, (if (if (n : Int) < (m : Int) then (n : Int) else (m : Int)) > 1 then (if (n : Int) < (m : Int) then (n : Int) else (m : Int)) else 1) = (c : Int) ∧ c ≤ m := by
  refine ⟨((if (if (n : Int) < (m : Int) then (n : Int) else (m : Int)) > 1 then (if (n : Int) < (m : Int) then (n : Int) else (m : Int)) else 1) : Int).toNat, ?_, ?_⟩ <;> (split <;> split <;> omega)
theorem bt_app {acc : List D} {v : D} (h : ∀ d ∈ acc, d = .bl true) (hv : v = .bl true) : ∀ d ∈ acc ++ [v], d = .bl true := by
  intro d hd
  rcases List.mem_append.mp hd with z | z
  · exact h d z
  · rw [List.mem_singleton.mp z]; exact hv
theorem eq_same {s : Str} {Q : D → Store → Prop} : wp (cmpOp .Eq (.str s) (.str s)) Q S ↔ Q (.bl true) S := wp_eqS (by simp [eqS])
end Ev2
/-! the words of a run: what stands behind is not looked at -/
namespace Ev2
open PySem M
section
variable {α β : Type} {S : Store}
theorem kt_k {f : α → Store → Prop} : @Kt.k α ⟨f⟩ = f := rfl
theorem wi_bnd {m : M α} {f : α → M β} {Q : Kt β} : @wpI β (bnd m f) Q S ↔ @wpI α m ⟨fun a S1 => @wpI β (f a) Q S1⟩ S := wp_bnd (Q := Q.k)
theorem wi_pu {a : α} {Q : Kt α} : @wpI α (pu a) Q S ↔ Q.k a S := wp_pu (Q := Q.k)
theorem wi_if {b : Bool} {m n : M α} {Q : Kt α} : @wpI α (if b then m else n) Q S ↔ if b then @wpI α m Q S else @wpI α n Q S := wp_if (Q := Q.k)
theorem wi_ifF {b : Bool} {m n : M Fl} {Q : Kt Fl} : @wpI Fl (if b then m else n) Q S ↔ if b then @wpI Fl m Q S else @wpI Fl n Q S := wp_if (Q := Q.k)
theorem wi_ifD {b : Bool} {m n : M D} {Q : Kt D} : @wpI D (if b then m else n) Q S ↔ if b then @wpI D m Q S else @wpI D n Q S := wp_if (Q := Q.k)
theorem wi_sq {m : M Fl} {k : Env → M Fl} {Q : Kt Fl} : @wpI Fl (sq m k) Q S ↔ @wpI Fl m ⟨fun f S1 => match f with | .nx ρ => @wpI Fl (k ρ) Q S1 | f => Q.k f S1⟩ S := wp_sq (Q := Q.k)
theorem wi_fin {m : M Fl} {Q : Kt D} : @wpI D (fin m) Q S ↔ @wpI Fl m ⟨fun f S1 => match f with | .rt v => Q.k v S1 | .nx _ => Q.k .non S1 | _ => False⟩ S := wp_fin (Q := Q.k)
theorem wi_asgN {i : Nat} {m : M D} {ρ : Env} {Q : Kt Fl} : @wpI Fl (asgN i m ρ) Q S ↔ @wpI D m ⟨fun d S1 => Q.k (.nx (ρ.set i (some d))) S1⟩ S := wp_asgN (Q := Q.k)
theorem wi_aL_nil {Q : Kt (List D)} : @wpI _ (aL []) Q S ↔ Q.k [] S := wp_aL_nil (Q := Q.k)
theorem wi_aL_cons {m : M D} {ms : List (M D)} {Q : Kt (List D)} : @wpI _ (aL (m :: ms)) Q S ↔ @wpI D m ⟨fun d S1 => @wpI _ (aL ms) ⟨fun ds S2 => Q.k (d :: ds) S2⟩ S1⟩ S := wp_aL_cons (Q := Q.k)
theorem wi_callM {g : List D → List (Str × D) → M D} {as : M (List D)} {Q : Kt D} : @wpI D (callM (some g) as) Q S ↔ @wpI _ as ⟨fun ds S1 => @wpI D (g ds []) Q S1⟩ S := wp_callM (Q := Q.k)
theorem wi_add {mu : Bool} {a b : Int} {Q : Kt D} : @wpI D (binOp mu .Add (.int a) (.int b)) Q S ↔ Q.k (.int (a + b)) S := wp_pu (Q := Q.k)
theorem wi_sub {mu : Bool} {a b : Int} {Q : Kt D} : @wpI D (binOp mu .Sub (.int a) (.int b)) Q S ↔ Q.k (.int (a - b)) S := wp_pu (Q := Q.k)
theorem wi_lt {a b : Int} {Q : Kt D} : @wpI D (cmpOp .Lt (.int a) (.int b)) Q S ↔ Q.k (.bl (decide (a < b))) S := wp_pu (Q := Q.k)
theorem wi_le {a b : Int} {Q : Kt D} : @wpI D (cmpOp .LtE (.int a) (.int b)) Q S ↔ Q.k (.bl (decide (a ≤ b))) S := wp_pu (Q := Q.k)
theorem wi_gt {a b : Int} {Q : Kt D} : @wpI D (cmpOp .Gt (.int a) (.int b)) Q S ↔ Q.k (.bl (decide (b < a))) S := wp_pu (Q := Q.k)
theorem wi_ge {a b : Int} {Q : Kt D} : @wpI D (cmpOp .GtE (.int a) (.int b)) Q S ↔ Q.k (.bl (decide (b ≤ a))) S := wp_pu (Q := Q.k)
theorem wi_asB {b : Bool} {Q : Kt Bool} : @wpI Bool (asB (.bl b)) Q S ↔ Q.k b S := wp_pu (Q := Q.k)
theorem wi_trB {b : Bool} {Q : Kt Bool} : @wpI Bool (trM (.bl b)) Q S ↔ Q.k b S := wp_trB (Q := Q.k)
theorem wi_iterVal {m : M D} {Q : Kt Src} : @wpI Src (iterVal m) Q S ↔ @wpI D m ⟨fun d S1 => @wpI Src (srcOf d) Q S1⟩ S := wp_bnd (Q := Q.k)
end
end Ev2
namespace Ev2
open PySem M
variable {S : Store}
theorem mkL_map {f : D → D} {xs : List D} (hl : xs.length ≤ 1000) : mkL false (xs.map f) S = .ok (.lst (xs.map f)) S := mkL_frz (fitsL (by rw [List.length_map]; omega))
/-- [p(d) for d in xs], p a truth -/
theorem all_by {i : Nat} {w : List Nat} {ρ : Ev2.Env} {ρ' : D → Ev2.Env} {p : D → Bool} {xs : List D} {e : Ev2.Env → M D} (he : ∀ d ∈ xs, setN i d (wipeE ρ w) = some (ρ' d) ∧ e (ρ' d) S = .ok (.bl (p d)) S) (hl : xs.length ≤ 1000) {Q : List D → Store → Prop} (q : Q (xs.map fun d => .bl (p d)) S) :
    wp (goSrc (cmB (setN i) w (fun _ => pu true) e ρ) (.vals xs) []) Q S := (wp_known (comp_map (fun d => .bl (p d)) ρ' he (by omega))).mpr q
theorem boolsOf_map {p : D → Bool} : ∀ {xs : List D}, boolsOf (xs.map fun d => .bl (p d)) = some (xs.map p)
  | [] => rfl
  | x :: xs => by simp [boolsOf, boolsOf_map (p := p) (xs := xs)]
theorem all_map {mu : Bool} {p : D → Bool} {xs : List D} : callB mu .all [.lst (xs.map fun d => .bl (p d))] S = .ok (.bl (xs.all p)) S := by
  show (match boolsOf (xs.map fun d => .bl (p d)) with
    | some bs => R.ok (D.bl (bs.all id)) S
    | none => .bad) = _
  rw [boolsOf_map]
  show R.ok (D.bl ((xs.map p).all id)) S = _
  rw [List.all_map]
  rfl
theorem notin_run {a b : D} {xs : List D} (h : seqOf S b = some xs) (ha : flatD a = true) (hx : xs.all flatD = true) : cmpOp .NotIn a b S = .ok (.bl (!inF a xs)) S := by
  show (match seqOf S b with
    | some xs => if flatD a && xs.all flatD then R.ok (D.bl (!inF a xs)) S else (match inDeep S a b with | some r => R.ok (D.bl (!r)) S | none => .bad)
    | none => .bad) = _
  rw [h]
  show (if flatD a && xs.all flatD then R.ok (D.bl (!inF a xs)) S else (match inDeep S a b with | some r => R.ok (D.bl (!r)) S | none => .bad)) = _
  rw [ha, hx]
  rfl
end Ev2
namespace Ev2
open PySem M
section
variable {S : Store}
theorem wi_aX_nil {Q : Kt (List D)} : @wpI _ (aX []) Q S ↔ Q.k [] S := wp_pu (Q := Q.k)
theorem wi_aX_f {m : M D} {ms : List (Bool × M D)} {Q : Kt (List D)} : @wpI _ (aX ((false, m) :: ms)) Q S ↔ @wpI D m ⟨fun d S1 => @wpI _ (aX ms) ⟨fun ds S2 => Q.k (d :: ds) S2⟩ S1⟩ S := by
  show wp (bnd m fun d => bnd (aX ms) fun ds => pu (d :: ds)) Q.k S ↔ wp m (fun d S1 => wp (aX ms) (fun ds S2 => Q.k (d :: ds) S2) S1) S
  simp only [wp_bnd, wp_pu]
theorem wi_aX_t {m : M D} {ms : List (Bool × M D)} {Q : Kt (List D)} : @wpI _ (aX ((true, m) :: ms)) Q S ↔ @wpI D m ⟨fun d S1 => @wpI _ (sqM d) ⟨fun xs S2 => @wpI _ (aX ms) ⟨fun ds S3 => Q.k (xs ++ ds) S3⟩ S2⟩ S1⟩ S := by
  show wp (bnd m fun d => bnd (sqM d) fun xs => bnd (aX ms) fun ds => pu (xs ++ ds)) Q.k S ↔ wp m (fun d S1 => wp (sqM d) (fun xs S2 => wp (aX ms) (fun ds S3 => Q.k (xs ++ ds) S3) S2) S1) S
  simp only [wp_bnd, wp_pu]
theorem wi_sqT {xs : List D} {Q : Kt (List D)} : @wpI _ (sqM (.tup xs)) Q S ↔ Q.k xs S := wp_known (m := sqM (.tup xs)) rfl
theorem wi_sqL {xs : List D} {Q : Kt (List D)} : @wpI _ (sqM (.lst xs)) Q S ↔ Q.k xs S := wp_known (m := sqM (.lst xs)) rfl
theorem wi_aK_nil {Q : Kt (List (Str × D))} : @wpI _ (aK []) Q S ↔ Q.k [] S := wp_pu (Q := Q.k)
theorem wi_aK_cons {n : Str} {m : M D} {ms : List (Str × M D)} {Q : Kt (List (Str × D))} : @wpI _ (aK ((n, m) :: ms)) Q S ↔ @wpI D m ⟨fun d S1 => @wpI _ (aK ms) ⟨fun ds S2 => Q.k ((n, d) :: ds) S2⟩ S1⟩ S := by
  show wp (bnd m fun d => bnd (aK ms) fun ds => pu ((n, d) :: ds)) Q.k S ↔ wp m (fun d S1 => wp (aK ms) (fun ds S2 => Q.k ((n, d) :: ds) S2) S1) S
  simp only [wp_bnd, wp_pu]
theorem wi_callKw {g : List D → List (Str × D) → M D} {as : M (List D)} {ks : M (List (Str × D))} {Q : Kt D} : @wpI D (callKw (some g) as ks) Q S ↔ @wpI _ as ⟨fun ds S1 => @wpI _ ks ⟨fun kv S2 => @wpI D (g ds kv) Q S2⟩ S1⟩ S := by
  show wp (bnd as fun ds => bnd ks fun kv => g ds kv) Q.k S ↔ wp as (fun ds S1 => wp ks (fun kv S2 => wp (g ds kv) Q.k S2) S1) S
  simp only [wp_bnd]
theorem wi_isB {a b : Bool} {Q : Kt D} : @wpI D (cmpOp .Is (.bl a) (.bl b)) Q S ↔ Q.k (.bl (decide (a = b))) S := wp_pu (Q := Q.k)
theorem wi_isNB {a b : Bool} {Q : Kt D} : @wpI D (cmpOp .IsNot (.bl a) (.bl b)) Q S ↔ Q.k (.bl (!decide (a = b))) S := wp_pu (Q := Q.k)
def partD : D → M (Option Int)
  | .int i => pu (some i)
  | _ => bad
theorem partD_int {i : Int} : partD (.int i) = pu (some i) := rfl
theorem wi_part {m : M D} {Q : Kt (Option Int)} : @wpI _ (partM m) Q S ↔ @wpI D m ⟨fun d S1 => @wpI _ (partD d) Q S1⟩ S := by
  have e : partM m = bnd m partD := by
    unfold partM
    congr 1
  rw [e]
  exact wi_bnd
theorem cut_lo {xs : List D} {j : Nat} (h : j ≤ xs.length) : cutD xs none (some (j : Int)) = xs.take j := by
  unfold cutD
  have e1 : HT.sIx xs.length 0 none = 0 := rfl
  have e2 : HT.sIx xs.length xs.length (some (j : Int)) = j := by
    rw [HT.sIx_nat]; exact Nat.min_eq_left h
  rw [e1, e2]
  simp
theorem cut_hi {xs : List D} {j : Nat} (h : j ≤ xs.length) : cutD xs (some (j : Int)) none = xs.drop j := by
  unfold cutD
  have e1 : HT.sIx xs.length xs.length none = xs.length := rfl
  have e2 : HT.sIx xs.length 0 (some (j : Int)) = j := by
    rw [HT.sIx_nat]; exact Nat.min_eq_left h
  rw [e1, e2, List.take_of_length_le (by simp)]
theorem sl_lo {mu : Bool} {xs : List D} {j : Nat} (h : j ≤ xs.length) : slOp mu (.tup xs) none (some (j : Int)) S = .ok (.tup (xs.take j)) S := by
  rw [← cut_lo h]; rfl
theorem sl_hi {mu : Bool} {xs : List D} {j : Nat} (h : j ≤ xs.length) : slOp mu (.tup xs) (some (j : Int)) none S = .ok (.tup (xs.drop j)) S := by
  rw [← cut_hi h]; rfl
theorem sl_hi1 {mu : Bool} {xs : List D} {j : Nat} (h : j < xs.length) : slOp mu (.tup xs) (some ((j : Int) + 1)) none S = .ok (.tup (xs.drop (j + 1))) S := sl_hi (j := j + 1) h
theorem put_at {xs : List D} {j : Nat} {w : D} (h : j < xs.length) : xs.take j ++ [w] ++ xs.drop (j + 1) = xs.set j w := by
  rw [List.set_eq_take_append_cons_drop, if_pos h, List.append_assoc]
  rfl
end
end Ev2
namespace Ev2
open PySem M
variable {S : Store}
theorem wp_lpT {is : List Nat} {body : Env → M Fl} {ρ ρ1 : Env} {d : D} {Q : Fl → Store → Prop} (e : setT is d ρ = some ρ1)
    (h : wp (body ρ1) (fun f S1 => match f with | .nx ρ2 => Q (.nx ρ2) S1 | .ct ρ2 => Q (.nx ρ2) S1 | f => Q f S1) S) : wp (lpB (setT is) body d (.nx ρ)) Q S := by
  unfold lpB
  dsimp only
  rw [e]
  show wp (bnd (body ρ1) fun f => match f with
      | .nx ρ2 => pu (.nx ρ2)
      | .ct ρ2 => pu (.nx ρ2)
      | f => pu f) Q S
  rw [wp_bnd]
  refine wp_mono h fun f S1 hf => ?_
  cases f <;> exact wp_pu.mpr hf
theorem enumT_run {xs : List D} : enumSrc (.tup xs) S = .ok (.vals (xs.zipIdx.map fun p => D.tup [.int (p.2 : Nat), p.1])) S := rfl
theorem enum_at {xs : List D} {j : Nat} {d : D} (h : (xs.zipIdx.map fun p => D.tup [.int (p.2 : Nat), p.1])[j]? = some d) : ∃ x, xs[j]? = some x ∧ d = .tup [.int (j : Nat), x] := by
  rw [List.getElem?_map, List.getElem?_zipIdx] at h
  cases e1 : xs[j]? with
  | none => rw [e1] at h; cases h
  | some q =>
    rw [e1] at h
    cases h
    exact ⟨q, rfl, by simp⟩
theorem isi_str {mu : Bool} {x : Str} : callB mu .isi [.str x, .ty .str] S = .ok (.bl true) S := rfl
theorem eqBl_run {a b : Bool} {Q : D → Store → Prop} : wp (cmpOp .NotEq (.bl a) (.bl b)) Q S ↔ Q (.bl (!decide (a = b))) S := wp_neS rfl
end Ev2
/-! E19: values of any kind. -/
namespace Ev2
open PySem M
variable {S : Store}
/-- each code of a text is below 16^8 -/
def Lo (x : Str) : Prop := ∀ c ∈ x.cps.toList, c < 16 ^ 8
theorem Lo.ofString (s : String) : Lo (Str.ofString s) := by
  intro c hc
  rw [PyProof.Rows.signs_ofString] at hc
  obtain ⟨ch, _, rfl⟩ := List.mem_map.mp hc
  have := ch.val.toNat_lt
  show ch.val.toNat < 16 ^ 8
  exact Nat.lt_of_lt_of_le this (by decide)
theorem Lo.app {x y : Str} (a : Lo x) (b : Lo y) : Lo (x ++ y) := by
  intro c hc
  rw [Str.cps_append, Array.toList_append] at hc
  rcases List.mem_append.mp hc with h | h
  · exact a c h
  · exact b c h
theorem Lo.join {sep : Str} (a : Lo sep) {ts : List Str} (h : ∀ t ∈ ts, Lo t) : Lo (Str.join sep ts) := by
  intro c hc
  rcases (PyProof.Rows.mem_join sep c ts).mp hc with ⟨t, ht, hc⟩ | ⟨_, hc⟩
  · exact h t ht c hc
  · exact a c hc
theorem Lo.tupleText {ts : List Str} (h : ∀ t ∈ ts, Lo t) : Lo (tupleText ts) := by
  unfold PySem.tupleText
  exact ((Lo.ofString _).app (Lo.join (Lo.ofString _) h)).app (Lo.ofString _)
theorem reprLo {x : Str} (h : Lo x) {n : Nat} (l : 10 * x.length + 2 ≤ n) : Dat n 0 (.str x) := Dat.str (Nat.le_trans (PySem.StrLaws.reprText_len x h) l)

/-! dicts -/
theorem Dat.dct0 : Dat 2 1 (.dct [] []) := ⟨.dict [], rfl, ⟨rfl, by decide +kernel, by decide⟩⟩
theorem Dat.dct1 {n k : Nat} {d : D} (h : Dat n k d) : Dat (n + 7) (k + 1) (.dct ["a"] [d]) := by
  obtain ⟨p, e, s⟩ := h
  refine ⟨.dict [(.str "a", p)], by simp only [toPyD, toPysD, e]; rfl, ⟨?_, ?_, ?_⟩⟩
  · simp only [PyData.showable, PyData.showableKv, s.s, Bool.and_self]
  · simp only [PyData.shown, PyData.shownKv]
    unfold dictText
    rw [PyProof.Rows.join_one, strLen_append, strLen_append, strLen_append, strLen_append]
    have h1 := s.l
    have e1 : ((("{" : String) : Str)).length = 1 := by decide +kernel
    have e2 : (reprText ("a" : Str)).length = 3 := by decide +kernel
    have e3 : (((": " : String) : Str)).length = 2 := by decide +kernel
    have e4 : ((("}" : String) : Str)).length = 1 := by decide +kernel
    omega
  · have h1 := s.d
    simp only [PyData.depth, PyData.depthKv]
    omega
/-- str(d) of data that is no text -/
theorem str_run {mu : Bool} {d : D} {p : PyData} {n k : Nat} (h : toPyD d = some p) (s : Sm n k p) (hn : n ≤ 1000000) (hk : k ≤ 64) (ns : ∀ x, d ≠ .str x) : callB mu .str [d] S = .ok (.str p.shown) S := by
  have t : (p.showable && decide (p.shown.length ≤ sizeLine) && decide (p.depth ≤ 64)) = true := by
    have h1 := Nat.le_trans s.d hk
    have h2 : p.shown.length ≤ sizeLine := Nat.le_trans (Nat.le_trans s.l hn) (by decide)
    rw [s.s, decide_eq_true h1, decide_eq_true h2]
    rfl
  have hp : pyAny S d = some p := by unfold pyAny; rw [h]
  have e : callB mu .str [d] S = (match pyAny S d with
    | some p => if p.showable && decide (p.shown.length ≤ sizeLine) && decide (p.depth ≤ 64) then R.ok (D.str p.shown) S else .bad
    | none => .bad) := by cases d <;> first | rfl | exact absurd rfl (ns _)
  rw [e, hp]
  show (if p.showable && decide (p.shown.length ≤ sizeLine) && decide (p.depth ≤ 64) then R.ok (D.str p.shown) S else .bad) = _
  rw [t]
  rfl
theorem isi_run {mu : Bool} {a : D} {t : Option Ty} {u : Ty} (h : tyOf a = some t) : callB mu .isi [a, .ty u] S = .ok (.bl (isTy t u)) S := by
  show (match tyOf a with
    | some t => pu (D.bl (isTy t u))
    | none => bad) S = _
  rw [h]
  rfl
/-- the class of data -/
theorem Dat.ty {n k : Nat} {d : D} (h : Dat n k d) : ∃ t, tyOf d = some t := by
  obtain ⟨p, e, _⟩ := h
  cases d <;> first | exact ⟨_, rfl⟩ | (exfalso; simp only [toPyD] at e; cases e; done)
theorem toPysD_mem : ∀ {ds : List D} {ps : List PyData}, toPysD ds = some ps → ∀ d ∈ ds, ∃ p, toPyD d = some p
  | [], _, _, d, h => nomatch h
  | x :: ds, _, e, d, h => by
    simp only [toPysD] at e
    cases q1 : toPyD x with
    | none => rw [q1] at e; cases e
    | some p =>
      cases q2 : toPysD ds with
      | none => rw [q1, q2] at e; cases e
      | some ps =>
        rcases List.mem_cons.mp h with rfl | h
        · exact ⟨p, q1⟩
        · exact toPysD_mem q2 d h
/-- plain data -/
def Pd (d : D) : Prop := ∃ p, toPyD d = some p
theorem Dat.pd {n k : Nat} {d : D} (h : Dat n k d) : Pd d := let ⟨p, e, _⟩ := h; ⟨p, e⟩
theorem Pd.ty {d : D} (h : Pd d) : ∃ t, tyOf d = some t := by
  obtain ⟨p, e⟩ := h
  cases d <;> first | exact ⟨_, rfl⟩ | (exfalso; simp only [toPyD] at e; cases e; done)
theorem Pd.items {xs : List D} (h : Pd (.tup xs)) : ∀ x ∈ xs, Pd x := by
  obtain ⟨p, e⟩ := h
  simp only [toPyD] at e
  cases q : toPysD xs with
  | none => rw [q] at e; cases e
  | some ps => exact fun x hx => toPysD_mem q x hx
theorem Pd.tupTy {d : D} (h : Pd d) : (∃ xs, d = .tup xs) ∨ ∃ t, tyOf d = some t ∧ isTy t .tup = false := by
  obtain ⟨p, e⟩ := h
  cases d <;> first | exact .inl ⟨_, rfl⟩ | exact .inr ⟨_, rfl, rfl⟩ | (exfalso; simp only [toPyD] at e; cases e; done)
end Ev2
namespace Ev2
open PySem M
variable {S : Store}
theorem neg_int {i : Int} : negOp (.int i) = pu (.int (-i)) := rfl
def datB (n k : Nat) (d : D) : Bool := match toPyD d with
  | some p => p.showable && decide (p.shown.length ≤ n) && decide (p.depth ≤ k)
  | none => false
theorem datB_ok {n k : Nat} {d : D} (h : datB n k d = true) : Dat n k d := by
  unfold datB at h
  cases e : toPyD d with
  | none => rw [e] at h; cases h
  | some p =>
    rw [e] at h
    simp only [Bool.and_eq_true, decide_eq_true_eq] at h
    exact ⟨p, e, h.1.1, h.1.2, h.2⟩
theorem datB_all {n k : Nat} {l : List D} (h : l.all (datB n k) = true) : ∀ d ∈ l, Dat n k d := fun d hd => datB_ok (List.all_eq_true.mp h d hd)
/-- texts of values that are wrapped j times -/
def fB : Nat → Nat
  | 0 => 64
  | j + 1 => 2 * fB j + 9
theorem wraps {j : Nat} {d : D} (h : Dat (fB j) (j + 2) d) : ∀ e ∈ [D.tup [d], .lst [d], .dct ["a"] [d], .tup [d, .str "a"], .tup [.str "a", d]], Dat (fB (j + 1)) (j + 3) e := by
  have ha : Dat (fB j) (j + 2) (.str "a") := (datB_ok (n := 64) (k := 0) (by decide +kernel)).mono (by
    induction j with
    | zero => exact Nat.le_refl _
    | succ j ih => show 64 ≤ 2 * fB j + 9; have : 64 ≤ fB j := by
                     clear ih h
                     induction j with
                     | zero => exact Nat.le_refl _
                     | succ j ih => show 64 ≤ 2 * fB j + 9; omega
                   omega) (by omega)
  have hb : fB (j + 1) = 2 * fB j + 9 := rfl
  intro e he
  simp only [List.mem_cons, List.not_mem_nil, or_false] at he
  rcases he with rfl | rfl | rfl | rfl | rfl
  · exact (Dat.tup (ds := [d]) (n := fB j) (k := j + 2) (by intro x hx; rw [List.mem_singleton.mp hx]; exact h)).mono (by simp; omega) (by omega)
  · exact (Dat.lst (ds := [d]) (n := fB j) (k := j + 2) (by intro x hx; rw [List.mem_singleton.mp hx]; exact h)).mono (by simp; omega) (by omega)
  · exact h.dct1.mono (by omega) (by omega)
  · exact (Dat.tup (ds := [d, .str "a"]) (n := fB j) (k := j + 2) (by intro x hx; simp at hx; rcases hx with rfl | rfl <;> assumption)).mono (by simp; omega) (by omega)
  · exact (Dat.tup (ds := [.str "a", d]) (n := fB j) (k := j + 2) (by intro x hx; simp at hx; rcases hx with rfl | rfl <;> assumption)).mono (by simp; omega) (by omega)
theorem mem6 {d : D} (h : d ∈ [D.int 0, .int 0, .int 0, .int 1, .int 2, .int 9]) : ∃ c : Nat, d = .int c ∧ c ≤ 9 := by
  simp only [List.mem_cons, List.not_mem_nil, or_false] at h
  rcases h with rfl | rfl | rfl | rfl | rfl | rfl
  · exact ⟨0, rfl, by decide⟩
  · exact ⟨0, rfl, by decide⟩
  · exact ⟨0, rfl, by decide⟩
  · exact ⟨1, rfl, by decide⟩
  · exact ⟨2, rfl, by decide⟩
  · exact ⟨9, rfl, by decide⟩
def any24 : List D := [.non, .bl true, .bl false, .int 0, .int 1, .int (-1), .int 9, .int 10, .int (10 ^ 20), .str "", .str "a", .str "check", .str "created", .str "listed", .str "A", .str "toolongname"] ++
  [.tup [], .lst [], .dct [] [], .tup [.str "a"], .lst [.str "a"], .tup (List.replicate 4 [D.str "check"]).flatten, .tup [.str "later", .str "later"], .tup [.tup [.str "a", .int 1]]]
theorem any24_dat : ∀ d ∈ any24, Dat 64 2 d := datB_all (by decide +kernel)
end Ev2
/-! E20: nested tuples that may be compared and told. -/
namespace Ev2
open PySem M
variable {S : Store}
theorem Lo.int (i : Int) : Lo (PyData.int i).shown := by
  simp only [PyData.shown]
  exact Lo.ofString _
/-- data without dicts: small, comparable, of low codes -/
structure Dn (n k : Nat) (d : D) (p : PyData) : Prop where
  e : toPyD d = some p
  f : toPy d = some p
  s : Sm n k p
  c : p.canLay0 = true
  l : Lo p.shown
theorem Dn.int {i : Int} (h : i.natAbs.log2 < 1920) : Dn 1921 0 (.int i) (.int i) := ⟨rfl, rfl, .int h, rfl, .int i⟩
theorem Dn.dat {n k : Nat} {d : D} {p : PyData} (h : Dn n k d p) : Dat n k d := ⟨p, h.e, h.s⟩
theorem Dn.all {n k : Nat} : ∀ {xs : List D}, (∀ x ∈ xs, ∃ p, Dn n k x p) → ∃ ps, toPysD xs = some ps ∧ toPys xs = some ps ∧ ps.length = xs.length ∧ (∀ p ∈ ps, Sm n k p) ∧ PyData.canLayAll0 ps = true ∧ ∀ t ∈ PyData.shownAll ps, Lo t
  | [], _ => ⟨[], rfl, rfl, rfl, (fun _ z => nomatch z), rfl, (fun _ z => nomatch z)⟩
  | x :: xs, h => by
    obtain ⟨p, hp⟩ := h x (.head _)
    obtain ⟨ps, e1, e2, e3, e4, e5, e6⟩ := Dn.all (xs := xs) fun y hy => h y (.tail _ hy)
    refine ⟨p :: ps, by simp only [toPysD, hp.e, e1], by simp only [toPys, hp.f, e2], by simp [e3], ?_, by simp only [PyData.canLayAll0, hp.c, e5, Bool.and_self], ?_⟩
    · intro q hq
      rcases List.mem_cons.mp hq with rfl | hq
      · exact hp.s
      · exact e4 q hq
    · intro q hq
      simp only [PyData.shownAll] at hq
      rcases List.mem_cons.mp hq with rfl | hq
      · exact hp.l
      · exact e6 q hq
theorem Dn.tup {n k : Nat} {xs : List D} (h : ∀ x ∈ xs, ∃ p, Dn n k x p) : ∃ ps, ps.length = xs.length ∧ Dn (3 + xs.length * (n + 2)) (k + 1) (.tup xs) (.tuple ps) := by
  obtain ⟨ps, e1, e2, e3, e4, e5, e6⟩ := Dn.all h
  refine ⟨ps, e3, by simp only [toPyD, e1]; rfl, by simp only [toPy, e2]; rfl, e3 ▸ Sm.tup e4, by simp only [PyData.canLay0, e5], ?_⟩
  simp only [PyData.shown]
  exact Lo.tupleText e6
/-- t != () -/
theorem ne_nil {n k : Nat} {xs : List D} {ps : List PyData} (h : Dn n k (.tup xs) (.tuple ps)) (hk : k ≤ 64) (hp : ps ≠ []) : cmpOp .NotEq (.tup xs) (.tup []) S = .ok (.bl true) S := by
  have e : eqD S (.tup xs) (.tup []) = some false := by
    have h1 : eqD S (.tup xs) (.tup []) = (match eqDeep S (.tup xs) (.tup []) with | some b => some b | none => eqNil (.tup xs) (.tup [])) := rfl
    have h2 : pyOf S (.tup xs) = some (.tuple ps) := h.f
    have h3 : pyOf S (.tup []) = some (.tuple []) := rfl
    have h4 : SeqAt.shaped (.tuple ps) = true := by
      unfold SeqAt.shaped
      rw [h.c, decide_eq_true (Nat.le_trans h.s.d hk)]
      rfl
    have h5 : SeqAt.shaped (.tuple []) = true := rfl
    have h6 : PyData.eqv (.tuple ps) (.tuple []) = false := by
      cases ps with
      | nil => exact absurd rfl hp
      | cons p ps => simp only [PyData.eqv, PyData.eqvAll]
    rw [h1]
    unfold eqDeep
    rw [h2, h3]
    show (match (if SeqAt.shaped (.tuple ps) && SeqAt.shaped (.tuple []) then some (PyData.eqv (.tuple ps) (.tuple [])) else none) with | some b => some b | none => eqNil (.tup xs) (.tup [])) = _
    rw [h4, h5, h6]
    rfl
  show (match eqD S (.tup xs) (.tup []) with
    | some r => R.ok (D.bl (!r)) S
    | none => .bad) = _
  rw [e]
  rfl
theorem strN_run {mu : Bool} {n k : Nat} {d : D} {p : PyData} (h : Dn n k d p) (hn : n ≤ 1000000) (hk : k ≤ 64) (ns : ∀ x, d ≠ .str x) : callB mu .str [d] S = .ok (.str p.shown) S := str_run h.e h.s hn hk ns
theorem Dn.text {n k m : Nat} {d : D} {p : PyData} (h : Dn n k d p) (l : 10 * n + 2 ≤ m) : Dat m 0 (.str p.shown) := reprLo h.l (by have := h.s.l; omega)
end Ev2
/-! E21: loops that may return, comprehensions with two fors. -/
namespace Ev2
open PySem M
variable {S : Store}
theorem go_rt {set : D → Env → Option Env} {body : Env → M Fl} {v : D} : ∀ {xs : List D}, goVals (lpB set body) xs (.rt v) S = .ok (.rt v) S
  | [] => rfl
  | _ :: xs => go_rt (xs := xs)
/-- what is kept along a loop that may return -/
def RunE (I : Env → Store → Prop) (R : D → Store → Prop) (f : Fl) (S : Store) : Prop := match f with
  | .nx ρ => I ρ S
  | .rt v => R v S
  | _ => False
theorem wp_goE {set : D → Env → Option Env} {body : Env → M Fl} (I : Nat → Env → Store → Prop) (R : D → Store → Prop) : ∀ (xs : List D) (j : Nat) (ρ : Env) (S : Store), I j ρ S →
    (∀ k d ρ S, xs[k]? = some d → I (j + k) ρ S → wp (lpB set body d (.nx ρ)) (RunE (I (j + k + 1)) R) S) → wp (goVals (lpB set body) xs (.nx ρ)) (RunE (I (j + xs.length)) R) S
  | [], j, ρ, S, h, _ => ⟨_, _, rfl, h⟩
  | x :: xs, j, ρ, S, h, st => by
    refine wp_goVals_cons.mpr (wp_mono (st 0 x ρ S rfl h) fun f S1 hf => ?_)
    cases f with
    | nx ρ1 =>
      have := wp_goE I R xs (j + 1) ρ1 S1 hf fun k d ρ2 S2 hk hi => by
        have e : j + 1 + k = j + (k + 1) := by omega
        rw [e] at hi ⊢
        exact st (k + 1) d ρ2 S2 hk hi
      have e : j + 1 + xs.length = j + (x :: xs).length := by simp; omega
      rw [e] at this
      exact this
    | rt v => exact ⟨_, _, go_rt, hf⟩
    | _ => exact hf.elim
theorem wp_loopE {set : D → Env → Option Env} {body : Env → M Fl} {ρ : Env} {xs : List D} {Q : Fl → Store → Prop} (I : Nat → Env → Store → Prop) (R : D → Store → Prop) (h0 : I 0 ρ S)
    (st : ∀ k d ρ S, xs[k]? = some d → I k ρ S → wp (lpB set body d (.nx ρ)) (RunE (I (k + 1)) R) S) (q1 : ∀ ρ S, I xs.length ρ S → Q (.nx ρ) S) (q2 : ∀ v S, R v S → Q (.rt v) S) : wp (goSrc (lpB set body) (.vals xs) (.nx ρ)) Q S := by
  refine wp_goSrc.mpr (wp_mono (wp_goE I R xs 0 ρ S h0 fun k d ρ S hk hi => ?_) fun f S1 hf => ?_)
  · rw [Nat.zero_add] at hi ⊢
    exact st k d ρ S hk hi
  · rw [Nat.zero_add] at hf
    cases f with
    | nx ρ1 => exact q1 ρ1 S1 hf
    | rt v => exact q2 v S1 hf
    | _ => exact hf.elim
theorem comp2_run {set : D → Env → Option Env} {w : List Nat} {it : Env → M Src} {set1 : D → Env → Option Env} {w1 : List Nat} {t1 : Env → M Bool} {e : Env → M D} {ρ : Env} {m : Nat} (ys : D → List D) (p : D → D → Bool) (f : D → D → D) (ρ1 : D → Env) (ρ2 : D → D → Env) : ∀ (xs acc : List D),
    (∀ d ∈ xs, set d (wipeE ρ w) = some (ρ1 d) ∧ it (ρ1 d) S = .ok (.vals (ys d)) S ∧ (ys d).length ≤ m ∧ ∀ y ∈ ys d, set1 y (wipeE (ρ1 d) w1) = some (ρ2 d y) ∧ t1 (ρ2 d y) S = .ok (p d y) S ∧ (p d y = true → e (ρ2 d y) S = .ok (f d y) S)) →
    acc.length + xs.length * m ≤ 1000000 → goVals (cmB2 set w (fun _ => pu true) it set1 w1 t1 e ρ) xs acc S = .ok (acc ++ xs.flatMap fun d => ((ys d).filter (p d)).map (f d)) S
  | [], acc, _, _ => by simp [goVals, pu]
  | d :: ds, acc, h, l => by
    obtain ⟨h1, h2, h3, h4⟩ := h d List.mem_cons_self
    have hs : (d :: ds).length * m = ds.length * m + m := by simp [Nat.succ_mul]
    rw [hs] at l
    have one : cmB2 set w (fun _ => pu true) it set1 w1 t1 e ρ d acc S = .ok (acc ++ ((ys d).filter (p d)).map (f d)) S := by
      unfold cmB2
      rw [h1]
      show bnd (it (ρ1 d)) _ S = _
      unfold bnd
      rw [h2]
      show goVals (cmB set1 w1 t1 e (ρ1 d)) (ys d) acc S = _
      exact comp_run (p d) (f d) (ρ2 d) (ys d) acc h4 (by omega)
    have hl : (((ys d).filter (p d)).map (f d)).length ≤ m := by
      rw [List.length_map]
      exact Nat.le_trans (List.length_filter_le _ _) h3
    rw [goVals]
    unfold bnd
    rw [one]
    show goVals _ ds (acc ++ ((ys d).filter (p d)).map (f d)) S = _
    rw [comp2_run ys p f ρ1 ρ2 ds _ (fun x hx => h x (List.mem_cons_of_mem _ hx)) (by rw [List.length_append]; omega)]
    simp [List.flatMap_cons]
theorem in_deep {a b : D} {xs : List D} {p : PyData} {qs : List PyData} (h : seqOf S b = some xs) (hf : (flatD a && xs.all flatD) = false) (ha : pyOf S a = some p) (hb : pyOf S b = some (.list qs)) (s1 : SeqAt.shaped p = true) (s2 : SeqAt.shaped (.list qs) = true) :
    cmpOp .NotIn a b S = .ok (.bl (!qs.any fun z => PyData.eqv z p)) S := by
  have e : inDeep S a b = some (qs.any fun z => PyData.eqv z p) := by
    unfold inDeep
    rw [ha, hb]
    show (if SeqAt.shaped p && SeqAt.shaped (.list qs) then some (qs.any fun z => PyData.eqv z p) else none) = _
    rw [s1, s2]
    rfl
  show (match seqOf S b with
    | some xs => if flatD a && xs.all flatD then R.ok (D.bl (!inF a xs)) S else (match inDeep S a b with | some r => R.ok (D.bl (!r)) S | none => .bad)
    | none => .bad) = _
  rw [h]
  show (if flatD a && xs.all flatD then R.ok (D.bl (!inF a xs)) S else (match inDeep S a b with | some r => R.ok (D.bl (!r)) S | none => .bad)) = _
  rw [hf, e]
  rfl
theorem min_list {mu : Bool} {a : D} {n : Int} {ns : List Int} (h : listOf S a = some ((n :: ns).map D.int)) : callB mu .min [a] S = .ok (.int (minI n ns)) S := by
  have hi : ∀ l : List Int, intsOf (l.map D.int) = some l := by
    intro l
    induction l with
    | nil => rfl
    | cons x l ih => show (intsOf (l.map D.int)).map _ = _; rw [ih]; rfl
  have e : callB mu .min [a] S = (match (listOf S a).bind intsOf with | some (n :: ns) => R.ok (D.int (minI n ns)) S | _ => .bad) := by cases a <;> rfl
  rw [e, h]
  show (match intsOf ((n :: ns).map D.int) with | some (n :: ns) => R.ok (D.int (minI n ns)) S | _ => .bad) = _
  rw [hi]
/-- a loop over a list of the store -/
theorem wp_loopR {f : D → Fl → M Fl} {ρ : Env} {p : Nat} {xs : List D} {Q : Fl → Store → Prop} (I : Nat → Env → Store → Prop) (h0 : I 0 ρ S) (hv : ∀ k ρ S, I k ρ S → lstAt S p = some xs)
    (st : ∀ k d ρ S, xs[k]? = some d → I k ρ S → wp (f d (.nx ρ)) (fun f S1 => ∃ ρ1, f = .nx ρ1 ∧ I (k + 1) ρ1 S1) S) (q : ∀ ρ S, I xs.length ρ S → Q (.nx ρ) S) : wp (goSrc f (.lref p) (.nx ρ)) Q S := by
  refine wp_goLref (xs := xs) (fun j f S => ∃ ρ1, f = Fl.nx ρ1 ∧ I j ρ1 S) ⟨ρ, rfl, h0⟩ (fun k b S h => ?_) (fun k d b S' e1 h => ?_) fun b S' h => ?_
  · obtain ⟨ρ1, rfl, h1⟩ := h
    exact hv k ρ1 S h1
  · obtain ⟨ρ1, rfl, h1⟩ := h
    exact st k d ρ1 S' e1 h1
  · obtain ⟨ρ1, rfl, h1⟩ := h
    exact q ρ1 S' h1
end Ev2
/-! E22: data that may be compared. -/
namespace Ev2
open PySem M
variable {S : Store}
structure Cm (k : Nat) (d : D) (p : PyData) : Prop where
  f : toPy d = some p
  c : p.canLay0 = true
  d : p.depth ≤ k
theorem Cm.mono {k j : Nat} {d : D} {p : PyData} (h : Cm k d p) (l : k ≤ j) : Cm j d p := ⟨h.f, h.c, Nat.le_trans h.d l⟩
theorem Cm.non : Cm 0 .non .none := ⟨rfl, rfl, by decide⟩
theorem Cm.str {x : Str} (h : (PyData.str x).canLay0 = true) : Cm 0 (.str x) (.str x) := ⟨rfl, h, by simp [PyData.depth]⟩
theorem Cm.shaped {k : Nat} {d : D} {p : PyData} (h : Cm k d p) (hk : k ≤ 64) : SeqAt.shaped p = true := by
  unfold SeqAt.shaped
  rw [h.c, decide_eq_true (Nat.le_trans h.d hk)]
  rfl
theorem Cm.all {k : Nat} : ∀ {xs : List D}, (∀ x ∈ xs, ∃ p, Cm k x p) → ∃ ps, toPys xs = some ps ∧ ps.length = xs.length ∧ PyData.canLayAll0 ps = true ∧ PyData.depthAll ps ≤ k ∧ ∀ x ∈ xs, ∃ p ∈ ps, Cm k x p
  | [], _ => ⟨[], rfl, rfl, rfl, by simp [PyData.depthAll], (fun _ z => nomatch z)⟩
  | x :: xs, h => by
    obtain ⟨p, hp⟩ := h x (.head _)
    obtain ⟨ps, e1, e2, e3, e4, e5⟩ := Cm.all (xs := xs) fun y hy => h y (.tail _ hy)
    refine ⟨p :: ps, by simp only [toPys, hp.f, e1], by simp [e2], by simp only [PyData.canLayAll0, hp.c, e3, Bool.and_self], ?_, ?_⟩
    · simp only [PyData.depthAll]
      have := hp.d
      omega
    · intro y hy
      rcases List.mem_cons.mp hy with rfl | hy
      · exact ⟨p, .head _, hp⟩
      · obtain ⟨q, h1, h2⟩ := e5 y hy
        exact ⟨q, .tail _ h1, h2⟩
theorem Cm.tup {k : Nat} {xs : List D} (h : ∀ x ∈ xs, ∃ p, Cm k x p) : ∃ ps, ps.length = xs.length ∧ Cm (k + 1) (.tup xs) (.tuple ps) := by
  obtain ⟨ps, e1, e2, e3, e4, e5⟩ := Cm.all h
  exact ⟨ps, e2, by simp only [toPy, e1]; rfl, by simp only [PyData.canLay0, e3], by simp only [PyData.depth]; omega⟩
theorem Cm.lst {k : Nat} {xs : List D} (h : ∀ x ∈ xs, ∃ p, Cm k x p) : ∃ ps, ps.length = xs.length ∧ Cm (k + 1) (.lst xs) (.list ps) ∧ ∀ x ∈ xs, ∃ p ∈ ps, Cm k x p := by
  obtain ⟨ps, e1, e2, e3, e4, e5⟩ := Cm.all h
  exact ⟨ps, e2, ⟨by simp only [toPy, e1]; rfl, by simp only [PyData.canLay0, e3], by simp only [PyData.depth]; omega⟩, e5⟩
theorem Cm.pyOf {k : Nat} {d : D} {p : PyData} (h : Cm k d p) : pyOf S d = some p := by
  have := h.f
  cases d <;> first | exact this | (exfalso; cases this; done)
theorem Cm.eqD {k : Nat} {a b : D} {p q : PyData} (h : Cm k a p) (g : Cm k b q) (hk : k ≤ 64) (n : eqS a b = none) : eqD S a b = some (PyData.eqv p q) := by
  unfold Ev2.eqD
  rw [n]
  show (match eqDeep S a b with | some b => some b | none => eqNil a b) = _
  unfold eqDeep
  rw [h.pyOf, g.pyOf]
  show (match (if SeqAt.shaped p && SeqAt.shaped q then some (PyData.eqv p q) else none) with | some b => some b | none => eqNil a b) = _
  rw [h.shaped hk, g.shaped hk]
  rfl
theorem Cm.eq {k : Nat} {a b : D} {p q : PyData} (h : Cm k a p) (g : Cm k b q) (hk : k ≤ 64) (n : eqS a b = none) : cmpOp .Eq a b S = .ok (.bl (PyData.eqv p q)) S := by
  show (match Ev2.eqD S a b with
    | some r => R.ok (D.bl r) S
    | none => .bad) = _
  rw [h.eqD g hk n]
theorem Cm.ne {k : Nat} {a b : D} {p q : PyData} (h : Cm k a p) (g : Cm k b q) (hk : k ≤ 64) (n : eqS a b = none) : cmpOp .NotEq a b S = .ok (.bl (!PyData.eqv p q)) S := by
  show (match Ev2.eqD S a b with
    | some r => R.ok (D.bl (!r)) S
    | none => .bad) = _
  rw [h.eqD g hk n]
theorem Cm.self {k : Nat} {a : D} {p : PyData} (h : Cm k a p) : PyData.eqv p p = true := SeqAt.eqv_refl p h.c
theorem Cm.one {k j : Nat} {a : D} {p q : PyData} (h : Cm k a p) (g : Cm j a q) : p = q := Option.some.inj (h.f.symm.trans g.f)
end Ev2
/-! E23: values of any kind, their weight (a bound of their text) and depth. -/
namespace Ev2
open PySem M
variable {S : Store}
/-! codes of texts -/
theorem chr_lo (ch : Char) : ch.toNat < 16 ^ 8 := by
  have := ch.val.toNat_lt
  show ch.val.toNat < 16 ^ 8
  exact Nat.lt_of_lt_of_le this (by decide)
theorem reprChar_lo {q c : Nat} (hq : q < 16 ^ 8) (hc : c < 16 ^ 8) : ∀ z ∈ Builtin.Str.reprChar q c, z < 16 ^ 8 := by
  have hex : ∀ w : Nat, ∀ z ∈ (List.replicate (w - ((Nat.toDigits 16 c).map Char.toNat).length) 48 ++ (Nat.toDigits 16 c).map Char.toNat), z < 16 ^ 8 := by
    intro w z hz
    rcases List.mem_append.mp hz with h | h
    · rw [List.eq_of_mem_replicate h]; decide
    · obtain ⟨ch, _, rfl⟩ := List.mem_map.mp h
      exact chr_lo ch
  intro z hz
  unfold Builtin.Str.reprChar at hz
  dsimp only at hz
  repeat' split at hz
  all_goals first
    | (simp only [List.mem_cons, List.not_mem_nil, or_false] at hz; rcases hz with rfl | rfl <;> first | exact hc | decide)
    | (simp only [List.mem_cons, List.not_mem_nil, or_false] at hz; rw [hz]; exact hc)
    | (rcases List.mem_append.mp hz with h | h
       · simp only [List.mem_cons, List.not_mem_nil, or_false] at h; rcases h with rfl | rfl <;> decide
       · exact hex _ z h)
theorem fold_lo {q : Nat} (hq : q < 16 ^ 8) : ∀ (l : List Nat) (acc : Array Nat), (∀ c ∈ l, c < 16 ^ 8) → (∀ c ∈ acc.toList, c < 16 ^ 8) → ∀ c ∈ (l.foldl (fun out c => out ++ (Builtin.Str.reprChar q c).toArray) acc).toList, c < 16 ^ 8
  | [], acc, _, h => h
  | x :: l, acc, h, g => by
    refine fold_lo hq l _ (fun c hc => h c (.tail _ hc)) fun c hc => ?_
    rw [Array.toList_append] at hc
    rcases List.mem_append.mp hc with z | z
    · exact g c z
    · exact reprChar_lo hq (h x (.head _)) c z
theorem Lo.repr {x : Str} (h : Lo x) : Lo (reprText x) := by
  have hq : reprQuote x < 16 ^ 8 := by unfold reprQuote; split <;> decide
  intro c hc
  unfold reprText at hc
  rw [Array.toList_push, ← Array.foldl_toList] at hc
  rcases List.mem_append.mp hc with z | z
  · exact fold_lo hq _ _ h (fun c hc => by rw [List.mem_singleton.mp hc]; exact hq) c z
  · rw [List.mem_singleton.mp z]; exact hq
theorem shifted_lo {N : Nat} : ∀ (l : List (Nat × Nat × Nat)) (c d : Nat), l.all (fun q => decide (q.2.2 + (q.2.1 - q.1) < N)) = true → Unicode.shifted l c = some d → d < N
  | [], _, _, _, h => by cases h
  | (a, b, t) :: r, c, d, hl, h => by
    rw [List.all_cons, Bool.and_eq_true] at hl
    have h1 : t + (b - a) < N := of_decide_eq_true hl.1
    unfold Unicode.shifted at h
    split at h
    · cases h
    · split at h
      · cases h; omega
      · exact shifted_lo r c d hl.2 h
theorem upper_lo {c : Nat} (hc : c < 16 ^ 8) : ∀ z ∈ Unicode.upperOf c, z < 16 ^ 8 := by
  intro z hz
  unfold Unicode.upperOf Unicode.image at hz
  split at hz
  · rename_i cs hl
    have := StrLaws.lookup_all (p := fun l => l.all fun n => decide (n < 16 ^ 8)) UnicodeData.severalUpper c cs (by decide +kernel) hl
    exact of_decide_eq_true (List.all_eq_true.mp this z hz)
  · rw [List.mem_singleton.mp hz]
    cases e : Unicode.shifted UnicodeData.oneUpper c with
    | none => exact hc
    | some d => exact shifted_lo (N := 16 ^ 8) UnicodeData.oneUpper c d (by decide +kernel) e
theorem Lo.upper {x : Str} (h : Lo x) : Lo (Txt.upper x) := by
  intro c hc
  unfold Txt.upper placed at hc
  have hc : c ∈ (x.cps.mapIdx fun i c => (Unicode.upperOf c).toArray).flatten := Array.mem_def.mpr hc
  rw [Array.mem_flatten] at hc
  obtain ⟨a, ha, hca⟩ := hc
  obtain ⟨i, hi, rfl⟩ := Array.mem_iff_getElem.mp ha
  simp only [Array.getElem_mapIdx] at hca
  have hi2 : i < x.cps.size := by simpa using hi
  exact upper_lo (h x.cps[i] (Array.mem_def.mp (Array.getElem_mem hi2))) c (by simpa using hca)
theorem Lo.cut {x : Str} (h : Lo x) (lo hi : Option Int) : Lo (L2.cutS x lo hi) := by
  intro c hc
  unfold L2.cutS at hc
  have hc : c ∈ (x.cps.toList.drop (HT.sIx x.length 0 lo)).take (HT.sIx x.length x.length hi - HT.sIx x.length 0 lo) := by simpa using hc
  exact h c (List.mem_of_mem_drop (List.mem_of_mem_take hc))
theorem textFrom_lo : ∀ (ts : List Str) (k : Nat) (acc : Str), (∀ t ∈ ts, Lo t) → Lo acc → Lo (textFrom k acc ts)
  | [], _, _, _, h => h
  | t :: ts, k, acc, h, g => by
    refine textFrom_lo ts (k + 1) _ (fun t ht => h t (.tail _ ht)) ((g.app ?_).app (h t (.head _)))
    split <;> exact Lo.ofString _
/-! weights -/
mutual
def wt : D → Nat
  | .non => 5
  | .bl _ => 5
  | .int _ => 1921
  | .str x => 10 * x.length + 2
  | .tup xs => 3 + wts xs
  | .lst xs => 3 + wts xs
  | .dct _ vs => 2 + wts vs + 5 * vs.length
  | _ => 0
def wts : List D → Nat
  | [] => 0
  | x :: xs => wt x + 2 + wts xs
end
mutual
def dp : D → Nat
  | .tup xs => dps xs + 1
  | .lst xs => dps xs + 1
  | .dct _ vs => dps vs + 1
  | _ => 0
def dps : List D → Nat
  | [] => 0
  | x :: xs => max (dp x) (dps xs)
end
mutual
/-- whole numbers up to N, texts of low codes, dicts with one key at most -/
def okD (N : Nat) : D → Prop
  | .non => True
  | .bl _ => True
  | .int i => i.natAbs ≤ N
  | .str x => Lo x
  | .tup xs => okDs N xs
  | .lst xs => okDs N xs
  | .dct ks vs => ((ks = [] ∧ vs.length = 0) ∨ (ks = [("a" : Str)] ∧ vs.length = 1)) ∧ okDs N vs
  | _ => False
def okDs (N : Nat) : List D → Prop
  | [] => True
  | x :: xs => okD N x ∧ okDs N xs
end
theorem okDs_iff {N : Nat} : ∀ {xs : List D}, okDs N xs ↔ ∀ x ∈ xs, okD N x
  | [] => by simp [okDs]
  | x :: xs => by simp only [okDs, okDs_iff (xs := xs), List.forall_mem_cons]
mutual
theorem okD.mono {N M : Nat} (l : N ≤ M) : ∀ {d : D}, okD N d → okD M d
  | .non, _ => trivial
  | .bl _, _ => trivial
  | .int _, h => Nat.le_trans (show _ ≤ N from h) l
  | .str _, h => h
  | .tup xs, h => okDs.mono l (xs := xs) h
  | .lst xs, h => okDs.mono l (xs := xs) h
  | .dct _ vs, h => ⟨h.1, okDs.mono l (xs := vs) h.2⟩
theorem okDs.mono {N M : Nat} (l : N ≤ M) : ∀ {xs : List D}, okDs N xs → okDs M xs
  | [], _ => trivial
  | _ :: _, h => ⟨okD.mono l h.1, okDs.mono l h.2⟩
end
theorem wts_app : ∀ (xs ys : List D), wts (xs ++ ys) = wts xs + wts ys
  | [], ys => by simp [wts]
  | x :: xs, ys => by rw [List.cons_append, wts, wts_app xs ys, wts]; omega
theorem wts_mem : ∀ {xs : List D} {x : D}, x ∈ xs → wt x + 2 ≤ wts xs
  | y :: ys, x, h => by
    rw [wts]
    rcases List.mem_cons.mp h with rfl | h
    · omega
    · have := wts_mem h; omega
theorem dps_mem : ∀ {xs : List D} {x : D}, x ∈ xs → dp x ≤ dps xs
  | y :: ys, x, h => by
    rw [dps]
    rcases List.mem_cons.mp h with rfl | h
    · omega
    · have := dps_mem h; omega
theorem dps_le {k : Nat} : ∀ {xs : List D}, (∀ x ∈ xs, dp x ≤ k) → dps xs ≤ k
  | [], _ => Nat.zero_le _
  | x :: xs, h => by
    rw [dps]
    have h1 := h x (.head _)
    have h2 := dps_le (k := k) (xs := xs) fun y hy => h y (.tail _ hy)
    omega
theorem wts_take (xs : List D) (j : Nat) : wts (xs.take j) ≤ wts xs := by
  have := wts_app (xs.take j) (xs.drop j)
  rw [List.take_append_drop] at this
  omega
theorem wts_drop (xs : List D) (j : Nat) : wts (xs.drop j) ≤ wts xs := by
  have := wts_app (xs.take j) (xs.drop j)
  rw [List.take_append_drop] at this
  omega
theorem wts_rev : ∀ xs : List D, wts xs.reverse = wts xs
  | [] => rfl
  | x :: xs => by rw [List.reverse_cons, wts_app, wts_rev xs, wts, wts, wts]; omega
theorem wts_set {d : D} : ∀ {xs : List D} {j : Nat}, wts (xs.set j d) ≤ wts xs + wt d
  | [], _ => by simp [wts]
  | x :: xs, 0 => by rw [List.set_cons_zero, wts, wts]; omega
  | x :: xs, j + 1 => by rw [List.set_cons_succ, wts, wts]; have := wts_set (d := d) (xs := xs) (j := j); omega
/-! texts of them -/
theorem textFrom_pile : ∀ (ts : List Str) (k : Nat) (acc : Str), (textFrom k acc ts).length ≤ acc.length + piled ts
  | [], k, acc => by show acc.length ≤ _; omega
  | t :: r, k, acc => by
    have ih := textFrom_pile r (k + 1) (acc ++ (if k > 0 then ", " else "" : String) ++ t)
    have e : (acc ++ (if k > 0 then ", " else "" : String) ++ t).length = acc.length + (if k > 0 then 2 else 0) + t.length := by
      rw [strLen_append, strLen_append]
      split <;> rfl
    rw [e] at ih
    show (textFrom (k + 1) _ r).length ≤ _
    have : (if k > 0 then 2 else 0 : Nat) ≤ 2 := by split <;> omega
    rw [piled_cons]
    omega
theorem tupleText_pile (ts : List Str) : (tupleText ts).length ≤ 3 + piled ts := by
  unfold tupleText
  rw [strLen_append, strLen_append]
  have e1 : ((("(" : String) : Str)).length = 1 := rfl
  have e3 : (((if ts.length == 1 then ",)" else ")" : String) : Str)).length ≤ 2 := by split <;> decide
  by_cases e : ts = []
  · subst e
    have : (Str.join ", " []).length = 0 := rfl
    omega
  · have := join_length_add _ e
    omega
theorem listText_pile (ts : List Str) : (listText ts).length ≤ 3 + piled ts := by
  unfold listText
  rw [strLen_append]
  have e1 : ((("[" : String) : Str)).length = 1 := rfl
  have e2 : ((("]" : String) : Str)).length = 1 := rfl
  have := textFrom_pile ts 0 "["
  omega
theorem Lo.listText {ts : List Str} (h : ∀ t ∈ ts, Lo t) : Lo (listText ts) := by
  unfold PySem.listText
  exact (textFrom_lo ts 0 _ h (Lo.ofString _)).app (Lo.ofString _)
/-- data and its text -/
structure Tx (d : D) (p : PyData) : Prop where
  e : toPyD d = some p
  s : Sm (wt d) (dp d) p
  l : Lo p.shown
structure Txs (xs : List D) (ps : List PyData) : Prop where
  e : toPysD xs = some ps
  n : ps.length = xs.length
  s : PyData.showableAll ps = true
  w : piled (PyData.shownAll ps) ≤ wts xs
  d : PyData.depthAll ps ≤ dps xs
  l : ∀ t ∈ PyData.shownAll ps, Lo t
mutual
theorem okD.tx {N : Nat} (hN : N < 2 ^ 1900) : ∀ {d : D}, okD N d → ∃ p, Tx d p
  | .non, _ => ⟨.none, rfl, Sm.non.mono (by simp [wt]) (by simp [dp]), by simp only [PyData.shown]; exact Lo.ofString _⟩
  | .bl b, _ => ⟨.bool b, rfl, (Sm.bl b).mono (by simp [wt]) (by simp [dp]), by simp only [PyData.shown]; split <;> exact Lo.ofString _⟩
  | .int i, h => by
    have h : i.natAbs ≤ N := h
    refine ⟨.int i, rfl, (Sm.int ?_).mono (by simp [wt]) (by simp [dp]), Lo.int i⟩
    by_cases h0 : i.natAbs = 0
    · rw [h0]; decide
    · exact (Nat.log2_lt h0).mpr (Nat.lt_of_le_of_lt h (Nat.lt_of_lt_of_le hN (Nat.pow_le_pow_right (by decide) (by decide))))
  | .str x, h => ⟨.str x, rfl, (Sm.str (StrLaws.reprText_len x h)).mono (by simp [wt]) (by simp [dp]), by simp only [PyData.shown]; exact Lo.repr h⟩
  | .tup xs, h => by
    obtain ⟨ps, t⟩ := okDs.txs hN (xs := xs) h
    refine ⟨.tuple ps, by simp only [toPyD, t.e]; rfl, ⟨by simpa only [PyData.showable] using t.s, ?_, ?_⟩, ?_⟩
    · simp only [PyData.shown, wt]
      exact Nat.le_trans (tupleText_pile _) (by have := t.w; omega)
    · simp only [PyData.depth, dp]
      have := t.d
      omega
    · simp only [PyData.shown]
      exact Lo.tupleText t.l
  | .lst xs, h => by
    obtain ⟨ps, t⟩ := okDs.txs hN (xs := xs) h
    refine ⟨.list ps, by simp only [toPyD, t.e]; rfl, ⟨by simpa only [PyData.showable] using t.s, ?_, ?_⟩, ?_⟩
    · simp only [PyData.shown, wt]
      exact Nat.le_trans (listText_pile _) (by have := t.w; omega)
    · simp only [PyData.depth, dp]
      have := t.d
      omega
    · simp only [PyData.shown]
      exact Lo.listText t.l
  | .dct ks vs, h => by
    obtain ⟨hk, hv⟩ := h
    obtain ⟨ps, t⟩ := okDs.txs hN (xs := vs) hv
    rcases hk with ⟨rfl, hl⟩ | ⟨rfl, hl⟩
    · have : vs = [] := List.length_eq_zero_iff.mp hl
      subst this
      exact ⟨.dict [], rfl, ⟨rfl, by decide +kernel, by decide⟩, by simp only [PyData.shown, PyData.shownKv]; unfold dictText; exact ((Lo.ofString _).app (Lo.join (Lo.ofString _) fun z hz => absurd hz (List.not_mem_nil))).app (Lo.ofString _)⟩
    · have hp : ps.length = 1 := by rw [t.n, hl]
      match ps, hp, vs, hl, t with
      | [p], _, [v], _, t =>
        have te := t.e
        have tw := t.w
        have td := t.d
        have ts := t.s
        have tl := t.l
        simp only [PyData.shownAll, piled_cons, piled_nil, wts] at tw
        simp only [PyData.depthAll, dps] at td
        simp only [PyData.showableAll, Bool.and_true] at ts
        have tl := tl p.shown (by simp [PyData.shownAll])
        refine ⟨.dict [(.str "a", p)], by simp only [toPyD, te]; rfl, ⟨?_, ?_, ?_⟩, ?_⟩
        · simp only [PyData.showable, PyData.showableKv, ts, Bool.and_self]
        · simp only [PyData.shown, PyData.shownKv, wt, wts]
          unfold dictText
          rw [PyProof.Rows.join_one, strLen_append, strLen_append, strLen_append, strLen_append]
          have e1 : ((("{" : String) : Str)).length = 1 := by decide +kernel
          have e2 : (reprText ("a" : Str)).length = 3 := by decide +kernel
          have e3 : (((": " : String) : Str)).length = 2 := by decide +kernel
          have e4 : ((("}" : String) : Str)).length = 1 := by decide +kernel
          simp only [List.length_cons, List.length_nil]
          omega
        · simp only [PyData.depth, PyData.depthKv, dp, dps]
          omega
        · simp only [PyData.shown, PyData.shownKv]
          unfold dictText
          refine ((Lo.ofString _).app (Lo.join (Lo.ofString _) fun z hz => ?_)).app (Lo.ofString _)
          rw [List.mem_singleton.mp hz]
          exact ((Lo.ofString "a").repr.app (Lo.ofString _)).app tl
theorem okDs.txs {N : Nat} (hN : N < 2 ^ 1900) : ∀ {xs : List D}, okDs N xs → ∃ ps, Txs xs ps
  | [], _ => ⟨[], rfl, rfl, rfl, by simp [PyData.shownAll, piled_nil], by simp [PyData.depthAll], (fun _ z => nomatch z)⟩
  | x :: xs, h => by
    obtain ⟨p, hp⟩ := okD.tx hN (d := x) h.1
    obtain ⟨ps, t⟩ := okDs.txs hN (xs := xs) h.2
    refine ⟨p :: ps, by simp only [toPysD, hp.e, t.e], by simp [t.n], by simp [PyData.showableAll, hp.s.s, t.s], ?_, ?_, ?_⟩
    · simp only [PyData.shownAll, piled_cons, wts]
      have := hp.s.l
      have := t.w
      omega
    · simp only [PyData.depthAll, dps]
      have := hp.s.d
      have := t.d
      omega
    · intro z hz
      simp only [PyData.shownAll, List.mem_cons] at hz
      rcases hz with rfl | hz
      · exact hp.l
      · exact t.l z hz
end
mutual
def okB (N : Nat) : D → Bool
  | .non => true
  | .bl _ => true
  | .int i => decide (i.natAbs ≤ N)
  | .str x => x.cps.toList.all fun c => decide (c < 16 ^ 8)
  | .tup xs => okBs N xs
  | .lst xs => okBs N xs
  | .dct ks vs => (decide (ks = []) && decide (vs.length = 0) || decide (ks = [("a" : Str)]) && decide (vs.length = 1)) && okBs N vs
  | _ => false
def okBs (N : Nat) : List D → Bool
  | [] => true
  | x :: xs => okB N x && okBs N xs
end
mutual
theorem okB_ok {N : Nat} : ∀ {d : D}, okB N d = true → okD N d
  | .non, _ => trivial
  | .bl _, _ => trivial
  | .int _, h => by simpa [okB, okD] using h
  | .str _, h => fun c hc => of_decide_eq_true (List.all_eq_true.mp h c hc)
  | .tup xs, h => okBs_ok (xs := xs) h
  | .lst xs, h => okBs_ok (xs := xs) h
  | .dct ks vs, h => by
    have h : ((decide (ks = []) && decide (vs.length = 0) || decide (ks = [("a" : Str)]) && decide (vs.length = 1)) && okBs N vs) = true := h
    rw [Bool.and_eq_true] at h
    refine ⟨?_, okBs_ok h.2⟩
    simpa using h.1
  | .rol _, h => by cases h
  | .ref _, h => by cases h
  | .ty _, h => by cases h
theorem okBs_ok {N : Nat} : ∀ {xs : List D}, okBs N xs = true → okDs N xs
  | [], _ => trivial
  | x :: xs, h => by
    have h : (okB N x && okBs N xs) = true := h
    rw [Bool.and_eq_true] at h
    exact ⟨okB_ok h.1, okBs_ok h.2⟩
end
/-- a value within bounds -/
structure Ad (N n k : Nat) (d : D) : Prop where
  o : okD N d
  w : wt d ≤ n
  d : dp d ≤ k
theorem Ad.mono {N M n m k j : Nat} {d : D} (h : Ad N n k d) (a : N ≤ M) (b : n ≤ m) (c : k ≤ j) : Ad M m j d := ⟨h.o.mono a, Nat.le_trans h.w b, Nat.le_trans h.d c⟩
def adB (N n k : Nat) (d : D) : Bool := okB N d && decide (wt d ≤ n) && decide (dp d ≤ k)
theorem adB_ok {N n k : Nat} {d : D} (h : adB N n k d = true) : Ad N n k d := by
  unfold adB at h
  simp only [Bool.and_eq_true, decide_eq_true_eq] at h
  exact ⟨okB_ok h.1.1, h.1.2, h.2⟩
theorem adB_all {N n k : Nat} {l : List D} (h : l.all (adB N n k) = true) : ∀ d ∈ l, Ad N n k d := fun d hd => adB_ok (List.all_eq_true.mp h d hd)
theorem Ad.tx {N n k : Nat} {d : D} (h : Ad N n k d) (hN : N < 2 ^ 1900) : ∃ p, toPyD d = some p ∧ Sm n k p ∧ Lo p.shown := by
  obtain ⟨p, t⟩ := h.o.tx hN
  exact ⟨p, t.e, t.s.mono h.w h.d, t.l⟩
theorem Ad.dat {N n k : Nat} {d : D} (h : Ad N n k d) (hN : N < 2 ^ 1900) : Dat n k d := let ⟨p, e, s, _⟩ := h.tx hN; ⟨p, e, s⟩
/-- str(d) -/
theorem Ad.str {N n k : Nat} {d : D} (h : Ad N n k d) (hN : N < 2 ^ 1900) (hn : n ≤ 1000000) (hk : k ≤ 64) : ∃ t, (∀ mu S, callB mu .str [d] S = .ok (.str t) S) ∧ Lo t ∧ t.length ≤ n := by
  by_cases z : ∃ x, d = .str x
  · obtain ⟨x, rfl⟩ := z
    have := h.w
    simp only [wt] at this
    exact ⟨x, fun _ _ => rfl, h.o, by omega⟩
  · obtain ⟨p, e, s, l⟩ := h.tx hN
    exact ⟨p.shown, fun mu S => str_run e s hn hk fun x e => z ⟨x, e⟩, l, s.l⟩
theorem Ad.txt {N n k : Nat} {t : Str} (h : Lo t) (l : 10 * t.length + 2 ≤ n) : Ad N n k (.str t) := ⟨h, by simp only [wt]; exact l, by simp only [dp]; exact Nat.zero_le _⟩
theorem Ad.tup {N n k : Nat} {xs : List D} (h : ∀ x ∈ xs, okD N x) (w : wts xs ≤ n) (d : ∀ x ∈ xs, dp x ≤ k) : Ad N (n + 3) (k + 1) (.tup xs) := ⟨okDs_iff.mpr h, by simp only [wt]; omega, by simp only [dp]; exact Nat.succ_le_succ (dps_le d)⟩
theorem Ad.lst {N n k : Nat} {xs : List D} (h : ∀ x ∈ xs, okD N x) (w : wts xs ≤ n) (d : ∀ x ∈ xs, dp x ≤ k) : Ad N (n + 3) (k + 1) (.lst xs) := ⟨okDs_iff.mpr h, by simp only [wt]; omega, by simp only [dp]; exact Nat.succ_le_succ (dps_le d)⟩
theorem Ad.one {N n k : Nat} {x : D} (h : Ad N n k x) : Ad N (n + 5) (k + 1) (.tup [x]) := ⟨⟨h.o, trivial⟩, by have := h.w; simp only [wt, wts]; omega, by have := h.d; simp only [dp, dps]; omega⟩
theorem Ad.oneL {N n k : Nat} {x : D} (h : Ad N n k x) : Ad N (n + 5) (k + 1) (.lst [x]) := ⟨⟨h.o, trivial⟩, by have := h.w; simp only [wt, wts]; omega, by have := h.d; simp only [dp, dps]; omega⟩
theorem Ad.two {N n m k : Nat} {x y : D} (h : Ad N n k x) (g : Ad N m k y) : Ad N (n + m + 7) (k + 1) (.tup [x, y]) := ⟨⟨h.o, g.o, trivial⟩, by have := h.w; have := g.w; simp only [wt, wts]; omega, by have := h.d; have := g.d; simp only [dp, dps]; omega⟩
theorem Ad.dct1 {N n k : Nat} {x : D} (h : Ad N n k x) : Ad N (n + 9) (k + 1) (.dct ["a"] [x]) := ⟨⟨.inr ⟨rfl, rfl⟩, h.o, trivial⟩, by have := h.w; simp only [wt, wts, List.length_cons, List.length_nil]; omega, by have := h.d; simp only [dp, dps]; omega⟩
theorem any24_ad : ∀ d ∈ any24, Ad (10 ^ 20) 2100 2 d := adB_all (by decide +kernel)
theorem wrapA {N n k : Nat} {d : D} (h : Ad N n k d) : ∀ e ∈ [D.tup [d], .lst [d], .dct ["a"] [d], .tup [d, .str "a"], .tup [.str "a", d]], Ad N (n + 19) (k + 1) e := by
  have ha : Ad N 12 k (.str "a") := .txt (Lo.ofString _) (by decide)
  intro e he
  simp only [List.mem_cons, List.not_mem_nil, or_false] at he
  rcases he with rfl | rfl | rfl | rfl | rfl
  · exact h.one.mono (Nat.le_refl _) (by omega) (Nat.le_refl _)
  · exact h.oneL.mono (Nat.le_refl _) (by omega) (Nat.le_refl _)
  · exact h.dct1.mono (Nat.le_refl _) (by omega) (Nat.le_refl _)
  · exact (h.two ha).mono (Nat.le_refl _) (by omega) (Nat.le_refl _)
  · exact (ha.two h).mono (Nat.le_refl _) (by omega) (Nat.le_refl _)
theorem wts_len : ∀ xs : List D, 2 * xs.length ≤ wts xs
  | [] => Nat.zero_le _
  | x :: xs => by rw [wts, List.length_cons]; have := wts_len xs; omega
theorem toPys_len : ∀ {xs : List D} {ps : List PyData}, toPys xs = some ps → ps.length = xs.length
  | [], _, e => by cases e; rfl
  | x :: xs, _, e => by
    simp only [toPys] at e
    cases e1 : toPy x with
    | none => rw [e1] at e; cases e
    | some p =>
      cases e2 : toPys xs with
      | none => rw [e1, e2] at e; cases e
      | some ps =>
        rw [e1, e2] at e
        cases e
        simp [toPys_len e2]
/-- t == () -/
theorem eqD_nil {xs : List D} : eqD S (.tup xs) (.tup []) = some xs.isEmpty := by
  show (match eqDeep S (.tup xs) (.tup []) with | some b => some b | none => some xs.isEmpty) = _
  cases e : eqDeep S (.tup xs) (.tup []) with
  | none => rfl
  | some b =>
    show some b = _
    unfold eqDeep at e
    have h2 : pyOf S (.tup xs) = (toPys xs).map PyData.tuple := rfl
    have h3 : pyOf S (.tup []) = some (.tuple []) := rfl
    rw [h2, h3] at e
    cases q : toPys xs with
    | none => rw [q] at e; cases e
    | some ps =>
      rw [q] at e
      simp only [Option.map_some] at e
      split at e
      · cases e
        have := toPys_len q
        cases ps with
        | nil => cases xs with
          | nil => rfl
          | cons x xs => cases this
        | cons p ps => cases xs with
          | nil => cases this
          | cons x xs => simp only [PyData.eqv, PyData.eqvAll]; rfl
      · cases e
theorem neNil_run {xs : List D} : cmpOp .NotEq (.tup xs) (.tup []) S = .ok (.bl (!xs.isEmpty)) S := by
  show (match eqD S (.tup xs) (.tup []) with
    | some r => R.ok (D.bl (!r)) S
    | none => .bad) = _
  rw [eqD_nil]
theorem add_str {mu : Bool} {x y : Str} (l : x.length + y.length ≤ 1000000) : binOp mu .Add (.str x) (.str y) S = .ok (.str (x ++ y)) S := by
  show (if x.length + y.length ≤ sizeLine then pu (D.str (x ++ y)) else bad) S = _
  rw [if_pos (Nat.le_trans l (by decide))]
  rfl
theorem upper_run {x : Str} (l : x.length ≤ 1000000) : meth0 "upper" (.str x) S = .ok (.str (Txt.upper x)) S := by
  show (if ("upper" : Str) = "upper" ∧ x.length ≤ 5592405 then pu (D.str (Txt.upper x)) else bad) S = _
  rw [if_pos ⟨rfl, Nat.le_trans l (by decide)⟩]
  rfl
theorem cut_run {mu : Bool} {x : Str} {lo hi : Option Int} (l : x.length ≤ 1000000) : slOp mu (.str x) lo hi S = .ok (.str (L2.cutS x lo hi)) S := by
  show (if x.length ≤ sizeLine then pu (D.str (L2.cutS x lo hi)) else bad) S = _
  rw [if_pos (Nat.le_trans l (by decide))]
  rfl
end Ev2
namespace L92
open PySem Ev2
def topS (i : Nat) : Stmt := PySem.Challenge.pw_latemirror_k92_errors_made_by_hand.main.body.getD i (.Pass ⟨0, 0, 0, 0⟩)
def df__law_hand : Df := ⟨["_law_script", "_law_k", "_law_cell", "_law_own"], ["_law_script", "_law_k"], L2.defScope (topS 19), L2.defBody (topS 19), []⟩
def df__law_take : Df := ⟨["_law_hand_here", "_law_many", "_law_digit", "_law_prime", "_law_mixed"], ["_law_hand_here", "_law_many"], L2.defScope (topS 20), L2.defBody (topS 20), []⟩
def df__law_of : Df := ⟨["_law_hand_here", "_law_some"], ["_law_hand_here", "_law_some"], L2.defScope (topS 21), L2.defBody (topS 21), []⟩
def df__law_any : Df := ⟨["_law_hand_here", "_law_some", "_law_thing", "_law_turn"], ["_law_hand_here"], L2.defScope (topS 22), L2.defBody (topS 22), []⟩
def df__law_by_place : Df := ⟨["_law_odd", "_law_some"], ["_law_odd"], L2.defScope (topS 23), L2.defBody (topS 23), []⟩
def df__law_by_name : Df := ⟨["_law_odd", "_law_some"], ["_law_odd"], L2.defScope (topS 24), L2.defBody (topS 24), []⟩
def df__law_marks : Df := ⟨["_law_error", "_law_found"], ["_law_error"], L2.defScope (topS 25), L2.defBody (topS 25), []⟩
def df__law_held : Df := ⟨["_law_some", "_law_found"], ["_law_some"], L2.defScope (topS 26), L2.defBody (topS 26), []⟩
def df_law : Df := ⟨["_law_script", "_law_k", "_law_odd", "_law_some", "_law_at", "_law_error", "_law_spot"], ["_law_script"], L2.defScope (topS 27), L2.defBody (topS 27), []⟩
def dfs : List (Str × Df) := (("_law_hand" : Str), df__law_hand) :: (("_law_take" : Str), df__law_take) :: (("_law_of" : Str), df__law_of) :: (("_law_any" : Str), df__law_any) :: (("_law_by_place" : Str), df__law_by_place) :: (("_law_by_name" : Str), df__law_by_name) :: (("_law_marks" : Str), df__law_marks) :: (("_law_held" : Str), df__law_held) :: (("law" : Str), df_law) :: []
def csts : List (Str × D) := []
def blts : List Str := ["ValueError", "len", "max", "min", "abs", "int", "repr", "isinstance", "range", "enumerate"]
def mus : List Pos := [⟨68, 11, 68, 119⟩]
def kds : List (Str × List Str × List D) := []
def exs : List (Str × ExI) := [("MirrorError", ⟨none, ["MirrorError"], false⟩), ("NoEntry", ⟨some "path", ["NoEntry", "MirrorError"], true⟩), ("BadMove", ⟨some "move", ["BadMove", "MirrorError"], true⟩), ("BadWord", ⟨some "word", ["BadWord", "MirrorError"], true⟩), ("BadKind", ⟨some "kind", ["BadKind", "MirrorError"], true⟩), ("BadRow", ⟨some "row", ["BadRow", "MirrorError"], true⟩), ("NotPossible", ⟨some "row", ["NotPossible", "MirrorError"], true⟩), ("BadReactions", ⟨some "reactions", ["BadReactions", "MirrorError"], true⟩), ("BadMerges", ⟨some "merges", ["BadMerges", "MirrorError"], true⟩), ("BadPrices", ⟨some "prices", ["BadPrices", "MirrorError"], true⟩), ("BadTable", ⟨some "value", ["BadTable", "MirrorError"], true⟩), ("BadTree", ⟨some "value", ["BadTree", "MirrorError"], true⟩), ("BadHistory", ⟨some "value", ["BadHistory", "MirrorError"], true⟩), ("NothingToUndo", ⟨none, ["NothingToUndo", "MirrorError"], true⟩), ("NoTool", ⟨none, ["NoTool", "MirrorError"], true⟩), ("BadText", ⟨some "row", ["BadText", "MirrorError"], true⟩), ("BadLine", ⟨some "line", ["BadLine", "MirrorError"], true⟩)]
def P : Prg := prg csts blts mus dfs kds exs
theorem sh__law_hand : Shape "_law_hand" df__law_hand (topS 19) := ⟨⟨rfl, rfl, rfl, by decide +kernel, rfl, by decide +kernel, by decide +kernel⟩, rfl, rfl, fun _ _ _ _ _ _ us hl => match us, hl with | [_, _], _ => rfl, fun _ hp => nomatch hp⟩
theorem sh__law_take : Shape "_law_take" df__law_take (topS 20) := ⟨⟨rfl, rfl, rfl, by decide +kernel, rfl, by decide +kernel, by decide +kernel⟩, rfl, rfl, fun _ _ _ _ _ _ us hl => match us, hl with | [_, _], _ => rfl, fun _ hp => nomatch hp⟩
theorem sh__law_of : Shape "_law_of" df__law_of (topS 21) := ⟨⟨rfl, rfl, rfl, by decide +kernel, rfl, by decide +kernel, by decide +kernel⟩, rfl, rfl, fun _ _ _ _ _ _ us hl => match us, hl with | [_, _], _ => rfl, fun _ hp => nomatch hp⟩
theorem sh__law_any : Shape "_law_any" df__law_any (topS 22) := ⟨⟨rfl, rfl, rfl, by decide +kernel, rfl, by decide +kernel, by decide +kernel⟩, rfl, rfl, fun _ _ _ _ _ _ us hl => match us, hl with | [_], _ => rfl, fun _ hp => nomatch hp⟩
theorem sh__law_by_place : Shape "_law_by_place" df__law_by_place (topS 23) := ⟨⟨rfl, rfl, rfl, by decide +kernel, rfl, by decide +kernel, by decide +kernel⟩, rfl, rfl, fun _ _ _ _ _ _ us hl => match us, hl with | [_], _ => rfl, fun _ hp => nomatch hp⟩
theorem sh__law_by_name : Shape "_law_by_name" df__law_by_name (topS 24) := ⟨⟨rfl, rfl, rfl, by decide +kernel, rfl, by decide +kernel, by decide +kernel⟩, rfl, rfl, fun _ _ _ _ _ _ us hl => match us, hl with | [_], _ => rfl, fun _ hp => nomatch hp⟩
theorem sh__law_marks : Shape "_law_marks" df__law_marks (topS 25) := ⟨⟨rfl, rfl, rfl, by decide +kernel, rfl, by decide +kernel, by decide +kernel⟩, rfl, rfl, fun _ _ _ _ _ _ us hl => match us, hl with | [_], _ => rfl, fun _ hp => nomatch hp⟩
theorem sh__law_held : Shape "_law_held" df__law_held (topS 26) := ⟨⟨rfl, rfl, rfl, by decide +kernel, rfl, by decide +kernel, by decide +kernel⟩, rfl, rfl, fun _ _ _ _ _ _ us hl => match us, hl with | [_], _ => rfl, fun _ hp => nomatch hp⟩
theorem sh_law : Shape "law" df_law (topS 27) := ⟨⟨rfl, rfl, rfl, by decide +kernel, rfl, by decide +kernel, by decide +kernel⟩, rfl, rfl, fun _ _ _ _ _ _ us hl => match us, hl with | [_], _ => rfl, fun _ hp => nomatch hp⟩
theorem is_NoEntry : IShape "path" ((clsBody (topS 2)).getD 0 (.Pass ⟨0, 0, 0, 0⟩)) := ⟨⟨rfl, rfl, rfl, by decide +kernel, rfl, by decide +kernel, by decide +kernel⟩, ⟨_, _, _, _, rfl⟩, fun _ _ _ _ _ _ _ _ _ => rfl, fun _ _ _ _ _ _ _ _ _ => rfl, by decide +kernel, by decide +kernel⟩
theorem is_BadMove : IShape "move" ((clsBody (topS 3)).getD 0 (.Pass ⟨0, 0, 0, 0⟩)) := ⟨⟨rfl, rfl, rfl, by decide +kernel, rfl, by decide +kernel, by decide +kernel⟩, ⟨_, _, _, _, rfl⟩, fun _ _ _ _ _ _ _ _ _ => rfl, fun _ _ _ _ _ _ _ _ _ => rfl, by decide +kernel, by decide +kernel⟩
theorem is_BadWord : IShape "word" ((clsBody (topS 4)).getD 0 (.Pass ⟨0, 0, 0, 0⟩)) := ⟨⟨rfl, rfl, rfl, by decide +kernel, rfl, by decide +kernel, by decide +kernel⟩, ⟨_, _, _, _, rfl⟩, fun _ _ _ _ _ _ _ _ _ => rfl, fun _ _ _ _ _ _ _ _ _ => rfl, by decide +kernel, by decide +kernel⟩
theorem is_BadKind : IShape "kind" ((clsBody (topS 5)).getD 0 (.Pass ⟨0, 0, 0, 0⟩)) := ⟨⟨rfl, rfl, rfl, by decide +kernel, rfl, by decide +kernel, by decide +kernel⟩, ⟨_, _, _, _, rfl⟩, fun _ _ _ _ _ _ _ _ _ => rfl, fun _ _ _ _ _ _ _ _ _ => rfl, by decide +kernel, by decide +kernel⟩
theorem is_BadRow : IShape "row" ((clsBody (topS 6)).getD 0 (.Pass ⟨0, 0, 0, 0⟩)) := ⟨⟨rfl, rfl, rfl, by decide +kernel, rfl, by decide +kernel, by decide +kernel⟩, ⟨_, _, _, _, rfl⟩, fun _ _ _ _ _ _ _ _ _ => rfl, fun _ _ _ _ _ _ _ _ _ => rfl, by decide +kernel, by decide +kernel⟩
theorem is_NotPossible : IShape "row" ((clsBody (topS 7)).getD 0 (.Pass ⟨0, 0, 0, 0⟩)) := ⟨⟨rfl, rfl, rfl, by decide +kernel, rfl, by decide +kernel, by decide +kernel⟩, ⟨_, _, _, _, rfl⟩, fun _ _ _ _ _ _ _ _ _ => rfl, fun _ _ _ _ _ _ _ _ _ => rfl, by decide +kernel, by decide +kernel⟩
theorem is_BadReactions : IShape "reactions" ((clsBody (topS 8)).getD 0 (.Pass ⟨0, 0, 0, 0⟩)) := ⟨⟨rfl, rfl, rfl, by decide +kernel, rfl, by decide +kernel, by decide +kernel⟩, ⟨_, _, _, _, rfl⟩, fun _ _ _ _ _ _ _ _ _ => rfl, fun _ _ _ _ _ _ _ _ _ => rfl, by decide +kernel, by decide +kernel⟩
theorem is_BadMerges : IShape "merges" ((clsBody (topS 9)).getD 0 (.Pass ⟨0, 0, 0, 0⟩)) := ⟨⟨rfl, rfl, rfl, by decide +kernel, rfl, by decide +kernel, by decide +kernel⟩, ⟨_, _, _, _, rfl⟩, fun _ _ _ _ _ _ _ _ _ => rfl, fun _ _ _ _ _ _ _ _ _ => rfl, by decide +kernel, by decide +kernel⟩
theorem is_BadPrices : IShape "prices" ((clsBody (topS 10)).getD 0 (.Pass ⟨0, 0, 0, 0⟩)) := ⟨⟨rfl, rfl, rfl, by decide +kernel, rfl, by decide +kernel, by decide +kernel⟩, ⟨_, _, _, _, rfl⟩, fun _ _ _ _ _ _ _ _ _ => rfl, fun _ _ _ _ _ _ _ _ _ => rfl, by decide +kernel, by decide +kernel⟩
theorem is_BadTable : IShape "value" ((clsBody (topS 11)).getD 0 (.Pass ⟨0, 0, 0, 0⟩)) := ⟨⟨rfl, rfl, rfl, by decide +kernel, rfl, by decide +kernel, by decide +kernel⟩, ⟨_, _, _, _, rfl⟩, fun _ _ _ _ _ _ _ _ _ => rfl, fun _ _ _ _ _ _ _ _ _ => rfl, by decide +kernel, by decide +kernel⟩
theorem is_BadTree : IShape "value" ((clsBody (topS 12)).getD 0 (.Pass ⟨0, 0, 0, 0⟩)) := ⟨⟨rfl, rfl, rfl, by decide +kernel, rfl, by decide +kernel, by decide +kernel⟩, ⟨_, _, _, _, rfl⟩, fun _ _ _ _ _ _ _ _ _ => rfl, fun _ _ _ _ _ _ _ _ _ => rfl, by decide +kernel, by decide +kernel⟩
theorem is_BadHistory : IShape "value" ((clsBody (topS 13)).getD 0 (.Pass ⟨0, 0, 0, 0⟩)) := ⟨⟨rfl, rfl, rfl, by decide +kernel, rfl, by decide +kernel, by decide +kernel⟩, ⟨_, _, _, _, rfl⟩, fun _ _ _ _ _ _ _ _ _ => rfl, fun _ _ _ _ _ _ _ _ _ => rfl, by decide +kernel, by decide +kernel⟩
theorem is_BadText : IShape "row" ((clsBody (topS 16)).getD 0 (.Pass ⟨0, 0, 0, 0⟩)) := ⟨⟨rfl, rfl, rfl, by decide +kernel, rfl, by decide +kernel, by decide +kernel⟩, ⟨_, _, _, _, rfl⟩, fun _ _ _ _ _ _ _ _ _ => rfl, fun _ _ _ _ _ _ _ _ _ => rfl, by decide +kernel, by decide +kernel⟩
theorem is_BadLine : IShape "line" ((clsBody (topS 17)).getD 0 (.Pass ⟨0, 0, 0, 0⟩)) := ⟨⟨rfl, rfl, rfl, by decide +kernel, rfl, by decide +kernel, by decide +kernel⟩, ⟨_, _, _, _, rfl⟩, fun _ _ _ _ _ _ _ _ _ => rfl, fun _ _ _ _ _ _ _ _ _ => rfl, by decide +kernel, by decide +kernel⟩
end L92
namespace L92
open PySem Ev2 M
def b__law_hand (ρ : Ev2.Env) : M Fl := sq (asgN 2 (bnd (bnd (rdV ρ 1) fun x3 => bnd (bnd (aL [rdV ρ 0]) fun ds => callB false .len ds) fun y4 => bnd (cmpOp .Lt x3 y4) asB) fun k2 => if k2 then (bnd (rdV ρ 0) fun x5 => bnd (rdV ρ 1) fun y6 => ixD x5 y6) else (bnd (bnd (pu (.int (19))) fun x9 => bnd (rdV ρ 1) fun y10 => binOp false .Mult x9 y10) fun x7 => bnd (pu (.int (6))) fun y8 => binOp false .Add x7 y8)) ρ) fun ρ1 => sq (asgN 3 (bnd (bnd (bnd (aL [rdV ρ1 2]) fun ds => callB false .abs ds) fun x14 => bnd (bnd (bnd (pu (.int (10))) fun x18 => bnd (pu (.int (60))) fun y19 => binOp false .Pow x18 y19) fun x16 => bnd (pu (.int (5))) fun y17 => binOp false .Pow x16 y17) fun y15 => binOp false .Mod x14 y15) fun x12 => bnd (bnd (aL [bnd (bnd (aL [rdV ρ1 2]) fun ds => callB false .abs ds) fun x20 => bnd (bnd (pu (.int (10))) fun x22 => bnd (pu (.int (18))) fun y23 => binOp false .Pow x22 y23) fun y21 => cmpOp .GtE x20 y21]) fun ds => callB false .int ds) fun y13 => binOp false .Mult x12 y13) ρ1) fun ρ11 => sq (bnd (bnd (aL [rdV ρ11 3, bnd (bnd (bnd (bnd (bnd (rdV ρ11 2) fun x34 => bnd (pu (.int (2305843009213693951))) fun y35 => binOp false .Mod x34 y35) fun x32 => bnd (pu (.int (50021))) fun y33 => binOp false .Mult x32 y33) fun x30 => bnd (bnd (bnd (pu (.int (7349))) fun x38 => bnd (rdV ρ11 1) fun y39 => binOp false .Mult x38 y39) fun x36 => bnd (rdV ρ11 1) fun y37 => binOp false .Mult x36 y37) fun y31 => binOp false .Add x30 y31) fun x28 => bnd (pu (.int (37))) fun y29 => binOp false .Add x28 y29) fun x26 => bnd (pu (.int (2305843009213693921))) fun y27 => binOp false .Mod x26 y27, pu (.int (0))]) fun ds => mkL true ds) fun d25 => pu (.rt d25)) fun ρ24 => pu (.nx ρ24)
def s__law_hand (a0 a1 : D) : M D := fin (b__law_hand [some a0, some a1, none, none])
theorem e__law_hand (k : Nat) (a0 a1 : D) : runDf (P.gx (k + 1) (callK P (k + 1))) df__law_hand [a0, a1] [] = s__law_hand a0 a1 := by kernel_rfl
theorem c__law_hand (k : Nat) : callK P (k + 2) "_law_hand" = some (runDf (P.gx (k + 1) (callK P (k + 1))) df__law_hand) := rfl
def b__law_take (ρ : Ev2.Env) : M Fl := sq (bnd (bnd (bnd (rdV ρ 0) fun x44 => bnd (pu (.int (0))) fun y45 => ixD x44 y45) fun x42 => bnd (pu (.int (0))) fun y43 => bnd (cmpOp .Gt x42 y43) asB) fun k41 => if k41 then (sq (asgN 2 (bnd (bnd (rdV ρ 0) fun x49 => bnd (pu (.int (0))) fun y50 => ixD x49 y50) fun x47 => bnd (rdV ρ 1) fun y48 => binOp false .Mod x47 y48) ρ) fun ρ46 => sq (bnd (bnd (bnd (rdV ρ46 0) fun x58 => bnd (pu (.int (0))) fun y59 => ixD x58 y59) fun x56 => bnd (rdV ρ46 1) fun y57 => binOp false .FloorDiv x56 y57) fun d52 => bnd (rdV ρ46 0) fun x53 => bnd (pu (.int (0))) fun y54 => bnd (setItemOp x53 y54 d52) fun u55 => pu (.nx ρ46)) fun ρ51 => sq (bnd (rdV ρ51 2) fun d61 => pu (.rt d61)) fun ρ60 => pu (.nx ρ60)) else (pu (.nx ρ))) fun ρ40 => sq (bnd (bnd (bnd (rdV ρ40 0) fun x69 => bnd (pu (.int (2))) fun y70 => ixD x69 y70) fun x67 => bnd (pu (.int (1))) fun y68 => binOp false .Add x67 y68) fun d63 => bnd (rdV ρ40 0) fun x64 => bnd (pu (.int (2))) fun y65 => bnd (setItemOp x64 y65 d63) fun u66 => pu (.nx ρ40)) fun ρ62 => sq (asgN 3 (bnd (bnd (aL [pu (.int (2147483647)), pu (.int (2147483629)), pu (.int (2147483587)), pu (.int (2147483579)), pu (.int (2147483563))]) fun ds => mkL false ds) fun x72 => bnd (bnd (bnd (rdV ρ62 0) fun x76 => bnd (pu (.int (2))) fun y77 => ixD x76 y77) fun x74 => bnd (pu (.int (5))) fun y75 => binOp false .Mod x74 y75) fun y73 => ixD x72 y73) ρ62) fun ρ71 => sq (asgN 4 (bnd (bnd (bnd (bnd (bnd (rdV ρ71 0) fun x87 => bnd (pu (.int (1))) fun y88 => ixD x87 y88) fun x85 => bnd (bnd (bnd (pu (.int (65537))) fun x91 => bnd (bnd (rdV ρ71 0) fun x93 => bnd (pu (.int (2))) fun y94 => ixD x93 y94) fun y92 => binOp false .Mult x91 y92) fun x89 => bnd (bnd (rdV ρ71 0) fun x95 => bnd (pu (.int (2))) fun y96 => ixD x95 y96) fun y90 => binOp false .Mult x89 y90) fun y86 => binOp false .Add x85 y86) fun x83 => bnd (pu (.int (43))) fun y84 => binOp false .Add x83 y84) fun x81 => bnd (pu (.int (3))) fun y82 => binOp false .Pow x81 y82) fun x79 => bnd (rdV ρ71 3) fun y80 => binOp false .Mod x79 y80) ρ71) fun ρ78 => sq (bnd (bnd (bnd (bnd (bnd (rdV ρ78 4) fun x105 => bnd (bnd (bnd (rdV ρ78 4) fun x109 => bnd (pu (.int (10007))) fun y110 => binOp false .Mod x109 y110) fun x107 => bnd (bnd (pu (.int (83))) fun x111 => bnd (bnd (rdV ρ78 0) fun x113 => bnd (pu (.int (2))) fun y114 => ixD x113 y114) fun y112 => binOp false .Mult x111 y112) fun y108 => binOp false .Add x107 y108) fun y106 => binOp false .Mult x105 y106) fun x103 => bnd (pu (.int (2305843009213693921))) fun y104 => binOp false .Mod x103 y104) fun x101 => bnd (pu (.int (101))) fun y102 => binOp false .FloorDiv x101 y102) fun x99 => bnd (rdV ρ78 1) fun y100 => binOp false .Mod x99 y100) fun d98 => pu (.rt d98)) fun ρ97 => pu (.nx ρ97)
def s__law_take (a0 a1 : D) : M D := fin (b__law_take [some a0, some a1, none, none, none])
theorem e__law_take (k : Nat) (a0 a1 : D) : runDf (P.gx (k + 1) (callK P (k + 1))) df__law_take [a0, a1] [] = s__law_take a0 a1 := by kernel_rfl
theorem c__law_take (k : Nat) : callK P (k + 2) "_law_take" = some (runDf (P.gx (k + 1) (callK P (k + 1))) df__law_take) := rfl
def b__law_of (call : Cl) (ρ : Ev2.Env) : M Fl := sq (bnd (bnd (rdV ρ 1) fun x117 => bnd (callM (call "_law_take") (aL [rdV ρ 0, bnd (aL [rdV ρ 1]) fun ds => callB false .len ds])) fun y118 => ixD x117 y118) fun d116 => pu (.rt d116)) fun ρ115 => pu (.nx ρ115)
def s__law_of (call : Cl) (a0 a1 : D) : M D := fin (b__law_of call [some a0, some a1])
theorem e__law_of (k : Nat) (a0 a1 : D) : runDf (P.gx (k + 1) (callK P (k + 1))) df__law_of [a0, a1] [] = s__law_of (callK P (k + 1)) a0 a1 := by kernel_rfl
theorem c__law_of (k : Nat) : callK P (k + 2) "_law_of" = some (runDf (P.gx (k + 1) (callK P (k + 1))) df__law_of) := rfl
def b__law_any (call : Cl) (ρ : Ev2.Env) : M Fl := sq (asgN 1 (bnd (aL [pu (.non), pu (.bl true), pu (.bl false), pu (.int (0)), pu (.int (1)), bnd (pu (.int (1))) fun x120 => negOp x120, pu (.int (9)), pu (.int (10)), bnd (pu (.int (10))) fun x121 => bnd (pu (.int (20))) fun y122 => binOp false .Pow x121 y122, pu (.str ""), pu (.str "a"), pu (.str "check"), pu (.str "created"), pu (.str "listed"), pu (.str "A"), pu (.str "toolongname")]) fun ds => mkL false ds) ρ) fun ρ119 => sq (asgN 2 (callM (call "_law_of") (aL [rdV ρ119 0, bnd (rdV ρ119 1) fun x124 => bnd (bnd (aL [bnd (aL []) mkT, bnd (aL []) fun ds => mkL false ds, bnd (aL []) fun ds => mkD false [] ds, bnd (aL [pu (.str "a")]) mkT, bnd (aL [pu (.str "a")]) fun ds => mkL false ds, bnd (bnd (aL [pu (.str "check")]) mkT) fun x126 => bnd (pu (.int (4))) fun y127 => binOp false .Mult x126 y127, bnd (aL [pu (.str "later"), pu (.str "later")]) mkT, bnd (aL [bnd (aL [pu (.str "a"), pu (.int (1))]) mkT]) mkT]) fun ds => mkL false ds) fun y125 => binOp false .Add x124 y125])) ρ119) fun ρ123 => sq (bnd (bnd (callM (call "_law_of") (aL [rdV ρ123 0, bnd (aL [pu (.int (0)), pu (.int (0)), pu (.int (0)), pu (.int (1)), pu (.int (2)), pu (.int (9))]) fun ds => mkL false ds])) rangeSrc) fun s129 => bnd (goSrc (lpB (setN 3) fun ρ130 => sq (asgN 2 (callM (call "_law_of") (aL [rdV ρ130 0, bnd (aL [bnd (aL [rdV ρ130 2]) mkT, bnd (aL [rdV ρ130 2]) fun ds => mkL false ds, bnd (aL [rdV ρ130 2]) fun ds => mkD false ["a"] ds, bnd (aL [rdV ρ130 2, pu (.str "a")]) mkT, bnd (aL [pu (.str "a"), rdV ρ130 2]) mkT]) fun ds => mkL false ds])) ρ130) fun ρ131 => pu (.nx ρ131)) s129 (.nx ρ123)) loopEnd) fun ρ128 => sq (bnd (rdV ρ128 2) fun d133 => pu (.rt d133)) fun ρ132 => pu (.nx ρ132)
def s__law_any (call : Cl) (a0 : D) : M D := fin (b__law_any call [some a0, none, none, none])
theorem e__law_any (k : Nat) (a0 : D) : runDf (P.gx (k + 1) (callK P (k + 1))) df__law_any [a0] [] = s__law_any (callK P (k + 1)) a0 := by kernel_rfl
theorem c__law_any (k : Nat) : callK P (k + 2) "_law_any" = some (runDf (P.gx (k + 1) (callK P (k + 1))) df__law_any) := rfl
def b__law_by_place (ρ : Ev2.Env) : M Fl := sq (asgN 1 (bnd (aL [bnd (rdV ρ 0) fun d135 => pu (.err "NoEntry" ["path"] [d135]), bnd (rdV ρ 0) fun d136 => pu (.err "BadMove" ["move"] [d136]), bnd (rdV ρ 0) fun d137 => pu (.err "BadWord" ["word"] [d137]), bnd (rdV ρ 0) fun d138 => pu (.err "BadKind" ["kind"] [d138]), bnd (rdV ρ 0) fun d139 => pu (.err "BadRow" ["row"] [d139]), bnd (rdV ρ 0) fun d140 => pu (.err "NotPossible" ["row"] [d140]), bnd (rdV ρ 0) fun d141 => pu (.err "BadReactions" ["reactions"] [d141])]) fun ds => mkL false ds) ρ) fun ρ134 => sq (asgN 1 (bnd (rdV ρ134 1) fun x143 => bnd (bnd (aL [bnd (rdV ρ134 0) fun d145 => pu (.err "BadMerges" ["merges"] [d145]), bnd (rdV ρ134 0) fun d146 => pu (.err "BadPrices" ["prices"] [d146]), bnd (rdV ρ134 0) fun d147 => pu (.err "BadTable" ["value"] [d147]), bnd (rdV ρ134 0) fun d148 => pu (.err "BadTree" ["value"] [d148]), bnd (rdV ρ134 0) fun d149 => pu (.err "BadHistory" ["value"] [d149]), bnd (rdV ρ134 0) fun d150 => pu (.err "BadText" ["row"] [d150])]) fun ds => mkL false ds) fun y144 => binOp false .Add x143 y144) ρ134) fun ρ142 => sq (bnd (bnd (rdV ρ142 1) fun x153 => bnd (bnd (aL [bnd (rdV ρ142 0) fun d155 => pu (.err "BadLine" ["line"] [d155]), pu (.err "NothingToUndo" [] []), pu (.err "NoTool" [] [])]) fun ds => mkL false ds) fun y154 => binOp false .Add x153 y154) fun d152 => pu (.rt d152)) fun ρ151 => pu (.nx ρ151)
def s__law_by_place (a0 : D) : M D := fin (b__law_by_place [some a0, none])
theorem e__law_by_place (k : Nat) (a0 : D) : runDf (P.gx (k + 1) (callK P (k + 1))) df__law_by_place [a0] [] = s__law_by_place a0 := by kernel_rfl
theorem c__law_by_place (k : Nat) : callK P (k + 2) "_law_by_place" = some (runDf (P.gx (k + 1) (callK P (k + 1))) df__law_by_place) := rfl
def b__law_by_name (ρ : Ev2.Env) : M Fl := sq (asgN 1 (bnd (aL [bnd (rdV ρ 0) fun d159 => pu (.err "NoEntry" ["path"] [d159]), bnd (rdV ρ 0) fun d160 => pu (.err "BadMove" ["move"] [d160]), bnd (rdV ρ 0) fun d161 => pu (.err "BadWord" ["word"] [d161]), bnd (rdV ρ 0) fun d162 => pu (.err "BadKind" ["kind"] [d162]), bnd (rdV ρ 0) fun d163 => pu (.err "BadRow" ["row"] [d163])]) fun ds => mkL false ds) ρ) fun ρ158 => sq (asgN 1 (bnd (rdV ρ158 1) fun x165 => bnd (bnd (aL [bnd (rdV ρ158 0) fun d167 => pu (.err "NotPossible" ["row"] [d167]), bnd (rdV ρ158 0) fun d168 => pu (.err "BadReactions" ["reactions"] [d168]), bnd (rdV ρ158 0) fun d169 => pu (.err "BadMerges" ["merges"] [d169]), bnd (rdV ρ158 0) fun d170 => pu (.err "BadPrices" ["prices"] [d170])]) fun ds => mkL false ds) fun y166 => binOp false .Add x165 y166) ρ158) fun ρ164 => sq (asgN 1 (bnd (rdV ρ164 1) fun x172 => bnd (bnd (aL [bnd (rdV ρ164 0) fun d174 => pu (.err "BadTable" ["value"] [d174]), bnd (rdV ρ164 0) fun d175 => pu (.err "BadTree" ["value"] [d175]), bnd (rdV ρ164 0) fun d176 => pu (.err "BadHistory" ["value"] [d176]), bnd (rdV ρ164 0) fun d177 => pu (.err "BadText" ["row"] [d177]), bnd (rdV ρ164 0) fun d178 => pu (.err "BadLine" ["line"] [d178])]) fun ds => mkL false ds) fun y173 => binOp false .Add x172 y173) ρ164) fun ρ171 => sq (bnd (bnd (rdV ρ171 1) fun x181 => bnd (bnd (aL [pu (.err "NothingToUndo" [] []), pu (.err "NoTool" [] [])]) fun ds => mkL false ds) fun y182 => binOp false .Add x181 y182) fun d180 => pu (.rt d180)) fun ρ179 => pu (.nx ρ179)
def s__law_by_name (a0 : D) : M D := fin (b__law_by_name [some a0, none])
theorem e__law_by_name (k : Nat) (a0 : D) : runDf (P.gx (k + 1) (callK P (k + 1))) df__law_by_name [a0] [] = s__law_by_name a0 := by kernel_rfl
theorem c__law_by_name (k : Nat) : callK P (k + 2) "_law_by_name" = some (runDf (P.gx (k + 1) (callK P (k + 1))) df__law_by_name) := rfl
def b__law_marks (ρ : Ev2.Env) : M Fl := sq (asgN 1 (bnd (aL [bnd (rdV ρ 0) fun d186 => isX (fun x => exs.lookup x) "NoEntry" d186, bnd (rdV ρ 0) fun d187 => isX (fun x => exs.lookup x) "BadMove" d187, bnd (rdV ρ 0) fun d188 => isX (fun x => exs.lookup x) "BadWord" d188]) fun ds => mkL false ds) ρ) fun ρ185 => sq (asgN 1 (bnd (rdV ρ185 1) fun x190 => bnd (bnd (aL [bnd (rdV ρ185 0) fun d192 => isX (fun x => exs.lookup x) "BadKind" d192, bnd (rdV ρ185 0) fun d193 => isX (fun x => exs.lookup x) "BadRow" d193, bnd (rdV ρ185 0) fun d194 => isX (fun x => exs.lookup x) "NotPossible" d194]) fun ds => mkL false ds) fun y191 => binOp false .Add x190 y191) ρ185) fun ρ189 => sq (asgN 1 (bnd (rdV ρ189 1) fun x196 => bnd (bnd (aL [bnd (rdV ρ189 0) fun d198 => isX (fun x => exs.lookup x) "BadReactions" d198, bnd (rdV ρ189 0) fun d199 => isX (fun x => exs.lookup x) "BadMerges" d199, bnd (rdV ρ189 0) fun d200 => isX (fun x => exs.lookup x) "BadPrices" d200]) fun ds => mkL false ds) fun y197 => binOp false .Add x196 y197) ρ189) fun ρ195 => sq (asgN 1 (bnd (rdV ρ195 1) fun x202 => bnd (bnd (aL [bnd (rdV ρ195 0) fun d204 => isX (fun x => exs.lookup x) "BadTable" d204, bnd (rdV ρ195 0) fun d205 => isX (fun x => exs.lookup x) "BadTree" d205, bnd (rdV ρ195 0) fun d206 => isX (fun x => exs.lookup x) "BadHistory" d206]) fun ds => mkL false ds) fun y203 => binOp false .Add x202 y203) ρ195) fun ρ201 => sq (asgN 1 (bnd (rdV ρ201 1) fun x208 => bnd (bnd (aL [bnd (rdV ρ201 0) fun d210 => isX (fun x => exs.lookup x) "BadText" d210, bnd (rdV ρ201 0) fun d211 => isX (fun x => exs.lookup x) "BadLine" d211, bnd (rdV ρ201 0) fun d212 => isX (fun x => exs.lookup x) "NothingToUndo" d212]) fun ds => mkL false ds) fun y209 => binOp false .Add x208 y209) ρ201) fun ρ207 => sq (bnd (bnd (rdV ρ207 1) fun x215 => bnd (bnd (aL [bnd (rdV ρ207 0) fun d217 => isX (fun x => exs.lookup x) "NoTool" d217]) fun ds => mkL false ds) fun y216 => binOp false .Add x215 y216) fun d214 => pu (.rt d214)) fun ρ213 => pu (.nx ρ213)
def s__law_marks (a0 : D) : M D := fin (b__law_marks [some a0, none])
theorem e__law_marks (k : Nat) (a0 : D) : runDf (P.gx (k + 1) (callK P (k + 1))) df__law_marks [a0] [] = s__law_marks a0 := by kernel_rfl
theorem c__law_marks (k : Nat) : callK P (k + 2) "_law_marks" = some (runDf (P.gx (k + 1) (callK P (k + 1))) df__law_marks) := rfl
def b__law_held (ρ : Ev2.Env) : M Fl := sq (asgN 1 (bnd (aL [bnd (bnd (rdV ρ 0) fun x220 => bnd (pu (.int (0))) fun y221 => ixD x220 y221) fun d219 => fldOp (fun x => exs.lookup x) "path" d219, bnd (bnd (rdV ρ 0) fun x223 => bnd (pu (.int (1))) fun y224 => ixD x223 y224) fun d222 => fldOp (fun x => exs.lookup x) "move" d222, bnd (bnd (rdV ρ 0) fun x226 => bnd (pu (.int (2))) fun y227 => ixD x226 y227) fun d225 => fldOp (fun x => exs.lookup x) "word" d225, bnd (bnd (rdV ρ 0) fun x229 => bnd (pu (.int (3))) fun y230 => ixD x229 y230) fun d228 => fldOp (fun x => exs.lookup x) "kind" d228, bnd (bnd (rdV ρ 0) fun x232 => bnd (pu (.int (4))) fun y233 => ixD x232 y233) fun d231 => fldOp (fun x => exs.lookup x) "row" d231, bnd (bnd (rdV ρ 0) fun x235 => bnd (pu (.int (5))) fun y236 => ixD x235 y236) fun d234 => fldOp (fun x => exs.lookup x) "row" d234, bnd (bnd (rdV ρ 0) fun x238 => bnd (pu (.int (6))) fun y239 => ixD x238 y239) fun d237 => fldOp (fun x => exs.lookup x) "reactions" d237]) fun ds => mkL false ds) ρ) fun ρ218 => sq (asgN 1 (bnd (rdV ρ218 1) fun x241 => bnd (bnd (aL [bnd (bnd (rdV ρ218 0) fun x244 => bnd (pu (.int (7))) fun y245 => ixD x244 y245) fun d243 => fldOp (fun x => exs.lookup x) "merges" d243, bnd (bnd (rdV ρ218 0) fun x247 => bnd (pu (.int (8))) fun y248 => ixD x247 y248) fun d246 => fldOp (fun x => exs.lookup x) "prices" d246, bnd (bnd (rdV ρ218 0) fun x250 => bnd (pu (.int (9))) fun y251 => ixD x250 y251) fun d249 => fldOp (fun x => exs.lookup x) "value" d249, bnd (bnd (rdV ρ218 0) fun x253 => bnd (pu (.int (10))) fun y254 => ixD x253 y254) fun d252 => fldOp (fun x => exs.lookup x) "value" d252, bnd (bnd (rdV ρ218 0) fun x256 => bnd (pu (.int (11))) fun y257 => ixD x256 y257) fun d255 => fldOp (fun x => exs.lookup x) "value" d255, bnd (bnd (rdV ρ218 0) fun x259 => bnd (pu (.int (12))) fun y260 => ixD x259 y260) fun d258 => fldOp (fun x => exs.lookup x) "row" d258]) fun ds => mkL false ds) fun y242 => binOp false .Add x241 y242) ρ218) fun ρ240 => sq (bnd (bnd (rdV ρ240 1) fun x263 => bnd (bnd (aL [bnd (bnd (rdV ρ240 0) fun x266 => bnd (pu (.int (13))) fun y267 => ixD x266 y267) fun d265 => fldOp (fun x => exs.lookup x) "line" d265]) fun ds => mkL false ds) fun y264 => binOp false .Add x263 y264) fun d262 => pu (.rt d262)) fun ρ261 => pu (.nx ρ261)
def s__law_held (a0 : D) : M D := fin (b__law_held [some a0, none])
theorem e__law_held (k : Nat) (a0 : D) : runDf (P.gx (k + 1) (callK P (k + 1))) df__law_held [a0] [] = s__law_held a0 := by kernel_rfl
theorem c__law_held (k : Nat) : callK P (k + 2) "_law_held" = some (runDf (P.gx (k + 1) (callK P (k + 1))) df__law_held) := rfl
def b_law (call : Cl) (ρ : Ev2.Env) : M Fl := sq (bnd (bnd (bnd (aL [pu (.int (1)), bnd (aL [pu (.int (2)), bnd (aL [rdV ρ 0]) fun ds => callB false .len ds]) fun ds => callB false .min ds]) fun ds => callB false .max ds) rangeSrc) fun s269 => bnd (goSrc (lpB (setN 1) fun ρ270 => sq (asgN 2 (callM (call "_law_any") (aL [callM (call "_law_hand") (aL [rdV ρ270 0, rdV ρ270 1])])) ρ270) fun ρ271 => sq (bnd (iterVal (bnd (aL [callM (call "_law_by_place") (aL [rdV ρ271 2]), callM (call "_law_by_name") (aL [rdV ρ271 2])]) mkT)) fun s273 => bnd (goSrc (lpB (setN 3) fun ρ274 => sq (bnd (bnd (rdV ρ274 3) enumSrc) fun s276 => bnd (goSrc (lpB (setT [4, 5]) fun ρ277 => sq (bnd (bnd (bnd (callM (call "_law_marks") (aL [rdV ρ277 5])) fun x281 => bnd (bnd (bnd (pu (.int (16))) rangeSrc) fun s283 => bnd (goSrc (cmB (setN 6) [6] (fun ρ285 => pu true) (fun ρ285 => bnd (rdV ρ285 6) fun x286 => bnd (rdV ρ285 4) fun y287 => cmpOp .Eq x286 y287) ρ277) s283 []) fun xs284 => mkL false xs284) fun y282 => bnd (cmpOp .NotEq x281 y282) asB) fun k280 => if k280 then pu true else (bnd (bnd (bnd (rdV ρ277 5) fun d289 => isX (fun x => exs.lookup x) "MirrorError" d289) trM) fun k288 => pu (!k288))) fun k279 => if k279 then (sq (bnd (pu (.bl false)) fun d291 => pu (.rt d291)) fun ρ290 => pu (.nx ρ290)) else (pu (.nx ρ277))) fun ρ278 => sq (bnd (bnd (bnd (bnd (rdV ρ278 5) fun d295 => isX (fun x => exs.lookup x) "ValueError" d295) trM) fun k294 => pu (!k294)) fun k293 => if k293 then (sq (bnd (pu (.bl false)) fun d297 => pu (.rt d297)) fun ρ296 => pu (.nx ρ296)) else (pu (.nx ρ278))) fun ρ292 => pu (.nx ρ292)) s276 (.nx ρ274)) loopEnd) fun ρ275 => sq (bnd (bnd (bnd (aL [callM (call "_law_held") (aL [rdV ρ275 3])]) fun ds => callB false .repr ds) fun x300 => bnd (bnd (aL [bnd (bnd (aL [rdV ρ275 2]) fun ds => mkL false ds) fun x302 => bnd (pu (.int (14))) fun y303 => binOp false .Mult x302 y303]) fun ds => callB false .repr ds) fun y301 => bnd (cmpOp .NotEq x300 y301) asB) fun k299 => if k299 then (sq (bnd (pu (.bl false)) fun d305 => pu (.rt d305)) fun ρ304 => pu (.nx ρ304)) else (pu (.nx ρ275))) fun ρ298 => pu (.nx ρ298)) s273 (.nx ρ271)) loopEnd) fun ρ272 => pu (.nx ρ272)) s269 (.nx ρ)) loopEnd) fun ρ268 => sq (bnd (pu (.bl true)) fun d307 => pu (.rt d307)) fun ρ306 => pu (.nx ρ306)
def s_law (call : Cl) (a0 : D) : M D := fin (b_law call [some a0, none, none, none, none, none, none])
theorem e_law (k : Nat) (a0 : D) : runDf (P.gx (k + 1) (callK P (k + 1))) df_law [a0] [] = s_law (callK P (k + 1)) a0 := by kernel_rfl
theorem c_law (k : Nat) : callK P (k + 2) "law" = some (runDf (P.gx (k + 1) (callK P (k + 1))) df_law) := rfl
end L92
namespace L92
open PySem Ev2 M
local macro_rules | `(tactic| walk_at "RUN") => `(tactic| try simp only [wi_fin, wi_sq, wi_bnd, wi_pu, rdV0, rdVs, wi_callM, wi_aL_cons, wi_aL_nil, wi_asgN, wi_if, wi_asB, wi_add, wi_sub, wi_lt, wi_le, wi_gt, wi_ge, wi_iterVal, srcOf_tup, srcOf_lst, srcOf_rol, wipeE, ixD_dct, ixD_tup, ixD_lst, ixD_rol, ixD_ref, ixD_dref, loopEnd_nx, loopEnd_rt, List.set_cons_succ, List.set_cons_zero, decide_true, decide_false, Bool.false_eq_true, if_true, if_false, wi_trB, kt_k, neg_int, wi_aX_nil, wi_aX_f, wi_aX_t, wi_sqT, wi_sqL, wi_aK_nil, wi_aK_cons, wi_callKw, wi_isB, wi_isNB, wi_part, mkD_frz, partD_int, Bool.not_true, Bool.not_false, c__law_hand, c__law_take, c__law_of, c__law_any, c__law_by_place, c__law_by_name, c__law_marks, c__law_held, c_law, e__law_hand, e__law_take, e__law_of, e__law_any, e__law_by_place, e__law_by_name, e__law_marks, e__law_held, e_law])
local macro_rules | `(tactic| walk_at "RUNB") => `(tactic| try simp only [wi_fin, wi_sq, wi_bnd, wi_pu, rdV0, rdVs, wi_callM, wi_aL_cons, wi_aL_nil, wi_asgN, wi_asB, wi_add, wi_sub, wi_lt, wi_le, wi_gt, wi_ge, wi_iterVal, srcOf_tup, srcOf_lst, srcOf_rol, wipeE, ixD_dct, ixD_tup, ixD_lst, ixD_rol, ixD_ref, ixD_dref, loopEnd_nx, loopEnd_rt, List.set_cons_succ, List.set_cons_zero, decide_true, decide_false, Bool.false_eq_true, if_true, if_false, wi_trB, kt_k, neg_int, wi_aX_nil, wi_aX_f, wi_aX_t, wi_sqT, wi_sqL, wi_aK_nil, wi_aK_cons, wi_callKw, wi_isB, wi_isNB, wi_part, mkD_frz, partD_int, Bool.not_true, Bool.not_false, wi_ifF, wi_ifD, c__law_hand, c__law_take, c__law_of, c__law_any, c__law_by_place, c__law_by_name, c__law_marks, c__law_held, c_law, e__law_hand, e__law_take, e__law_of, e__law_any, e__law_by_place, e__law_by_name, e__law_marks, e__law_held, e_law])


theorem take_wp {S : Store} {i n : Nat} {m : Int} {Q : D → Store → Prop} (h : Hd S i n) (hn : n < 2 ^ 40) (h0 : 0 < m) (hm : m < 2 ^ 40)
    (q : ∀ d S1, 0 ≤ d → d < m → Fr i S S1 → Hd S1 i (n + 1) → S1.length = S.length → Q (.int d) S1) : wp (s__law_take (.ref i) (.int m)) Q S := by
  obtain ⟨a, b, c, hl, a0, a1, b0, b1, c0, c1⟩ := h.ex
  have i0 : ∀ Q, wp (ixOp (.ref i) (.int 0)) Q S ↔ Q (.int a) S := fun Q => wp_known (ixOp_ref hl rfl)
  have i2 : ∀ Q, wp (ixOp (.ref i) (.int 2)) Q S ↔ Q (.int c) S := fun Q => wp_known (ixOp_ref hl rfl)
  unfold s__law_take b__law_take
  (try simp only [wi_fin, wi_sq, wi_bnd, wi_pu, rdV0, rdVs, wi_callM, wi_aL_cons, wi_aL_nil, wi_asgN, wi_if, wi_asB, wi_add, wi_sub, wi_lt, wi_le, wi_gt, wi_ge, wi_iterVal, srcOf_tup, srcOf_lst, srcOf_rol, wipeE, ixD_dct, ixD_tup, ixD_lst, ixD_rol, ixD_ref, ixD_dref, loopEnd_nx, loopEnd_rt, List.set_cons_succ, List.set_cons_zero, decide_true, decide_false, Bool.false_eq_true, if_true, if_false, wi_trB, kt_k, neg_int, wi_aX_nil, wi_aX_f, wi_aX_t, wi_sqT, wi_sqL, wi_aK_nil, wi_aK_cons, wi_callKw, wi_isB, wi_isNB, wi_part, mkD_frz, partD_int, Bool.not_true, Bool.not_false, c__law_hand, c__law_take, c__law_of, c__law_any, c__law_by_place, c__law_by_name, c__law_marks, c__law_held, c_law, e__law_hand, e__law_take, e__law_of, e__law_any, e__law_by_place, e__law_by_name, e__law_marks, e__law_held, e_law, i0, i2])
  have bm : Bd m 40 := .of (by omega) hm
  by_cases ha : 0 < a
  · simp only [ha, decide_true, if_true]
    refine wp_modB h0 fun m0 m1 => ?_
    (try simp only [wi_fin, wi_sq, wi_bnd, wi_pu, rdV0, rdVs, wi_callM, wi_aL_cons, wi_aL_nil, wi_asgN, wi_if, wi_asB, wi_add, wi_sub, wi_lt, wi_le, wi_gt, wi_ge, wi_iterVal, srcOf_tup, srcOf_lst, srcOf_rol, wipeE, ixD_dct, ixD_tup, ixD_lst, ixD_rol, ixD_ref, ixD_dref, loopEnd_nx, loopEnd_rt, List.set_cons_succ, List.set_cons_zero, decide_true, decide_false, Bool.false_eq_true, if_true, if_false, wi_trB, kt_k, neg_int, wi_aX_nil, wi_aX_f, wi_aX_t, wi_sqT, wi_sqL, wi_aK_nil, wi_aK_cons, wi_callKw, wi_isB, wi_isNB, wi_part, mkD_frz, partD_int, Bool.not_true, Bool.not_false, c__law_hand, c__law_take, c__law_of, c__law_any, c__law_by_place, c__law_by_name, c__law_marks, c__law_held, c_law, e__law_hand, e__law_take, e__law_of, e__law_any, e__law_by_place, e__law_by_name, e__law_marks, e__law_held, e_law, i0])
    refine wp_divB h0 bm (by decide) ?_
    walk_at "RUN"
    have st := setItem_ref (k := 0) (v := .int (a / m)) hl (j := 0) rfl
    refine (wp_known st).mpr ?_
    walk_at "RUN"
    refine q _ _ m0 m1 .set ⟨a / m, b, c, lstAt_set_same hl, Int.ediv_nonneg a0 (Int.le_of_lt h0), ?_, b0, b1, c0, by omega⟩ (by simp)
    exact Int.lt_of_le_of_lt (Int.ediv_le_self m a0) a1
  · simp only [ha, decide_false, Bool.false_eq_true, if_false, wp_add]
    have st := setItem_ref (k := 2) (v := .int (c + 1)) hl (j := 2) rfl
    refine (wp_known st).mpr ?_ -- .
    generalize hS : S.set i (.lst ([D.int a, .int b, .int c].set 2 (.int (c + 1)))) = S1
    have hl1 : lstAt S1 i = some [.int a, .int b, .int (c + 1)] := by rw [← hS]; exact lstAt_set_same hl
    have i1 : ∀ Q, wp (ixOp (.ref i) (.int 1)) Q S1 ↔ Q (.int b) S1 := fun Q => wp_known (ixOp_ref hl1 rfl)
    have i2 : ∀ Q, wp (ixOp (.ref i) (.int 2)) Q S1 ↔ Q (.int (c + 1)) S1 := fun Q => wp_known (ixOp_ref hl1 rfl)
    walk_at "RUN"
    refine (wp_known (mkL_frz (fitsL (by simp)))).mpr ?_
    (try simp only [wi_fin, wi_sq, wi_bnd, wi_pu, rdV0, rdVs, wi_callM, wi_aL_cons, wi_aL_nil, wi_asgN, wi_if, wi_asB, wi_add, wi_sub, wi_lt, wi_le, wi_gt, wi_ge, wi_iterVal, srcOf_tup, srcOf_lst, srcOf_rol, wipeE, ixD_dct, ixD_tup, ixD_lst, ixD_rol, ixD_ref, ixD_dref, loopEnd_nx, loopEnd_rt, List.set_cons_succ, List.set_cons_zero, decide_true, decide_false, Bool.false_eq_true, if_true, if_false, wi_trB, kt_k, neg_int, wi_aX_nil, wi_aX_f, wi_aX_t, wi_sqT, wi_sqL, wi_aK_nil, wi_aK_cons, wi_callKw, wi_isB, wi_isNB, wi_part, mkD_frz, partD_int, Bool.not_true, Bool.not_false, c__law_hand, c__law_take, c__law_of, c__law_any, c__law_by_place, c__law_by_name, c__law_marks, c__law_held, c_law, e__law_hand, e__law_take, e__law_of, e__law_any, e__law_by_place, e__law_by_name, e__law_marks, e__law_held, e_law, i2])
    refine wp_modB (by decide) fun m0 m1 => ?_
    walk_at "RUN"
    have pr : ∃ p : Int, L2.atI [D.int 2147483647, D.int 2147483629, D.int 2147483587, D.int 2147483579, D.int 2147483563] ((c + 1) % 5) = some (.int p) ∧ 0 < p ∧ p < 2 ^ 31 := by
      have : (c + 1) % 5 = 0 ∨ (c + 1) % 5 = 1 ∨ (c + 1) % 5 = 2 ∨ (c + 1) % 5 = 3 ∨ (c + 1) % 5 = 4 := by omega
      rcases this with e | e | e | e | e <;> rw [e] <;> exact ⟨_, rfl, by decide, by decide⟩
    obtain ⟨p, hp, p0, p1⟩ := pr
    refine (wp_known (ixOp_seq (xs := [D.int 2147483647, D.int 2147483629, D.int 2147483587, D.int 2147483579, D.int 2147483563]) rfl hp)).mpr ?_
    (try simp only [wi_fin, wi_sq, wi_bnd, wi_pu, rdV0, rdVs, wi_callM, wi_aL_cons, wi_aL_nil, wi_asgN, wi_if, wi_asB, wi_add, wi_sub, wi_lt, wi_le, wi_gt, wi_ge, wi_iterVal, srcOf_tup, srcOf_lst, srcOf_rol, wipeE, ixD_dct, ixD_tup, ixD_lst, ixD_rol, ixD_ref, ixD_dref, loopEnd_nx, loopEnd_rt, List.set_cons_succ, List.set_cons_zero, decide_true, decide_false, Bool.false_eq_true, if_true, if_false, wi_trB, kt_k, neg_int, wi_aX_nil, wi_aX_f, wi_aX_t, wi_sqT, wi_sqL, wi_aK_nil, wi_aK_cons, wi_callKw, wi_isB, wi_isNB, wi_part, mkD_frz, partD_int, Bool.not_true, Bool.not_false, c__law_hand, c__law_take, c__law_of, c__law_any, c__law_by_place, c__law_by_name, c__law_marks, c__law_held, c_law, e__law_hand, e__law_take, e__law_of, e__law_any, e__law_by_place, e__law_by_name, e__law_marks, e__law_held, e_law, i1, i2])
    have bc : Bd (c + 1) 41 := .of (by omega) (by omega)
    refine wp_mulB (j := 17) (k := 41) (by decide) bc (by decide) fun b3 => ?_
    (try simp only [wi_fin, wi_sq, wi_bnd, wi_pu, rdV0, rdVs, wi_callM, wi_aL_cons, wi_aL_nil, wi_asgN, wi_if, wi_asB, wi_add, wi_sub, wi_lt, wi_le, wi_gt, wi_ge, wi_iterVal, srcOf_tup, srcOf_lst, srcOf_rol, wipeE, ixD_dct, ixD_tup, ixD_lst, ixD_rol, ixD_ref, ixD_dref, loopEnd_nx, loopEnd_rt, List.set_cons_succ, List.set_cons_zero, decide_true, decide_false, Bool.false_eq_true, if_true, if_false, wi_trB, kt_k, neg_int, wi_aX_nil, wi_aX_f, wi_aX_t, wi_sqT, wi_sqL, wi_aK_nil, wi_aK_cons, wi_callKw, wi_isB, wi_isNB, wi_part, mkD_frz, partD_int, Bool.not_true, Bool.not_false, c__law_hand, c__law_take, c__law_of, c__law_any, c__law_by_place, c__law_by_name, c__law_marks, c__law_held, c_law, e__law_hand, e__law_take, e__law_of, e__law_any, e__law_by_place, e__law_by_name, e__law_marks, e__law_held, e_law, i2])
    refine wp_mulB b3 bc (by decide) fun b4 => ?_
    walk_at "RUN"
    have bb : Bd b 99 := Bd.mono (.of b0 b1) (by decide)
    have b5 : Bd (b + 65537 * (c + 1) * (c + 1) + 43) 101 := Bd.add (Bd.add bb b4) (by decide)
    refine wp_powB (n := 3) b5 (by decide) (by decide) ?_
    walk_at "RUN"
    refine wp_modB p0 fun x0 x1 => ?_
    walk_at "RUN"
    generalize (b + 65537 * (c + 1) * (c + 1) + 43) ^ 3 % p = x at x0 x1 ⊢
    have bx : Bd x 31 := .of x0 (by omega)
    (try simp only [wi_fin, wi_sq, wi_bnd, wi_pu, rdV0, rdVs, wi_callM, wi_aL_cons, wi_aL_nil, wi_asgN, wi_if, wi_asB, wi_add, wi_sub, wi_lt, wi_le, wi_gt, wi_ge, wi_iterVal, srcOf_tup, srcOf_lst, srcOf_rol, wipeE, ixD_dct, ixD_tup, ixD_lst, ixD_rol, ixD_ref, ixD_dref, loopEnd_nx, loopEnd_rt, List.set_cons_succ, List.set_cons_zero, decide_true, decide_false, Bool.false_eq_true, if_true, if_false, wi_trB, kt_k, neg_int, wi_aX_nil, wi_aX_f, wi_aX_t, wi_sqT, wi_sqL, wi_aK_nil, wi_aK_cons, wi_callKw, wi_isB, wi_isNB, wi_part, mkD_frz, partD_int, Bool.not_true, Bool.not_false, c__law_hand, c__law_take, c__law_of, c__law_any, c__law_by_place, c__law_by_name, c__law_marks, c__law_held, c_law, e__law_hand, e__law_take, e__law_of, e__law_any, e__law_by_place, e__law_by_name, e__law_marks, e__law_held, e_law, i1, i2])
    refine wp_modB (by decide) fun y0 y1 => ?_
    (try simp only [wi_fin, wi_sq, wi_bnd, wi_pu, rdV0, rdVs, wi_callM, wi_aL_cons, wi_aL_nil, wi_asgN, wi_if, wi_asB, wi_add, wi_sub, wi_lt, wi_le, wi_gt, wi_ge, wi_iterVal, srcOf_tup, srcOf_lst, srcOf_rol, wipeE, ixD_dct, ixD_tup, ixD_lst, ixD_rol, ixD_ref, ixD_dref, loopEnd_nx, loopEnd_rt, List.set_cons_succ, List.set_cons_zero, decide_true, decide_false, Bool.false_eq_true, if_true, if_false, wi_trB, kt_k, neg_int, wi_aX_nil, wi_aX_f, wi_aX_t, wi_sqT, wi_sqL, wi_aK_nil, wi_aK_cons, wi_callKw, wi_isB, wi_isNB, wi_part, mkD_frz, partD_int, Bool.not_true, Bool.not_false, c__law_hand, c__law_take, c__law_of, c__law_any, c__law_by_place, c__law_by_name, c__law_marks, c__law_held, c_law, e__law_hand, e__law_take, e__law_of, e__law_any, e__law_by_place, e__law_by_name, e__law_marks, e__law_held, e_law, i2])
    refine wp_mulB (j := 7) (k := 41) (by decide) bc (by decide) fun b6 => ?_
    walk_at "RUN"
    have b7 : Bd (x % 10007 + 83 * (c + 1)) 49 := Bd.add (Bd.mod (by decide) (by decide)) b6
    refine wp_mulB bx b7 (by decide) fun b8 => ?_
    walk_at "RUN"
    refine wp_modB (by decide) fun z0 z1 => ?_
    walk_at "RUN"
    refine wp_divB (k := 7) (by decide) (by decide) (by decide) ?_
    walk_at "RUN"
    refine wp_modB h0 fun d0 d1 => ?_
    walk_at "RUN"
    refine q _ _ d0 d1 (hS ▸ .set) ⟨a, b, c + 1, hl1, a0, a1, b0, b1, by omega, by omega⟩ (by rw [← hS]; simp)


theorem of_wp {k : Nat} {S : Store} {i n : Nat} {a : D} {xs : List D} {Q : D → Store → Prop} (h : Hd S i n) (hn : n < 2 ^ 40) (ha : ∀ S, seqOf S a = some xs) (h0 : 0 < xs.length) (hm : xs.length < 2 ^ 30)
    (q : ∀ d S1, d ∈ xs → Fr i S S1 → Hd S1 i (n + 1) → S1.length = S.length → Q d S1) : wp (s__law_of (callK P (k + 2)) (.ref i) a) Q S := by
  unfold s__law_of b__law_of
  walk_at "RUN"
  refine (wp_known (len_seq (ha _))).mpr ?_
  walk_at "RUN"
  refine take_wp h hn (by omega) (by omega) fun d S1 d0 d1 fr hd hl => ?_
  walk_at "RUN"
  obtain ⟨x, hx, hm⟩ := atI_in d0 d1
  rw [ixD_seq (ha S1)]
  refine (wp_known (ixOp_seq (ha _) hx)).mpr ?_
  walk_at "RUN"
  exact q x S1 hm fr hd hl

theorem hand_wp {S : Store} {ns : List Int} {k : Nat} {Q : D → Store → Prop} (hk : k < 100) (q : ∀ S1, Hd S1 S.length 0 → Fr S.length S S1 → Q (.ref S.length) S1) : wp (s__law_hand (.rol (ns.map D.int)) (.int k)) Q S := by
  unfold s__law_hand b__law_hand
  walk_at "RUN"
  refine (wp_known (len_seq (xs := ns.map D.int) rfl)).mpr ?_
  walk_at "RUN"
  have bk : Bd (k : Int) 7 := .of (by omega) (by omega)
  split
  · next hlt =>
    have hlt : k < ns.length := by simpa using hlt
    refine (wp_known (ixOp_seq (xs := ns.map D.int) (d := .int ns[k]) rfl (L2.atI_nat (by simp [hlt])))).mpr ?_
    walk_at "RUN"
    generalize ns[k] = cell
    walk_at "RUN"
    refine (wp_known (S1 := S) (a := D.int (if cell < 0 then -cell else cell)) rfl).mpr ?_
    walk_at "RUN"
    generalize hc : (if cell < 0 then -cell else cell) = ac
    refine wp_powB (k := 4) (n := 60) (by decide) (by decide) (by decide) ?_
    walk_at "RUN"
    refine wp_powB (k := 200) (n := 5) (by decide) (by decide) (by decide) ?_
    walk_at "RUN"
    refine wp_modB (by decide) fun u0 u1 => ?_
    walk_at "RUN"
    refine (wp_known (S1 := S) (a := D.int (if cell < 0 then -cell else cell)) rfl).mpr ?_
    walk_at "RUN"
    rw [hc]
    refine wp_powB (k := 4) (n := 18) (by decide) (by decide) (by decide) ?_
    walk_at "RUN"
    refine (wp_known (S1 := S) (a := D.int (if decide (10 ^ 18 ≤ ac) then 1 else 0)) rfl).mpr ?_
    walk_at "RUN"
    have hu : ∃ own : Int, ac % (10 ^ 60) ^ 5 * (if decide ((10 : Int) ^ 18 ≤ ac) then 1 else 0) = own ∧ 0 ≤ own ∧ own < 2 ^ 1100 := by
      refine ⟨_, rfl, ?_, ?_⟩
      · split <;> simp <;> exact u0
      · split
        · rw [Int.mul_one]; exact Int.lt_trans u1 (by decide)
        · rw [Int.mul_zero]; decide
    obtain ⟨own, ho, o0, o1⟩ := hu
    refine wp_mulB (j := 1000) (k := 1) (Bd.mod (by decide) (by decide)) (by split <;> decide) (by decide) fun _ => ?_
    walk_at "RUN"
    rw [ho]
    walk_at "RUN"
    refine wp_modB (by decide) fun v0 v1 => ?_
    walk_at "RUN"
    refine wp_mulB (j := 61) (k := 16) (Bd.mod (by decide) (by decide)) (by decide) (by decide) fun _ => ?_
    walk_at "RUN"
    refine wp_mulB (j := 13) (by decide) bk (by decide) fun b1 => ?_
    walk_at "RUN"
    refine wp_mulB b1 bk (by decide) fun _ => ?_
    walk_at "RUN"
    refine wp_modB (by decide) fun w0 w1 => ?_
    walk_at "RUN"
    refine (wp_known (mkL_new (fitsL (by simp)))).mpr ?_
    walk_at "RUN"
    exact q _ ⟨_, _, _, lstAt_new, o0, o1, w0, by omega, by decide, by decide⟩ .new
  · next hlt =>
    refine wp_mulB (j := 7) (by decide) bk (by decide) fun _ => ?_
    walk_at "RUN"
    generalize (19 * (k : Int) + 6) = cell
    walk_at "RUN"
    refine (wp_known (S1 := S) (a := D.int (if cell < 0 then -cell else cell)) rfl).mpr ?_
    walk_at "RUN"
    generalize hc : (if cell < 0 then -cell else cell) = ac
    refine wp_powB (k := 4) (n := 60) (by decide) (by decide) (by decide) ?_
    walk_at "RUN"
    refine wp_powB (k := 200) (n := 5) (by decide) (by decide) (by decide) ?_
    walk_at "RUN"
    refine wp_modB (by decide) fun u0 u1 => ?_
    walk_at "RUN"
    refine (wp_known (S1 := S) (a := D.int (if cell < 0 then -cell else cell)) rfl).mpr ?_
    walk_at "RUN"
    rw [hc]
    refine wp_powB (k := 4) (n := 18) (by decide) (by decide) (by decide) ?_
    walk_at "RUN"
    refine (wp_known (S1 := S) (a := D.int (if decide (10 ^ 18 ≤ ac) then 1 else 0)) rfl).mpr ?_
    walk_at "RUN"
    have hu : ∃ own : Int, ac % (10 ^ 60) ^ 5 * (if decide ((10 : Int) ^ 18 ≤ ac) then 1 else 0) = own ∧ 0 ≤ own ∧ own < 2 ^ 1100 := by
      refine ⟨_, rfl, ?_, ?_⟩
      · split <;> simp <;> exact u0
      · split
        · rw [Int.mul_one]; exact Int.lt_trans u1 (by decide)
        · rw [Int.mul_zero]; decide
    obtain ⟨own, ho, o0, o1⟩ := hu
    refine wp_mulB (j := 1000) (k := 1) (Bd.mod (by decide) (by decide)) (by split <;> decide) (by decide) fun _ => ?_
    walk_at "RUN"
    rw [ho]
    walk_at "RUN"
    refine wp_modB (by decide) fun v0 v1 => ?_
    walk_at "RUN"
    refine wp_mulB (j := 61) (k := 16) (Bd.mod (by decide) (by decide)) (by decide) (by decide) fun _ => ?_
    walk_at "RUN"
    refine wp_mulB (j := 13) (by decide) bk (by decide) fun b1 => ?_
    walk_at "RUN"
    refine wp_mulB b1 bk (by decide) fun _ => ?_
    walk_at "RUN"
    refine wp_modB (by decide) fun w0 w1 => ?_
    walk_at "RUN"
    refine (wp_known (mkL_new (fitsL (by simp)))).mpr ?_
    walk_at "RUN"
    exact q _ ⟨_, _, _, lstAt_new, o0, o1, w0, by omega, by decide, by decide⟩ .new
end L92
namespace L92
open PySem Ev2 M
local macro_rules | `(tactic| walk_at "RUN") => `(tactic| try simp only [wi_fin, wi_sq, wi_bnd, wi_pu, rdV0, rdVs, wi_callM, wi_aL_cons, wi_aL_nil, wi_asgN, wi_if, wi_asB, wi_add, wi_sub, wi_lt, wi_le, wi_gt, wi_ge, wi_iterVal, srcOf_tup, srcOf_lst, srcOf_rol, wipeE, ixD_dct, ixD_tup, ixD_lst, ixD_rol, ixD_ref, ixD_dref, loopEnd_nx, loopEnd_rt, List.set_cons_succ, List.set_cons_zero, decide_true, decide_false, Bool.false_eq_true, if_true, if_false, wi_trB, kt_k, neg_int, wi_aX_nil, wi_aX_f, wi_aX_t, wi_sqT, wi_sqL, wi_aK_nil, wi_aK_cons, wi_callKw, wi_isB, wi_isNB, wi_part, mkD_frz, partD_int, Bool.not_true, Bool.not_false, c__law_hand, c__law_take, c__law_of, c__law_any, c__law_by_place, c__law_by_name, c__law_marks, c__law_held, c_law, e__law_hand, e__law_take, e__law_of, e__law_any, e__law_by_place, e__law_by_name, e__law_marks, e__law_held, e_law])
local macro_rules | `(tactic| walk_at "RUNB") => `(tactic| try simp only [wi_fin, wi_sq, wi_bnd, wi_pu, rdV0, rdVs, wi_callM, wi_aL_cons, wi_aL_nil, wi_asgN, wi_asB, wi_add, wi_sub, wi_lt, wi_le, wi_gt, wi_ge, wi_iterVal, srcOf_tup, srcOf_lst, srcOf_rol, wipeE, ixD_dct, ixD_tup, ixD_lst, ixD_rol, ixD_ref, ixD_dref, loopEnd_nx, loopEnd_rt, List.set_cons_succ, List.set_cons_zero, decide_true, decide_false, Bool.false_eq_true, if_true, if_false, wi_trB, kt_k, neg_int, wi_aX_nil, wi_aX_f, wi_aX_t, wi_sqT, wi_sqL, wi_aK_nil, wi_aK_cons, wi_callKw, wi_isB, wi_isNB, wi_part, mkD_frz, partD_int, Bool.not_true, Bool.not_false, wi_ifF, wi_ifD, c__law_hand, c__law_take, c__law_of, c__law_any, c__law_by_place, c__law_by_name, c__law_marks, c__law_held, c_law, e__law_hand, e__law_take, e__law_of, e__law_any, e__law_by_place, e__law_by_name, e__law_marks, e__law_held, e_law])
theorem any_wp {k : Nat} {S : Store} {i n : Nat} {Q : D → Store → Prop} (h : Hd S i n) (hn : n + 40 < 2 ^ 40)
    (q : ∀ d S1, Dat 40000 11 d → Fr i S S1 → Hd S1 i (n + 11) → S1.length = S.length → Q d S1) : wp (s__law_any (callK P (k + 3)) (.ref i)) Q S := by
  unfold s__law_any b__law_any
  walk_at "RUNB"
  refine wp_powB (k := 4) (n := 20) (by decide) (by decide) (by decide) ?_
  walk_at "RUNB"
  refine (wp_known (mkL_frz (fitsL (by simp)))).mpr ?_
  walk_at "RUNB"
  refine (wp_known (mkT_ok (fitsL (by simp)))).mpr ?_
  walk_at "RUNB"
  refine (wp_known (mkL_frz (fitsL (by simp)))).mpr ?_
  walk_at "RUNB"
  refine (wp_known (mkT_ok (fitsL (by simp)))).mpr ?_
  walk_at "RUNB"
  refine (wp_known (mkL_frz (fitsL (by simp)))).mpr ?_
  walk_at "RUNB"
  refine (wp_known (mkT_ok (fitsL (by simp)))).mpr ?_
  walk_at "RUNB"
  refine (wp_known (mulT_run (k := 4) (by simp) (by decide) (by decide) (by simp))).mpr ?_
  walk_at "RUNB"
  refine (wp_known (mkT_ok (fitsL (by simp)))).mpr ?_
  walk_at "RUNB"
  refine (wp_known (mkT_ok (fitsL (by simp)))).mpr ?_
  walk_at "RUNB"
  refine (wp_known (mkT_ok (fitsL (by simp)))).mpr ?_
  walk_at "RUNB"
  refine (wp_known (mkL_frz (fitsL (by simp)))).mpr ?_
  walk_at "RUNB"
  refine (wp_known (add_lst_lst.trans (mkL_frz (fitsL (by simp))))).mpr ?_
  walk_at "RUNB"
  refine of_wp (xs := any24) h (by omega) (fun _ => rfl) (by decide) (by decide) fun d S1 hd f1 h1 l1 => ?_
  walk_at "RUNB"
  refine (wp_known (mkL_frz (fitsL (by simp)))).mpr ?_
  walk_at "RUNB"
  refine of_wp (xs := [.int 0, .int 0, .int 0, .int 1, .int 2, .int 9]) h1 (by omega) (fun _ => rfl) (by decide) (by decide) fun e S2 he f2 h2 l2 => ?_
  walk_at "RUNB"
  obtain ⟨c, rfl, hc⟩ := mem6 he
  refine (wp_known (range_run (by omega))).mpr ?_
  walk_at "RUNB"
  refine wp_loop (fun j ρ S' => ∃ a d t, ρ = [some (.ref i), a, some d, t] ∧ Dat (fB j) (j + 2) d ∧ Fr i S S' ∧ Hd S' i (n + 2 + j) ∧ S'.length = S.length) ⟨_, d, _, rfl, any24_dat d hd, f1.trans f2, h2, l2.trans l1⟩ ?_ ?_
  · rintro j d ρ S3 hj ⟨a, d, t, rfl, g1, g2, g3, g4⟩
    obtain ⟨hlt, rfl⟩ := upTo_at hj
    refine wp_lpN ?_
    walk_at "RUNB"
    refine (wp_known (mkT_ok (fitsL (by simp)))).mpr ?_
    walk_at "RUNB"
    refine (wp_known (mkL_frz (fitsL (by simp)))).mpr ?_
    walk_at "RUNB"
    refine (wp_known (mkT_ok (fitsL (by simp)))).mpr ?_
    walk_at "RUNB"
    refine (wp_known (mkT_ok (fitsL (by simp)))).mpr ?_
    walk_at "RUNB"
    refine (wp_known (mkL_frz (fitsL (by simp)))).mpr ?_
    walk_at "RUNB"
    refine of_wp (xs := [.tup [d], .lst [d], .dct ["a"] [d], .tup [d, .str "a"], .tup [.str "a", d]]) g3 (by omega) (fun _ => rfl) (by simp) (by simp) fun e S4 he f4 h4 l4 => ?_
    walk_at "RUNB"
    exact ⟨_, rfl, _, _, _, rfl, wraps g1 e he, g2.trans f4, h4.mono (by omega), l4.trans g4⟩
  · rintro ρ S3 ⟨a, d, t, rfl, g1, g2, g3, g4⟩
    rw [upTo_len] at g1 g3
    walk_at "RUNB"
    have hf : ∀ c : Nat, c ≤ 9 → fB c ≤ 40000 := by decide
    exact q d S3 (g1.mono (hf c hc) (by omega)) g2 (g3.mono (by omega)) g4
end L92
namespace L92
open PySem Ev2 M
local macro_rules | `(tactic| walk_at "RUN") => `(tactic| try simp only [wi_fin, wi_sq, wi_bnd, wi_pu, rdV0, rdVs, wi_callM, wi_aL_cons, wi_aL_nil, wi_asgN, wi_if, wi_asB, wi_add, wi_sub, wi_lt, wi_le, wi_gt, wi_ge, wi_iterVal, srcOf_tup, srcOf_lst, srcOf_rol, wipeE, ixD_dct, ixD_tup, ixD_lst, ixD_rol, ixD_ref, ixD_dref, loopEnd_nx, loopEnd_rt, List.set_cons_succ, List.set_cons_zero, decide_true, decide_false, Bool.false_eq_true, if_true, if_false, wi_trB, kt_k, neg_int, wi_aX_nil, wi_aX_f, wi_aX_t, wi_sqT, wi_sqL, wi_aK_nil, wi_aK_cons, wi_callKw, wi_isB, wi_isNB, wi_part, mkD_frz, partD_int, Bool.not_true, Bool.not_false, c__law_hand, c__law_take, c__law_of, c__law_any, c__law_by_place, c__law_by_name, c__law_marks, c__law_held, c_law, e__law_hand, e__law_take, e__law_of, e__law_any, e__law_by_place, e__law_by_name, e__law_marks, e__law_held, e_law])
local macro_rules | `(tactic| walk_at "RUNB") => `(tactic| try simp only [wi_fin, wi_sq, wi_bnd, wi_pu, rdV0, rdVs, wi_callM, wi_aL_cons, wi_aL_nil, wi_asgN, wi_asB, wi_add, wi_sub, wi_lt, wi_le, wi_gt, wi_ge, wi_iterVal, srcOf_tup, srcOf_lst, srcOf_rol, wipeE, ixD_dct, ixD_tup, ixD_lst, ixD_rol, ixD_ref, ixD_dref, loopEnd_nx, loopEnd_rt, List.set_cons_succ, List.set_cons_zero, decide_true, decide_false, Bool.false_eq_true, if_true, if_false, wi_trB, kt_k, neg_int, wi_aX_nil, wi_aX_f, wi_aX_t, wi_sqT, wi_sqL, wi_aK_nil, wi_aK_cons, wi_callKw, wi_isB, wi_isNB, wi_part, mkD_frz, partD_int, Bool.not_true, Bool.not_false, wi_ifF, wi_ifD, c__law_hand, c__law_take, c__law_of, c__law_any, c__law_by_place, c__law_by_name, c__law_marks, c__law_held, c_law, e__law_hand, e__law_take, e__law_of, e__law_any, e__law_by_place, e__law_by_name, e__law_marks, e__law_held, e_law])
def errs (d : D) : List D := [.err "NoEntry" ["path"] [d], .err "BadMove" ["move"] [d], .err "BadWord" ["word"] [d], .err "BadKind" ["kind"] [d], .err "BadRow" ["row"] [d], .err "NotPossible" ["row"] [d], .err "BadReactions" ["reactions"] [d],
  .err "BadMerges" ["merges"] [d], .err "BadPrices" ["prices"] [d], .err "BadTable" ["value"] [d], .err "BadTree" ["value"] [d], .err "BadHistory" ["value"] [d], .err "BadText" ["row"] [d], .err "BadLine" ["line"] [d], .err "NothingToUndo" [] [], .err "NoTool" [] []]
def own (j : Nat) : List D := (List.range 16).map fun i => .bl (decide (i = j))
theorem place_run {d : D} {S : Store} : s__law_by_place d S = .ok (.lst (errs d)) S := by kernel_rfl
theorem name_run {d : D} {S : Store} : s__law_by_name d S = .ok (.lst (errs d)) S := by kernel_rfl
theorem held_run {d : D} {S : Store} : s__law_held (.lst (errs d)) S = .ok (.lst (List.replicate 14 [d]).flatten) S := by kernel_rfl
theorem marks_run {d : D} {S : Store} : ∀ j < 16, ∃ x, (errs d)[j]? = some x ∧ s__law_marks x S = .ok (.lst (own j)) S ∧ isX (fun x => exs.lookup x) "MirrorError" x S = .ok (.bl true) S ∧ isX (fun x => exs.lookup x) "ValueError" x S = .ok (.bl true) S ∧ cmpOp .NotEq (.lst (own j)) (.lst (own j)) S = .ok (.bl false) S := by
  intro j hj
  have h : j = 0 ∨ j = 1 ∨ j = 2 ∨ j = 3 ∨ j = 4 ∨ j = 5 ∨ j = 6 ∨ j = 7 ∨ j = 8 ∨ j = 9 ∨ j = 10 ∨ j = 11 ∨ j = 12 ∨ j = 13 ∨ j = 14 ∨ j = 15 := by omega
  rcases h with rfl | rfl | rfl | rfl | rfl | rfl | rfl | rfl | rfl | rfl | rfl | rfl | rfl | rfl | rfl | rfl <;> exact ⟨_, rfl, by kernel_rfl, by kernel_rfl, by kernel_rfl, by kernel_rfl⟩
theorem spots_run {j : Nat} {S : Store} {r0 r1 r2 r3 r5 r6 : Option D} (hj : j < 16) : goVals (cmB (setN 6) [6] (fun _ => pu true) (fun ρ => bnd (rdV ρ 6) fun x => bnd (rdV ρ 4) fun y => cmpOp .Eq x y) [r0, r1, r2, r3, some (.int j), r5, r6]) (upTo 16) [] S = .ok (own j) S := by
  have h : j = 0 ∨ j = 1 ∨ j = 2 ∨ j = 3 ∨ j = 4 ∨ j = 5 ∨ j = 6 ∨ j = 7 ∨ j = 8 ∨ j = 9 ∨ j = 10 ∨ j = 11 ∨ j = 12 ∨ j = 13 ∨ j = 14 ∨ j = 15 := by omega
  rcases h with rfl | rfl | rfl | rfl | rfl | rfl | rfl | rfl | rfl | rfl | rfl | rfl | rfl | rfl | rfl | rfl <;> kernel_rfl
theorem always : Always P 10 := by
  intro ns hl
  have main : wp (s_law (callK P 9) (.rol (ns.map D.int))) (fun d _ => d = .bl true) [] := by
    unfold s_law b_law
    walk_at "RUNB"
    refine (wp_known (len_seq (xs := ns.map D.int) rfl)).mpr ?_
    walk_at "RUNB"
    refine (wp_known min_run).mpr ?_
    walk_at "RUNB"
    refine (wp_known max_run).mpr ?_
    walk_at "RUNB"
    obtain ⟨c, hc, hc3⟩ := cells (m := 2) (n := (ns.map D.int).length) (by decide)
    rw [show ((2 : Nat) : Int) = 2 from rfl] at hc
    rw [hc]
    walk_at "RUNB"
    refine (wp_known (range_run (by omega))).mpr ?_
    walk_at "RUNB"
    refine wp_loop (fun j ρ S' => ∃ a1 a2 a3 a4 a5 a6, ρ = [some (.rol (ns.map D.int)), a1, a2, a3, a4, a5, a6]) ⟨_, _, _, _, _, _, rfl⟩ ?_ ?_
    · rintro j d ρ S1 hj ⟨a1, a2, a3, a4, a5, a6, rfl⟩
      obtain ⟨hlt, rfl⟩ := upTo_at hj
      refine wp_lpN ?_
      walk_at "RUNB"
      refine hand_wp (by omega) fun S2 h2 f2 => ?_
      walk_at "RUNB"
      refine any_wp h2 (by omega) fun d S3 dd f3 h3 l3 => ?_
      walk_at "RUNB"
      refine (wp_known place_run).mpr ?_
      walk_at "RUNB"
      refine (wp_known name_run).mpr ?_
      walk_at "RUNB"
      refine (wp_known (mkT_ok (fitsL (by simp)))).mpr ?_
      walk_at "RUNB"
      refine wp_loop (xs := [.lst (errs d), .lst (errs d)]) (fun _ ρ S' => ∃ a3 a4 a5 a6, ρ = [some (.rol (ns.map D.int)), some (.int j), some d, a3, a4, a5, a6]) ⟨_, _, _, _, rfl⟩ ?_ ?_
      · rintro j2 x ρ S4 hj2 ⟨a3, a4, a5, a6, rfl⟩
        have hx : x = .lst (errs d) := by
          have := List.mem_of_getElem? hj2
          simpa using this
        subst hx
        refine wp_lpN ?_
        walk_at "RUNB"
        refine (wp_known (a := Src.vals ((errs d).zipIdx.map fun p => D.tup [.int (p.2 : Nat), p.1])) (S1 := S4) rfl).mpr ?_
        walk_at "RUNB"
        refine wp_loop (fun _ ρ S' => ∃ a4 a5 a6, ρ = [some (.rol (ns.map D.int)), some (.int j), some d, some (.lst (errs d)), a4, a5, a6]) ⟨_, _, _, rfl⟩ ?_ ?_
        · rintro j3 y ρ S5 hj3 ⟨a4, a5, a6, rfl⟩
          obtain ⟨x, hx, rfl⟩ := enum_at hj3
          have hlt3 : j3 < 16 := (List.getElem?_eq_some_iff.mp hx).1
          obtain ⟨x', hx', m1, m2, m3, m4⟩ := marks_run (d := d) (S := S5) j3 hlt3
          rw [hx] at hx'
          cases hx'
          refine wp_lpT rfl ?_
          walk_at "RUNB"
          refine (wp_known m1).mpr ?_
          walk_at "RUNB"
          refine (wp_known (range_run (n := 16) (by decide))).mpr ?_
          walk_at "RUNB"
          refine (wp_known (spots_run hlt3)).mpr ?_
          walk_at "RUNB"
          refine (wp_known (mkL_frz (fitsL (by simp [own])))).mpr ?_
          walk_at "RUNB"
          refine (wp_known m4).mpr ?_
          walk_at "RUNB"
          refine (wp_known m2).mpr ?_
          walk_at "RUNB"
          refine (wp_known m3).mpr ?_
          walk_at "RUNB"
          exact ⟨_, rfl, _, _, _, rfl⟩
        · rintro ρ S5 ⟨a4, a5, a6, rfl⟩
          walk_at "RUNB"
          refine (wp_known held_run).mpr ?_
          walk_at "RUNB"
          have dl : Dat 600000 12 (.lst (List.replicate 14 [d]).flatten) := (Dat.lst (n := 40000) (k := 11) (ds := (List.replicate 14 [d]).flatten) fun x hx => by
            have : x = d := by simpa using hx
            rw [this]
            exact dd).mono (by simp) (by decide)
          obtain ⟨t, ht⟩ := dl.rep (by decide) (by decide)
          refine (wp_known (ht _ _)).mpr ?_
          walk_at "RUNB"
          refine (wp_known (mkL_frz (fitsL (by simp)))).mpr ?_
          walk_at "RUNB"
          refine (wp_known (a := D.lst (List.replicate 14 [d]).flatten) (S1 := S5) (by kernel_rfl)).mpr ?_
          walk_at "RUNB"
          refine (wp_known (ht _ _)).mpr ?_
          walk_at "RUNB"
          refine (ne_same (x := .non)).mpr ?_
          walk_at "RUNB"
          exact ⟨_, rfl, _, _, _, _, rfl⟩
      · rintro ρ S4 ⟨a3, a4, a5, a6, rfl⟩
        walk_at "RUNB"
        exact ⟨_, rfl, _, _, _, _, _, _, rfl⟩
    · rintro ρ S1 ⟨a1, a2, a3, a4, a5, a6, rfl⟩
      walk_at "RUNB"
  obtain ⟨d, S1, e, rfl⟩ := main
  exact ⟨_, S1, c_law 8, by rw [e_law]; exact e⟩
end L92
open PySem PySem.W PyProof.Rows
set_option maxHeartbeats 0 in
theorem PySem.Challenge.cw_latemirror_k92_errors_made_by_hand_holds : PySem.Challenge.rw_latemirror_k92_errors_made_by_hand.Holds := by
  w_on; o_law; k_head; (case hw => w_witness2)
  k_fill
  refine Ev2.walk_g (l := PySem.Challenge.rw_latemirror_k92_errors_made_by_hand) (k := 10) (PR := L92.P) (df := L92.df_law) (x := "_law_script") rfl rfl ⟨rfl, by decide, by decide⟩ (fun w h Y => PySem.W.kIn_of Y) rfl rfl rfl (by rfl) ?F L92.always
  intro w mg h X G
  refine Ev2.top_mk ?cs ?bs ?ss ?ds ?es
  case cs =>
    exact .nil
  case bs =>
    refine .cons (PySem.W.mg_none_of X G (by k_is)) ?_
    refine .cons (PySem.W.mg_none_of X G (by k_is)) ?_
    refine .cons (PySem.W.mg_none_of X G (by k_is)) ?_
    refine .cons (PySem.W.mg_none_of X G (by k_is)) ?_
    refine .cons (PySem.W.mg_none_of X G (by k_is)) ?_
    refine .cons (PySem.W.mg_none_of X G (by k_is)) ?_
    refine .cons (PySem.W.mg_none_of X G (by k_is)) ?_
    refine .cons (PySem.W.mg_none_of X G (by k_is)) ?_
    refine .cons (PySem.W.mg_none_of X G (by k_is)) ?_
    refine .cons (PySem.W.mg_none_of X G (by k_is)) ?_
    exact .nil
  case ss =>
    refine .cons L92.sh__law_hand ?_ ?_
    · (refine' Ev2.at_mk X G ?a ?l ?c ?k); (case a => k_is); (case l => k_is); (case c => k_is); (case k => k_is)
    refine .cons L92.sh__law_take ?_ ?_
    · (refine' Ev2.at_mk X G ?a ?l ?c ?k); (case a => k_is); (case l => k_is); (case c => k_is); (case k => k_is)
    refine .cons L92.sh__law_of ?_ ?_
    · (refine' Ev2.at_mk X G ?a ?l ?c ?k); (case a => k_is); (case l => k_is); (case c => k_is); (case k => k_is)
    refine .cons L92.sh__law_any ?_ ?_
    · (refine' Ev2.at_mk X G ?a ?l ?c ?k); (case a => k_is); (case l => k_is); (case c => k_is); (case k => k_is)
    refine .cons L92.sh__law_by_place ?_ ?_
    · (refine' Ev2.at_mk X G ?a ?l ?c ?k); (case a => k_is); (case l => k_is); (case c => k_is); (case k => k_is)
    refine .cons L92.sh__law_by_name ?_ ?_
    · (refine' Ev2.at_mk X G ?a ?l ?c ?k); (case a => k_is); (case l => k_is); (case c => k_is); (case k => k_is)
    refine .cons L92.sh__law_marks ?_ ?_
    · (refine' Ev2.at_mk X G ?a ?l ?c ?k); (case a => k_is); (case l => k_is); (case c => k_is); (case k => k_is)
    refine .cons L92.sh__law_held ?_ ?_
    · (refine' Ev2.at_mk X G ?a ?l ?c ?k); (case a => k_is); (case l => k_is); (case c => k_is); (case k => k_is)
    refine .cons L92.sh_law ?_ ?_
    · (refine' Ev2.at_mk X G ?a ?l ?c ?k); (case a => k_is); (case l => k_is); (case c => k_is); (case k => k_is)
    exact .nil
  case ds =>
    exact .nil
  case es =>
    refine' .cons ?xb ?xm (by decide +kernel) ?xn (by decide +kernel) ?xp ?_
    case xb => (refine' Ev2.exb_mk X G ?xa ?xg1 ?xg2 ?xg3 ?xg4 ?xg5 ?xg6 ?xg7 ?xg8 ?xt ?xv); (case xa => k_is); (case xg1 => k_is); (case xg2 => k_is); (case xg3 => k_is); (case xg4 => k_is); (case xg5 => k_is); (case xg6 => k_is); (case xg7 => k_is); (case xg8 => k_is); (case xt => k_is); (case xv => k_is)
    case xn => exact fun f e => nomatch e
    case xm => exact fun e => nomatch e
    case xp =>
      refine' .cons ?xa ?xs ?xe ?_; (case xa => k_is); (case xs => k_is); (case xe => decide +kernel)
      refine' .cons ?xa ?xs ?xe ?_; (case xa => k_is); (case xs => k_is); (case xe => decide +kernel)
      refine' .cons ?xa ?xs ?xe ?_; (case xa => k_is); (case xs => k_is); (case xe => decide +kernel)
      refine' .cons ?xa ?xs ?xe ?_; (case xa => k_is); (case xs => k_is); (case xe => decide +kernel)
      refine' .cons ?xa ?xs ?xe ?_; (case xa => k_is); (case xs => k_is); (case xe => decide +kernel)
      refine' .cons ?xa ?xs ?xe ?_; (case xa => k_is); (case xs => k_is); (case xe => decide +kernel)
      refine' .cons ?xa ?xs ?xe ?_; (case xa => k_is); (case xs => k_is); (case xe => decide +kernel)
      refine' .cons ?xa ?xs ?xe ?_; (case xa => k_is); (case xs => k_is); (case xe => decide +kernel)
      refine' .cons ?xa ?xs ?xe ?_; (case xa => k_is); (case xs => k_is); (case xe => decide +kernel)
      refine' .cons ?xa ?xs ?xe ?_; (case xa => k_is); (case xs => k_is); (case xe => decide +kernel)
      refine' .cons ?xa ?xs ?xe ?_; (case xa => k_is); (case xs => k_is); (case xe => decide +kernel)
      refine' .cons ?xa ?xs ?xe ?_; (case xa => k_is); (case xs => k_is); (case xe => decide +kernel)
      refine' .cons ?xa ?xs ?xe ?_; (case xa => k_is); (case xs => k_is); (case xe => decide +kernel)
      refine' .cons ?xa ?xs ?xe ?_; (case xa => k_is); (case xs => k_is); (case xe => decide +kernel)
      refine' .cons ?xa ?xs ?xe ?_; (case xa => k_is); (case xs => k_is); (case xe => decide +kernel)
      refine' .cons ?xa ?xs ?xe ?_; (case xa => k_is); (case xs => k_is); (case xe => decide +kernel)
      refine' .cons ?xa ?xs ?xe ?_; (case xa => k_is); (case xs => k_is); (case xe => decide +kernel)
      exact .nil
    refine' .cons ?xb ?xm (by decide +kernel) ?xn (by decide +kernel) ?xp ?_
    case xb => (refine' Ev2.exb_mk X G ?xa ?xg1 ?xg2 ?xg3 ?xg4 ?xg5 ?xg6 ?xg7 ?xg8 ?xt ?xv); (case xa => k_is); (case xg1 => k_is); (case xg2 => k_is); (case xg3 => k_is); (case xg4 => k_is); (case xg5 => k_is); (case xg6 => k_is); (case xg7 => k_is); (case xg8 => k_is); (case xt => k_is); (case xv => k_is)
    case xn => exact fun f e => by cases e; k_is
    case xm =>
      intro _
      refine' Ev2.init_of L92.is_NoEntry ?xl ?xhb ?xsa ?xex ?xty ?xkc ?xi ?xt ?xno ?xlf ?xc ?xkf
      (case xl => k_is); (case xhb => decide +kernel); (case xsa => k_is); (case xex => k_is); (case xty => k_is); (case xkc => k_is); (case xi => k_is); (case xt => k_is); (case xno => k_is); (case xlf => k_is); (case xc => k_is); (case xkf => k_is)
    case xp =>
      refine' .cons ?xa ?xs ?xe ?_; (case xa => k_is); (case xs => k_is); (case xe => decide +kernel)
      refine' .cons ?xa ?xs ?xe ?_; (case xa => k_is); (case xs => k_is); (case xe => decide +kernel)
      refine' .cons ?xa ?xs ?xe ?_; (case xa => k_is); (case xs => k_is); (case xe => decide +kernel)
      refine' .cons ?xa ?xs ?xe ?_; (case xa => k_is); (case xs => k_is); (case xe => decide +kernel)
      refine' .cons ?xa ?xs ?xe ?_; (case xa => k_is); (case xs => k_is); (case xe => decide +kernel)
      refine' .cons ?xa ?xs ?xe ?_; (case xa => k_is); (case xs => k_is); (case xe => decide +kernel)
      refine' .cons ?xa ?xs ?xe ?_; (case xa => k_is); (case xs => k_is); (case xe => decide +kernel)
      refine' .cons ?xa ?xs ?xe ?_; (case xa => k_is); (case xs => k_is); (case xe => decide +kernel)
      refine' .cons ?xa ?xs ?xe ?_; (case xa => k_is); (case xs => k_is); (case xe => decide +kernel)
      refine' .cons ?xa ?xs ?xe ?_; (case xa => k_is); (case xs => k_is); (case xe => decide +kernel)
      refine' .cons ?xa ?xs ?xe ?_; (case xa => k_is); (case xs => k_is); (case xe => decide +kernel)
      refine' .cons ?xa ?xs ?xe ?_; (case xa => k_is); (case xs => k_is); (case xe => decide +kernel)
      refine' .cons ?xa ?xs ?xe ?_; (case xa => k_is); (case xs => k_is); (case xe => decide +kernel)
      refine' .cons ?xa ?xs ?xe ?_; (case xa => k_is); (case xs => k_is); (case xe => decide +kernel)
      refine' .cons ?xa ?xs ?xe ?_; (case xa => k_is); (case xs => k_is); (case xe => decide +kernel)
      refine' .cons ?xa ?xs ?xe ?_; (case xa => k_is); (case xs => k_is); (case xe => decide +kernel)
      refine' .cons ?xa ?xs ?xe ?_; (case xa => k_is); (case xs => k_is); (case xe => decide +kernel)
      exact .nil
    refine' .cons ?xb ?xm (by decide +kernel) ?xn (by decide +kernel) ?xp ?_
    case xb => (refine' Ev2.exb_mk X G ?xa ?xg1 ?xg2 ?xg3 ?xg4 ?xg5 ?xg6 ?xg7 ?xg8 ?xt ?xv); (case xa => k_is); (case xg1 => k_is); (case xg2 => k_is); (case xg3 => k_is); (case xg4 => k_is); (case xg5 => k_is); (case xg6 => k_is); (case xg7 => k_is); (case xg8 => k_is); (case xt => k_is); (case xv => k_is)
    case xn => exact fun f e => by cases e; k_is
    case xm =>
      intro _
      refine' Ev2.init_of L92.is_BadMove ?xl ?xhb ?xsa ?xex ?xty ?xkc ?xi ?xt ?xno ?xlf ?xc ?xkf
      (case xl => k_is); (case xhb => decide +kernel); (case xsa => k_is); (case xex => k_is); (case xty => k_is); (case xkc => k_is); (case xi => k_is); (case xt => k_is); (case xno => k_is); (case xlf => k_is); (case xc => k_is); (case xkf => k_is)
    case xp =>
      refine' .cons ?xa ?xs ?xe ?_; (case xa => k_is); (case xs => k_is); (case xe => decide +kernel)
      refine' .cons ?xa ?xs ?xe ?_; (case xa => k_is); (case xs => k_is); (case xe => decide +kernel)
      refine' .cons ?xa ?xs ?xe ?_; (case xa => k_is); (case xs => k_is); (case xe => decide +kernel)
      refine' .cons ?xa ?xs ?xe ?_; (case xa => k_is); (case xs => k_is); (case xe => decide +kernel)
      refine' .cons ?xa ?xs ?xe ?_; (case xa => k_is); (case xs => k_is); (case xe => decide +kernel)
      refine' .cons ?xa ?xs ?xe ?_; (case xa => k_is); (case xs => k_is); (case xe => decide +kernel)
      refine' .cons ?xa ?xs ?xe ?_; (case xa => k_is); (case xs => k_is); (case xe => decide +kernel)
      refine' .cons ?xa ?xs ?xe ?_; (case xa => k_is); (case xs => k_is); (case xe => decide +kernel)
      refine' .cons ?xa ?xs ?xe ?_; (case xa => k_is); (case xs => k_is); (case xe => decide +kernel)
      refine' .cons ?xa ?xs ?xe ?_; (case xa => k_is); (case xs => k_is); (case xe => decide +kernel)
      refine' .cons ?xa ?xs ?xe ?_; (case xa => k_is); (case xs => k_is); (case xe => decide +kernel)
      refine' .cons ?xa ?xs ?xe ?_; (case xa => k_is); (case xs => k_is); (case xe => decide +kernel)
      refine' .cons ?xa ?xs ?xe ?_; (case xa => k_is); (case xs => k_is); (case xe => decide +kernel)
      refine' .cons ?xa ?xs ?xe ?_; (case xa => k_is); (case xs => k_is); (case xe => decide +kernel)
      refine' .cons ?xa ?xs ?xe ?_; (case xa => k_is); (case xs => k_is); (case xe => decide +kernel)
      refine' .cons ?xa ?xs ?xe ?_; (case xa => k_is); (case xs => k_is); (case xe => decide +kernel)
      refine' .cons ?xa ?xs ?xe ?_; (case xa => k_is); (case xs => k_is); (case xe => decide +kernel)
      exact .nil
    refine' .cons ?xb ?xm (by decide +kernel) ?xn (by decide +kernel) ?xp ?_
    case xb => (refine' Ev2.exb_mk X G ?xa ?xg1 ?xg2 ?xg3 ?xg4 ?xg5 ?xg6 ?xg7 ?xg8 ?xt ?xv); (case xa => k_is); (case xg1 => k_is); (case xg2 => k_is); (case xg3 => k_is); (case xg4 => k_is); (case xg5 => k_is); (case xg6 => k_is); (case xg7 => k_is); (case xg8 => k_is); (case xt => k_is); (case xv => k_is)
    case xn => exact fun f e => by cases e; k_is
    case xm =>
      intro _
      refine' Ev2.init_of L92.is_BadWord ?xl ?xhb ?xsa ?xex ?xty ?xkc ?xi ?xt ?xno ?xlf ?xc ?xkf
      (case xl => k_is); (case xhb => decide +kernel); (case xsa => k_is); (case xex => k_is); (case xty => k_is); (case xkc => k_is); (case xi => k_is); (case xt => k_is); (case xno => k_is); (case xlf => k_is); (case xc => k_is); (case xkf => k_is)
    case xp =>
      refine' .cons ?xa ?xs ?xe ?_; (case xa => k_is); (case xs => k_is); (case xe => decide +kernel)
      refine' .cons ?xa ?xs ?xe ?_; (case xa => k_is); (case xs => k_is); (case xe => decide +kernel)
      refine' .cons ?xa ?xs ?xe ?_; (case xa => k_is); (case xs => k_is); (case xe => decide +kernel)
      refine' .cons ?xa ?xs ?xe ?_; (case xa => k_is); (case xs => k_is); (case xe => decide +kernel)
      refine' .cons ?xa ?xs ?xe ?_; (case xa => k_is); (case xs => k_is); (case xe => decide +kernel)
      refine' .cons ?xa ?xs ?xe ?_; (case xa => k_is); (case xs => k_is); (case xe => decide +kernel)
      refine' .cons ?xa ?xs ?xe ?_; (case xa => k_is); (case xs => k_is); (case xe => decide +kernel)
      refine' .cons ?xa ?xs ?xe ?_; (case xa => k_is); (case xs => k_is); (case xe => decide +kernel)
      refine' .cons ?xa ?xs ?xe ?_; (case xa => k_is); (case xs => k_is); (case xe => decide +kernel)
      refine' .cons ?xa ?xs ?xe ?_; (case xa => k_is); (case xs => k_is); (case xe => decide +kernel)
      refine' .cons ?xa ?xs ?xe ?_; (case xa => k_is); (case xs => k_is); (case xe => decide +kernel)
      refine' .cons ?xa ?xs ?xe ?_; (case xa => k_is); (case xs => k_is); (case xe => decide +kernel)
      refine' .cons ?xa ?xs ?xe ?_; (case xa => k_is); (case xs => k_is); (case xe => decide +kernel)
      refine' .cons ?xa ?xs ?xe ?_; (case xa => k_is); (case xs => k_is); (case xe => decide +kernel)
      refine' .cons ?xa ?xs ?xe ?_; (case xa => k_is); (case xs => k_is); (case xe => decide +kernel)
      refine' .cons ?xa ?xs ?xe ?_; (case xa => k_is); (case xs => k_is); (case xe => decide +kernel)
      refine' .cons ?xa ?xs ?xe ?_; (case xa => k_is); (case xs => k_is); (case xe => decide +kernel)
      exact .nil
    refine' .cons ?xb ?xm (by decide +kernel) ?xn (by decide +kernel) ?xp ?_
    case xb => (refine' Ev2.exb_mk X G ?xa ?xg1 ?xg2 ?xg3 ?xg4 ?xg5 ?xg6 ?xg7 ?xg8 ?xt ?xv); (case xa => k_is); (case xg1 => k_is); (case xg2 => k_is); (case xg3 => k_is); (case xg4 => k_is); (case xg5 => k_is); (case xg6 => k_is); (case xg7 => k_is); (case xg8 => k_is); (case xt => k_is); (case xv => k_is)
    case xn => exact fun f e => by cases e; k_is
    case xm =>
      intro _
      refine' Ev2.init_of L92.is_BadKind ?xl ?xhb ?xsa ?xex ?xty ?xkc ?xi ?xt ?xno ?xlf ?xc ?xkf
      (case xl => k_is); (case xhb => decide +kernel); (case xsa => k_is); (case xex => k_is); (case xty => k_is); (case xkc => k_is); (case xi => k_is); (case xt => k_is); (case xno => k_is); (case xlf => k_is); (case xc => k_is); (case xkf => k_is)
    case xp =>
      refine' .cons ?xa ?xs ?xe ?_; (case xa => k_is); (case xs => k_is); (case xe => decide +kernel)
      refine' .cons ?xa ?xs ?xe ?_; (case xa => k_is); (case xs => k_is); (case xe => decide +kernel)
      refine' .cons ?xa ?xs ?xe ?_; (case xa => k_is); (case xs => k_is); (case xe => decide +kernel)
      refine' .cons ?xa ?xs ?xe ?_; (case xa => k_is); (case xs => k_is); (case xe => decide +kernel)
      refine' .cons ?xa ?xs ?xe ?_; (case xa => k_is); (case xs => k_is); (case xe => decide +kernel)
      refine' .cons ?xa ?xs ?xe ?_; (case xa => k_is); (case xs => k_is); (case xe => decide +kernel)
      refine' .cons ?xa ?xs ?xe ?_; (case xa => k_is); (case xs => k_is); (case xe => decide +kernel)
      refine' .cons ?xa ?xs ?xe ?_; (case xa => k_is); (case xs => k_is); (case xe => decide +kernel)
      refine' .cons ?xa ?xs ?xe ?_; (case xa => k_is); (case xs => k_is); (case xe => decide +kernel)
      refine' .cons ?xa ?xs ?xe ?_; (case xa => k_is); (case xs => k_is); (case xe => decide +kernel)
      refine' .cons ?xa ?xs ?xe ?_; (case xa => k_is); (case xs => k_is); (case xe => decide +kernel)
      refine' .cons ?xa ?xs ?xe ?_; (case xa => k_is); (case xs => k_is); (case xe => decide +kernel)
      refine' .cons ?xa ?xs ?xe ?_; (case xa => k_is); (case xs => k_is); (case xe => decide +kernel)
      refine' .cons ?xa ?xs ?xe ?_; (case xa => k_is); (case xs => k_is); (case xe => decide +kernel)
      refine' .cons ?xa ?xs ?xe ?_; (case xa => k_is); (case xs => k_is); (case xe => decide +kernel)
      refine' .cons ?xa ?xs ?xe ?_; (case xa => k_is); (case xs => k_is); (case xe => decide +kernel)
      refine' .cons ?xa ?xs ?xe ?_; (case xa => k_is); (case xs => k_is); (case xe => decide +kernel)
      exact .nil
    refine' .cons ?xb ?xm (by decide +kernel) ?xn (by decide +kernel) ?xp ?_
    case xb => (refine' Ev2.exb_mk X G ?xa ?xg1 ?xg2 ?xg3 ?xg4 ?xg5 ?xg6 ?xg7 ?xg8 ?xt ?xv); (case xa => k_is); (case xg1 => k_is); (case xg2 => k_is); (case xg3 => k_is); (case xg4 => k_is); (case xg5 => k_is); (case xg6 => k_is); (case xg7 => k_is); (case xg8 => k_is); (case xt => k_is); (case xv => k_is)
    case xn => exact fun f e => by cases e; k_is
    case xm =>
      intro _
      refine' Ev2.init_of L92.is_BadRow ?xl ?xhb ?xsa ?xex ?xty ?xkc ?xi ?xt ?xno ?xlf ?xc ?xkf
      (case xl => k_is); (case xhb => decide +kernel); (case xsa => k_is); (case xex => k_is); (case xty => k_is); (case xkc => k_is); (case xi => k_is); (case xt => k_is); (case xno => k_is); (case xlf => k_is); (case xc => k_is); (case xkf => k_is)
    case xp =>
      refine' .cons ?xa ?xs ?xe ?_; (case xa => k_is); (case xs => k_is); (case xe => decide +kernel)
      refine' .cons ?xa ?xs ?xe ?_; (case xa => k_is); (case xs => k_is); (case xe => decide +kernel)
      refine' .cons ?xa ?xs ?xe ?_; (case xa => k_is); (case xs => k_is); (case xe => decide +kernel)
      refine' .cons ?xa ?xs ?xe ?_; (case xa => k_is); (case xs => k_is); (case xe => decide +kernel)
      refine' .cons ?xa ?xs ?xe ?_; (case xa => k_is); (case xs => k_is); (case xe => decide +kernel)
      refine' .cons ?xa ?xs ?xe ?_; (case xa => k_is); (case xs => k_is); (case xe => decide +kernel)
      refine' .cons ?xa ?xs ?xe ?_; (case xa => k_is); (case xs => k_is); (case xe => decide +kernel)
      refine' .cons ?xa ?xs ?xe ?_; (case xa => k_is); (case xs => k_is); (case xe => decide +kernel)
      refine' .cons ?xa ?xs ?xe ?_; (case xa => k_is); (case xs => k_is); (case xe => decide +kernel)
      refine' .cons ?xa ?xs ?xe ?_; (case xa => k_is); (case xs => k_is); (case xe => decide +kernel)
      refine' .cons ?xa ?xs ?xe ?_; (case xa => k_is); (case xs => k_is); (case xe => decide +kernel)
      refine' .cons ?xa ?xs ?xe ?_; (case xa => k_is); (case xs => k_is); (case xe => decide +kernel)
      refine' .cons ?xa ?xs ?xe ?_; (case xa => k_is); (case xs => k_is); (case xe => decide +kernel)
      refine' .cons ?xa ?xs ?xe ?_; (case xa => k_is); (case xs => k_is); (case xe => decide +kernel)
      refine' .cons ?xa ?xs ?xe ?_; (case xa => k_is); (case xs => k_is); (case xe => decide +kernel)
      refine' .cons ?xa ?xs ?xe ?_; (case xa => k_is); (case xs => k_is); (case xe => decide +kernel)
      refine' .cons ?xa ?xs ?xe ?_; (case xa => k_is); (case xs => k_is); (case xe => decide +kernel)
      exact .nil
    refine' .cons ?xb ?xm (by decide +kernel) ?xn (by decide +kernel) ?xp ?_
    case xb => (refine' Ev2.exb_mk X G ?xa ?xg1 ?xg2 ?xg3 ?xg4 ?xg5 ?xg6 ?xg7 ?xg8 ?xt ?xv); (case xa => k_is); (case xg1 => k_is); (case xg2 => k_is); (case xg3 => k_is); (case xg4 => k_is); (case xg5 => k_is); (case xg6 => k_is); (case xg7 => k_is); (case xg8 => k_is); (case xt => k_is); (case xv => k_is)
    case xn => exact fun f e => by cases e; k_is
    case xm =>
      intro _
      refine' Ev2.init_of L92.is_NotPossible ?xl ?xhb ?xsa ?xex ?xty ?xkc ?xi ?xt ?xno ?xlf ?xc ?xkf
      (case xl => k_is); (case xhb => decide +kernel); (case xsa => k_is); (case xex => k_is); (case xty => k_is); (case xkc => k_is); (case xi => k_is); (case xt => k_is); (case xno => k_is); (case xlf => k_is); (case xc => k_is); (case xkf => k_is)
    case xp =>
      refine' .cons ?xa ?xs ?xe ?_; (case xa => k_is); (case xs => k_is); (case xe => decide +kernel)
      refine' .cons ?xa ?xs ?xe ?_; (case xa => k_is); (case xs => k_is); (case xe => decide +kernel)
      refine' .cons ?xa ?xs ?xe ?_; (case xa => k_is); (case xs => k_is); (case xe => decide +kernel)
      refine' .cons ?xa ?xs ?xe ?_; (case xa => k_is); (case xs => k_is); (case xe => decide +kernel)
      refine' .cons ?xa ?xs ?xe ?_; (case xa => k_is); (case xs => k_is); (case xe => decide +kernel)
      refine' .cons ?xa ?xs ?xe ?_; (case xa => k_is); (case xs => k_is); (case xe => decide +kernel)
      refine' .cons ?xa ?xs ?xe ?_; (case xa => k_is); (case xs => k_is); (case xe => decide +kernel)
      refine' .cons ?xa ?xs ?xe ?_; (case xa => k_is); (case xs => k_is); (case xe => decide +kernel)
      refine' .cons ?xa ?xs ?xe ?_; (case xa => k_is); (case xs => k_is); (case xe => decide +kernel)
      refine' .cons ?xa ?xs ?xe ?_; (case xa => k_is); (case xs => k_is); (case xe => decide +kernel)
      refine' .cons ?xa ?xs ?xe ?_; (case xa => k_is); (case xs => k_is); (case xe => decide +kernel)
      refine' .cons ?xa ?xs ?xe ?_; (case xa => k_is); (case xs => k_is); (case xe => decide +kernel)
      refine' .cons ?xa ?xs ?xe ?_; (case xa => k_is); (case xs => k_is); (case xe => decide +kernel)
      refine' .cons ?xa ?xs ?xe ?_; (case xa => k_is); (case xs => k_is); (case xe => decide +kernel)
      refine' .cons ?xa ?xs ?xe ?_; (case xa => k_is); (case xs => k_is); (case xe => decide +kernel)
      refine' .cons ?xa ?xs ?xe ?_; (case xa => k_is); (case xs => k_is); (case xe => decide +kernel)
      refine' .cons ?xa ?xs ?xe ?_; (case xa => k_is); (case xs => k_is); (case xe => decide +kernel)
      exact .nil
    refine' .cons ?xb ?xm (by decide +kernel) ?xn (by decide +kernel) ?xp ?_
    case xb => (refine' Ev2.exb_mk X G ?xa ?xg1 ?xg2 ?xg3 ?xg4 ?xg5 ?xg6 ?xg7 ?xg8 ?xt ?xv); (case xa => k_is); (case xg1 => k_is); (case xg2 => k_is); (case xg3 => k_is); (case xg4 => k_is); (case xg5 => k_is); (case xg6 => k_is); (case xg7 => k_is); (case xg8 => k_is); (case xt => k_is); (case xv => k_is)
    case xn => exact fun f e => by cases e; k_is
    case xm =>
      intro _
      refine' Ev2.init_of L92.is_BadReactions ?xl ?xhb ?xsa ?xex ?xty ?xkc ?xi ?xt ?xno ?xlf ?xc ?xkf
      (case xl => k_is); (case xhb => decide +kernel); (case xsa => k_is); (case xex => k_is); (case xty => k_is); (case xkc => k_is); (case xi => k_is); (case xt => k_is); (case xno => k_is); (case xlf => k_is); (case xc => k_is); (case xkf => k_is)
    case xp =>
      refine' .cons ?xa ?xs ?xe ?_; (case xa => k_is); (case xs => k_is); (case xe => decide +kernel)
      refine' .cons ?xa ?xs ?xe ?_; (case xa => k_is); (case xs => k_is); (case xe => decide +kernel)
      refine' .cons ?xa ?xs ?xe ?_; (case xa => k_is); (case xs => k_is); (case xe => decide +kernel)
      refine' .cons ?xa ?xs ?xe ?_; (case xa => k_is); (case xs => k_is); (case xe => decide +kernel)
      refine' .cons ?xa ?xs ?xe ?_; (case xa => k_is); (case xs => k_is); (case xe => decide +kernel)
      refine' .cons ?xa ?xs ?xe ?_; (case xa => k_is); (case xs => k_is); (case xe => decide +kernel)
      refine' .cons ?xa ?xs ?xe ?_; (case xa => k_is); (case xs => k_is); (case xe => decide +kernel)
      refine' .cons ?xa ?xs ?xe ?_; (case xa => k_is); (case xs => k_is); (case xe => decide +kernel)
      refine' .cons ?xa ?xs ?xe ?_; (case xa => k_is); (case xs => k_is); (case xe => decide +kernel)
      refine' .cons ?xa ?xs ?xe ?_; (case xa => k_is); (case xs => k_is); (case xe => decide +kernel)
      refine' .cons ?xa ?xs ?xe ?_; (case xa => k_is); (case xs => k_is); (case xe => decide +kernel)
      refine' .cons ?xa ?xs ?xe ?_; (case xa => k_is); (case xs => k_is); (case xe => decide +kernel)
      refine' .cons ?xa ?xs ?xe ?_; (case xa => k_is); (case xs => k_is); (case xe => decide +kernel)
      refine' .cons ?xa ?xs ?xe ?_; (case xa => k_is); (case xs => k_is); (case xe => decide +kernel)
      refine' .cons ?xa ?xs ?xe ?_; (case xa => k_is); (case xs => k_is); (case xe => decide +kernel)
      refine' .cons ?xa ?xs ?xe ?_; (case xa => k_is); (case xs => k_is); (case xe => decide +kernel)
      refine' .cons ?xa ?xs ?xe ?_; (case xa => k_is); (case xs => k_is); (case xe => decide +kernel)
      exact .nil
    refine' .cons ?xb ?xm (by decide +kernel) ?xn (by decide +kernel) ?xp ?_
    case xb => (refine' Ev2.exb_mk X G ?xa ?xg1 ?xg2 ?xg3 ?xg4 ?xg5 ?xg6 ?xg7 ?xg8 ?xt ?xv); (case xa => k_is); (case xg1 => k_is); (case xg2 => k_is); (case xg3 => k_is); (case xg4 => k_is); (case xg5 => k_is); (case xg6 => k_is); (case xg7 => k_is); (case xg8 => k_is); (case xt => k_is); (case xv => k_is)
    case xn => exact fun f e => by cases e; k_is
    case xm =>
      intro _
      refine' Ev2.init_of L92.is_BadMerges ?xl ?xhb ?xsa ?xex ?xty ?xkc ?xi ?xt ?xno ?xlf ?xc ?xkf
      (case xl => k_is); (case xhb => decide +kernel); (case xsa => k_is); (case xex => k_is); (case xty => k_is); (case xkc => k_is); (case xi => k_is); (case xt => k_is); (case xno => k_is); (case xlf => k_is); (case xc => k_is); (case xkf => k_is)
    case xp =>
      refine' .cons ?xa ?xs ?xe ?_; (case xa => k_is); (case xs => k_is); (case xe => decide +kernel)
      refine' .cons ?xa ?xs ?xe ?_; (case xa => k_is); (case xs => k_is); (case xe => decide +kernel)
      refine' .cons ?xa ?xs ?xe ?_; (case xa => k_is); (case xs => k_is); (case xe => decide +kernel)
      refine' .cons ?xa ?xs ?xe ?_; (case xa => k_is); (case xs => k_is); (case xe => decide +kernel)
      refine' .cons ?xa ?xs ?xe ?_; (case xa => k_is); (case xs => k_is); (case xe => decide +kernel)
      refine' .cons ?xa ?xs ?xe ?_; (case xa => k_is); (case xs => k_is); (case xe => decide +kernel)
      refine' .cons ?xa ?xs ?xe ?_; (case xa => k_is); (case xs => k_is); (case xe => decide +kernel)
      refine' .cons ?xa ?xs ?xe ?_; (case xa => k_is); (case xs => k_is); (case xe => decide +kernel)
      refine' .cons ?xa ?xs ?xe ?_; (case xa => k_is); (case xs => k_is); (case xe => decide +kernel)
      refine' .cons ?xa ?xs ?xe ?_; (case xa => k_is); (case xs => k_is); (case xe => decide +kernel)
      refine' .cons ?xa ?xs ?xe ?_; (case xa => k_is); (case xs => k_is); (case xe => decide +kernel)
      refine' .cons ?xa ?xs ?xe ?_; (case xa => k_is); (case xs => k_is); (case xe => decide +kernel)
      refine' .cons ?xa ?xs ?xe ?_; (case xa => k_is); (case xs => k_is); (case xe => decide +kernel)
      refine' .cons ?xa ?xs ?xe ?_; (case xa => k_is); (case xs => k_is); (case xe => decide +kernel)
      refine' .cons ?xa ?xs ?xe ?_; (case xa => k_is); (case xs => k_is); (case xe => decide +kernel)
      refine' .cons ?xa ?xs ?xe ?_; (case xa => k_is); (case xs => k_is); (case xe => decide +kernel)
      refine' .cons ?xa ?xs ?xe ?_; (case xa => k_is); (case xs => k_is); (case xe => decide +kernel)
      exact .nil
    refine' .cons ?xb ?xm (by decide +kernel) ?xn (by decide +kernel) ?xp ?_
    case xb => (refine' Ev2.exb_mk X G ?xa ?xg1 ?xg2 ?xg3 ?xg4 ?xg5 ?xg6 ?xg7 ?xg8 ?xt ?xv); (case xa => k_is); (case xg1 => k_is); (case xg2 => k_is); (case xg3 => k_is); (case xg4 => k_is); (case xg5 => k_is); (case xg6 => k_is); (case xg7 => k_is); (case xg8 => k_is); (case xt => k_is); (case xv => k_is)
    case xn => exact fun f e => by cases e; k_is
    case xm =>
      intro _
      refine' Ev2.init_of L92.is_BadPrices ?xl ?xhb ?xsa ?xex ?xty ?xkc ?xi ?xt ?xno ?xlf ?xc ?xkf
      (case xl => k_is); (case xhb => decide +kernel); (case xsa => k_is); (case xex => k_is); (case xty => k_is); (case xkc => k_is); (case xi => k_is); (case xt => k_is); (case xno => k_is); (case xlf => k_is); (case xc => k_is); (case xkf => k_is)
    case xp =>
      refine' .cons ?xa ?xs ?xe ?_; (case xa => k_is); (case xs => k_is); (case xe => decide +kernel)
      refine' .cons ?xa ?xs ?xe ?_; (case xa => k_is); (case xs => k_is); (case xe => decide +kernel)
      refine' .cons ?xa ?xs ?xe ?_; (case xa => k_is); (case xs => k_is); (case xe => decide +kernel)
      refine' .cons ?xa ?xs ?xe ?_; (case xa => k_is); (case xs => k_is); (case xe => decide +kernel)
      refine' .cons ?xa ?xs ?xe ?_; (case xa => k_is); (case xs => k_is); (case xe => decide +kernel)
      refine' .cons ?xa ?xs ?xe ?_; (case xa => k_is); (case xs => k_is); (case xe => decide +kernel)
      refine' .cons ?xa ?xs ?xe ?_; (case xa => k_is); (case xs => k_is); (case xe => decide +kernel)
      refine' .cons ?xa ?xs ?xe ?_; (case xa => k_is); (case xs => k_is); (case xe => decide +kernel)
      refine' .cons ?xa ?xs ?xe ?_; (case xa => k_is); (case xs => k_is); (case xe => decide +kernel)
      refine' .cons ?xa ?xs ?xe ?_; (case xa => k_is); (case xs => k_is); (case xe => decide +kernel)
      refine' .cons ?xa ?xs ?xe ?_; (case xa => k_is); (case xs => k_is); (case xe => decide +kernel)
      refine' .cons ?xa ?xs ?xe ?_; (case xa => k_is); (case xs => k_is); (case xe => decide +kernel)
      refine' .cons ?xa ?xs ?xe ?_; (case xa => k_is); (case xs => k_is); (case xe => decide +kernel)
      refine' .cons ?xa ?xs ?xe ?_; (case xa => k_is); (case xs => k_is); (case xe => decide +kernel)
      refine' .cons ?xa ?xs ?xe ?_; (case xa => k_is); (case xs => k_is); (case xe => decide +kernel)
      refine' .cons ?xa ?xs ?xe ?_; (case xa => k_is); (case xs => k_is); (case xe => decide +kernel)
      refine' .cons ?xa ?xs ?xe ?_; (case xa => k_is); (case xs => k_is); (case xe => decide +kernel)
      exact .nil
    refine' .cons ?xb ?xm (by decide +kernel) ?xn (by decide +kernel) ?xp ?_
    case xb => (refine' Ev2.exb_mk X G ?xa ?xg1 ?xg2 ?xg3 ?xg4 ?xg5 ?xg6 ?xg7 ?xg8 ?xt ?xv); (case xa => k_is); (case xg1 => k_is); (case xg2 => k_is); (case xg3 => k_is); (case xg4 => k_is); (case xg5 => k_is); (case xg6 => k_is); (case xg7 => k_is); (case xg8 => k_is); (case xt => k_is); (case xv => k_is)
    case xn => exact fun f e => by cases e; k_is
    case xm =>
      intro _
      refine' Ev2.init_of L92.is_BadTable ?xl ?xhb ?xsa ?xex ?xty ?xkc ?xi ?xt ?xno ?xlf ?xc ?xkf
      (case xl => k_is); (case xhb => decide +kernel); (case xsa => k_is); (case xex => k_is); (case xty => k_is); (case xkc => k_is); (case xi => k_is); (case xt => k_is); (case xno => k_is); (case xlf => k_is); (case xc => k_is); (case xkf => k_is)
    case xp =>
      refine' .cons ?xa ?xs ?xe ?_; (case xa => k_is); (case xs => k_is); (case xe => decide +kernel)
      refine' .cons ?xa ?xs ?xe ?_; (case xa => k_is); (case xs => k_is); (case xe => decide +kernel)
      refine' .cons ?xa ?xs ?xe ?_; (case xa => k_is); (case xs => k_is); (case xe => decide +kernel)
      refine' .cons ?xa ?xs ?xe ?_; (case xa => k_is); (case xs => k_is); (case xe => decide +kernel)
      refine' .cons ?xa ?xs ?xe ?_; (case xa => k_is); (case xs => k_is); (case xe => decide +kernel)
      refine' .cons ?xa ?xs ?xe ?_; (case xa => k_is); (case xs => k_is); (case xe => decide +kernel)
      refine' .cons ?xa ?xs ?xe ?_; (case xa => k_is); (case xs => k_is); (case xe => decide +kernel)
      refine' .cons ?xa ?xs ?xe ?_; (case xa => k_is); (case xs => k_is); (case xe => decide +kernel)
      refine' .cons ?xa ?xs ?xe ?_; (case xa => k_is); (case xs => k_is); (case xe => decide +kernel)
      refine' .cons ?xa ?xs ?xe ?_; (case xa => k_is); (case xs => k_is); (case xe => decide +kernel)
      refine' .cons ?xa ?xs ?xe ?_; (case xa => k_is); (case xs => k_is); (case xe => decide +kernel)
      refine' .cons ?xa ?xs ?xe ?_; (case xa => k_is); (case xs => k_is); (case xe => decide +kernel)
      refine' .cons ?xa ?xs ?xe ?_; (case xa => k_is); (case xs => k_is); (case xe => decide +kernel)
      refine' .cons ?xa ?xs ?xe ?_; (case xa => k_is); (case xs => k_is); (case xe => decide +kernel)
      refine' .cons ?xa ?xs ?xe ?_; (case xa => k_is); (case xs => k_is); (case xe => decide +kernel)
      refine' .cons ?xa ?xs ?xe ?_; (case xa => k_is); (case xs => k_is); (case xe => decide +kernel)
      refine' .cons ?xa ?xs ?xe ?_; (case xa => k_is); (case xs => k_is); (case xe => decide +kernel)
      exact .nil
    refine' .cons ?xb ?xm (by decide +kernel) ?xn (by decide +kernel) ?xp ?_
    case xb => (refine' Ev2.exb_mk X G ?xa ?xg1 ?xg2 ?xg3 ?xg4 ?xg5 ?xg6 ?xg7 ?xg8 ?xt ?xv); (case xa => k_is); (case xg1 => k_is); (case xg2 => k_is); (case xg3 => k_is); (case xg4 => k_is); (case xg5 => k_is); (case xg6 => k_is); (case xg7 => k_is); (case xg8 => k_is); (case xt => k_is); (case xv => k_is)
    case xn => exact fun f e => by cases e; k_is
    case xm =>
      intro _
      refine' Ev2.init_of L92.is_BadTree ?xl ?xhb ?xsa ?xex ?xty ?xkc ?xi ?xt ?xno ?xlf ?xc ?xkf
      (case xl => k_is); (case xhb => decide +kernel); (case xsa => k_is); (case xex => k_is); (case xty => k_is); (case xkc => k_is); (case xi => k_is); (case xt => k_is); (case xno => k_is); (case xlf => k_is); (case xc => k_is); (case xkf => k_is)
    case xp =>
      refine' .cons ?xa ?xs ?xe ?_; (case xa => k_is); (case xs => k_is); (case xe => decide +kernel)
      refine' .cons ?xa ?xs ?xe ?_; (case xa => k_is); (case xs => k_is); (case xe => decide +kernel)
      refine' .cons ?xa ?xs ?xe ?_; (case xa => k_is); (case xs => k_is); (case xe => decide +kernel)
      refine' .cons ?xa ?xs ?xe ?_; (case xa => k_is); (case xs => k_is); (case xe => decide +kernel)
      refine' .cons ?xa ?xs ?xe ?_; (case xa => k_is); (case xs => k_is); (case xe => decide +kernel)
      refine' .cons ?xa ?xs ?xe ?_; (case xa => k_is); (case xs => k_is); (case xe => decide +kernel)
      refine' .cons ?xa ?xs ?xe ?_; (case xa => k_is); (case xs => k_is); (case xe => decide +kernel)
      refine' .cons ?xa ?xs ?xe ?_; (case xa => k_is); (case xs => k_is); (case xe => decide +kernel)
      refine' .cons ?xa ?xs ?xe ?_; (case xa => k_is); (case xs => k_is); (case xe => decide +kernel)
      refine' .cons ?xa ?xs ?xe ?_; (case xa => k_is); (case xs => k_is); (case xe => decide +kernel)
      refine' .cons ?xa ?xs ?xe ?_; (case xa => k_is); (case xs => k_is); (case xe => decide +kernel)
      refine' .cons ?xa ?xs ?xe ?_; (case xa => k_is); (case xs => k_is); (case xe => decide +kernel)
      refine' .cons ?xa ?xs ?xe ?_; (case xa => k_is); (case xs => k_is); (case xe => decide +kernel)
      refine' .cons ?xa ?xs ?xe ?_; (case xa => k_is); (case xs => k_is); (case xe => decide +kernel)
      refine' .cons ?xa ?xs ?xe ?_; (case xa => k_is); (case xs => k_is); (case xe => decide +kernel)
      refine' .cons ?xa ?xs ?xe ?_; (case xa => k_is); (case xs => k_is); (case xe => decide +kernel)
      refine' .cons ?xa ?xs ?xe ?_; (case xa => k_is); (case xs => k_is); (case xe => decide +kernel)
      exact .nil
    refine' .cons ?xb ?xm (by decide +kernel) ?xn (by decide +kernel) ?xp ?_
    case xb => (refine' Ev2.exb_mk X G ?xa ?xg1 ?xg2 ?xg3 ?xg4 ?xg5 ?xg6 ?xg7 ?xg8 ?xt ?xv); (case xa => k_is); (case xg1 => k_is); (case xg2 => k_is); (case xg3 => k_is); (case xg4 => k_is); (case xg5 => k_is); (case xg6 => k_is); (case xg7 => k_is); (case xg8 => k_is); (case xt => k_is); (case xv => k_is)
    case xn => exact fun f e => by cases e; k_is
    case xm =>
      intro _
      refine' Ev2.init_of L92.is_BadHistory ?xl ?xhb ?xsa ?xex ?xty ?xkc ?xi ?xt ?xno ?xlf ?xc ?xkf
      (case xl => k_is); (case xhb => decide +kernel); (case xsa => k_is); (case xex => k_is); (case xty => k_is); (case xkc => k_is); (case xi => k_is); (case xt => k_is); (case xno => k_is); (case xlf => k_is); (case xc => k_is); (case xkf => k_is)
    case xp =>
      refine' .cons ?xa ?xs ?xe ?_; (case xa => k_is); (case xs => k_is); (case xe => decide +kernel)
      refine' .cons ?xa ?xs ?xe ?_; (case xa => k_is); (case xs => k_is); (case xe => decide +kernel)
      refine' .cons ?xa ?xs ?xe ?_; (case xa => k_is); (case xs => k_is); (case xe => decide +kernel)
      refine' .cons ?xa ?xs ?xe ?_; (case xa => k_is); (case xs => k_is); (case xe => decide +kernel)
      refine' .cons ?xa ?xs ?xe ?_; (case xa => k_is); (case xs => k_is); (case xe => decide +kernel)
      refine' .cons ?xa ?xs ?xe ?_; (case xa => k_is); (case xs => k_is); (case xe => decide +kernel)
      refine' .cons ?xa ?xs ?xe ?_; (case xa => k_is); (case xs => k_is); (case xe => decide +kernel)
      refine' .cons ?xa ?xs ?xe ?_; (case xa => k_is); (case xs => k_is); (case xe => decide +kernel)
      refine' .cons ?xa ?xs ?xe ?_; (case xa => k_is); (case xs => k_is); (case xe => decide +kernel)
      refine' .cons ?xa ?xs ?xe ?_; (case xa => k_is); (case xs => k_is); (case xe => decide +kernel)
      refine' .cons ?xa ?xs ?xe ?_; (case xa => k_is); (case xs => k_is); (case xe => decide +kernel)
      refine' .cons ?xa ?xs ?xe ?_; (case xa => k_is); (case xs => k_is); (case xe => decide +kernel)
      refine' .cons ?xa ?xs ?xe ?_; (case xa => k_is); (case xs => k_is); (case xe => decide +kernel)
      refine' .cons ?xa ?xs ?xe ?_; (case xa => k_is); (case xs => k_is); (case xe => decide +kernel)
      refine' .cons ?xa ?xs ?xe ?_; (case xa => k_is); (case xs => k_is); (case xe => decide +kernel)
      refine' .cons ?xa ?xs ?xe ?_; (case xa => k_is); (case xs => k_is); (case xe => decide +kernel)
      refine' .cons ?xa ?xs ?xe ?_; (case xa => k_is); (case xs => k_is); (case xe => decide +kernel)
      exact .nil
    refine' .cons ?xb ?xm (by decide +kernel) ?xn (by decide +kernel) ?xp ?_
    case xb => (refine' Ev2.exb_mk X G ?xa ?xg1 ?xg2 ?xg3 ?xg4 ?xg5 ?xg6 ?xg7 ?xg8 ?xt ?xv); (case xa => k_is); (case xg1 => k_is); (case xg2 => k_is); (case xg3 => k_is); (case xg4 => k_is); (case xg5 => k_is); (case xg6 => k_is); (case xg7 => k_is); (case xg8 => k_is); (case xt => k_is); (case xv => k_is)
    case xn => exact fun f e => nomatch e
    case xm => exact fun _ => ⟨by k_exc, by k_is, by k_is, by k_is⟩
    case xp =>
      refine' .cons ?xa ?xs ?xe ?_; (case xa => k_is); (case xs => k_is); (case xe => decide +kernel)
      refine' .cons ?xa ?xs ?xe ?_; (case xa => k_is); (case xs => k_is); (case xe => decide +kernel)
      refine' .cons ?xa ?xs ?xe ?_; (case xa => k_is); (case xs => k_is); (case xe => decide +kernel)
      refine' .cons ?xa ?xs ?xe ?_; (case xa => k_is); (case xs => k_is); (case xe => decide +kernel)
      refine' .cons ?xa ?xs ?xe ?_; (case xa => k_is); (case xs => k_is); (case xe => decide +kernel)
      refine' .cons ?xa ?xs ?xe ?_; (case xa => k_is); (case xs => k_is); (case xe => decide +kernel)
      refine' .cons ?xa ?xs ?xe ?_; (case xa => k_is); (case xs => k_is); (case xe => decide +kernel)
      refine' .cons ?xa ?xs ?xe ?_; (case xa => k_is); (case xs => k_is); (case xe => decide +kernel)
      refine' .cons ?xa ?xs ?xe ?_; (case xa => k_is); (case xs => k_is); (case xe => decide +kernel)
      refine' .cons ?xa ?xs ?xe ?_; (case xa => k_is); (case xs => k_is); (case xe => decide +kernel)
      refine' .cons ?xa ?xs ?xe ?_; (case xa => k_is); (case xs => k_is); (case xe => decide +kernel)
      refine' .cons ?xa ?xs ?xe ?_; (case xa => k_is); (case xs => k_is); (case xe => decide +kernel)
      refine' .cons ?xa ?xs ?xe ?_; (case xa => k_is); (case xs => k_is); (case xe => decide +kernel)
      refine' .cons ?xa ?xs ?xe ?_; (case xa => k_is); (case xs => k_is); (case xe => decide +kernel)
      refine' .cons ?xa ?xs ?xe ?_; (case xa => k_is); (case xs => k_is); (case xe => decide +kernel)
      refine' .cons ?xa ?xs ?xe ?_; (case xa => k_is); (case xs => k_is); (case xe => decide +kernel)
      refine' .cons ?xa ?xs ?xe ?_; (case xa => k_is); (case xs => k_is); (case xe => decide +kernel)
      exact .nil
    refine' .cons ?xb ?xm (by decide +kernel) ?xn (by decide +kernel) ?xp ?_
    case xb => (refine' Ev2.exb_mk X G ?xa ?xg1 ?xg2 ?xg3 ?xg4 ?xg5 ?xg6 ?xg7 ?xg8 ?xt ?xv); (case xa => k_is); (case xg1 => k_is); (case xg2 => k_is); (case xg3 => k_is); (case xg4 => k_is); (case xg5 => k_is); (case xg6 => k_is); (case xg7 => k_is); (case xg8 => k_is); (case xt => k_is); (case xv => k_is)
    case xn => exact fun f e => nomatch e
    case xm => exact fun _ => ⟨by k_exc, by k_is, by k_is, by k_is⟩
    case xp =>
      refine' .cons ?xa ?xs ?xe ?_; (case xa => k_is); (case xs => k_is); (case xe => decide +kernel)
      refine' .cons ?xa ?xs ?xe ?_; (case xa => k_is); (case xs => k_is); (case xe => decide +kernel)
      refine' .cons ?xa ?xs ?xe ?_; (case xa => k_is); (case xs => k_is); (case xe => decide +kernel)
      refine' .cons ?xa ?xs ?xe ?_; (case xa => k_is); (case xs => k_is); (case xe => decide +kernel)
      refine' .cons ?xa ?xs ?xe ?_; (case xa => k_is); (case xs => k_is); (case xe => decide +kernel)
      refine' .cons ?xa ?xs ?xe ?_; (case xa => k_is); (case xs => k_is); (case xe => decide +kernel)
      refine' .cons ?xa ?xs ?xe ?_; (case xa => k_is); (case xs => k_is); (case xe => decide +kernel)
      refine' .cons ?xa ?xs ?xe ?_; (case xa => k_is); (case xs => k_is); (case xe => decide +kernel)
      refine' .cons ?xa ?xs ?xe ?_; (case xa => k_is); (case xs => k_is); (case xe => decide +kernel)
      refine' .cons ?xa ?xs ?xe ?_; (case xa => k_is); (case xs => k_is); (case xe => decide +kernel)
      refine' .cons ?xa ?xs ?xe ?_; (case xa => k_is); (case xs => k_is); (case xe => decide +kernel)
      refine' .cons ?xa ?xs ?xe ?_; (case xa => k_is); (case xs => k_is); (case xe => decide +kernel)
      refine' .cons ?xa ?xs ?xe ?_; (case xa => k_is); (case xs => k_is); (case xe => decide +kernel)
      refine' .cons ?xa ?xs ?xe ?_; (case xa => k_is); (case xs => k_is); (case xe => decide +kernel)
      refine' .cons ?xa ?xs ?xe ?_; (case xa => k_is); (case xs => k_is); (case xe => decide +kernel)
      refine' .cons ?xa ?xs ?xe ?_; (case xa => k_is); (case xs => k_is); (case xe => decide +kernel)
      refine' .cons ?xa ?xs ?xe ?_; (case xa => k_is); (case xs => k_is); (case xe => decide +kernel)
      exact .nil
    refine' .cons ?xb ?xm (by decide +kernel) ?xn (by decide +kernel) ?xp ?_
    case xb => (refine' Ev2.exb_mk X G ?xa ?xg1 ?xg2 ?xg3 ?xg4 ?xg5 ?xg6 ?xg7 ?xg8 ?xt ?xv); (case xa => k_is); (case xg1 => k_is); (case xg2 => k_is); (case xg3 => k_is); (case xg4 => k_is); (case xg5 => k_is); (case xg6 => k_is); (case xg7 => k_is); (case xg8 => k_is); (case xt => k_is); (case xv => k_is)
    case xn => exact fun f e => by cases e; k_is
    case xm =>
      intro _
      refine' Ev2.init_of L92.is_BadText ?xl ?xhb ?xsa ?xex ?xty ?xkc ?xi ?xt ?xno ?xlf ?xc ?xkf
      (case xl => k_is); (case xhb => decide +kernel); (case xsa => k_is); (case xex => k_is); (case xty => k_is); (case xkc => k_is); (case xi => k_is); (case xt => k_is); (case xno => k_is); (case xlf => k_is); (case xc => k_is); (case xkf => k_is)
    case xp =>
      refine' .cons ?xa ?xs ?xe ?_; (case xa => k_is); (case xs => k_is); (case xe => decide +kernel)
      refine' .cons ?xa ?xs ?xe ?_; (case xa => k_is); (case xs => k_is); (case xe => decide +kernel)
      refine' .cons ?xa ?xs ?xe ?_; (case xa => k_is); (case xs => k_is); (case xe => decide +kernel)
      refine' .cons ?xa ?xs ?xe ?_; (case xa => k_is); (case xs => k_is); (case xe => decide +kernel)
      refine' .cons ?xa ?xs ?xe ?_; (case xa => k_is); (case xs => k_is); (case xe => decide +kernel)
      refine' .cons ?xa ?xs ?xe ?_; (case xa => k_is); (case xs => k_is); (case xe => decide +kernel)
      refine' .cons ?xa ?xs ?xe ?_; (case xa => k_is); (case xs => k_is); (case xe => decide +kernel)
      refine' .cons ?xa ?xs ?xe ?_; (case xa => k_is); (case xs => k_is); (case xe => decide +kernel)
      refine' .cons ?xa ?xs ?xe ?_; (case xa => k_is); (case xs => k_is); (case xe => decide +kernel)
      refine' .cons ?xa ?xs ?xe ?_; (case xa => k_is); (case xs => k_is); (case xe => decide +kernel)
      refine' .cons ?xa ?xs ?xe ?_; (case xa => k_is); (case xs => k_is); (case xe => decide +kernel)
      refine' .cons ?xa ?xs ?xe ?_; (case xa => k_is); (case xs => k_is); (case xe => decide +kernel)
      refine' .cons ?xa ?xs ?xe ?_; (case xa => k_is); (case xs => k_is); (case xe => decide +kernel)
      refine' .cons ?xa ?xs ?xe ?_; (case xa => k_is); (case xs => k_is); (case xe => decide +kernel)
      refine' .cons ?xa ?xs ?xe ?_; (case xa => k_is); (case xs => k_is); (case xe => decide +kernel)
      refine' .cons ?xa ?xs ?xe ?_; (case xa => k_is); (case xs => k_is); (case xe => decide +kernel)
      refine' .cons ?xa ?xs ?xe ?_; (case xa => k_is); (case xs => k_is); (case xe => decide +kernel)
      exact .nil
    refine' .cons ?xb ?xm (by decide +kernel) ?xn (by decide +kernel) ?xp ?_
    case xb => (refine' Ev2.exb_mk X G ?xa ?xg1 ?xg2 ?xg3 ?xg4 ?xg5 ?xg6 ?xg7 ?xg8 ?xt ?xv); (case xa => k_is); (case xg1 => k_is); (case xg2 => k_is); (case xg3 => k_is); (case xg4 => k_is); (case xg5 => k_is); (case xg6 => k_is); (case xg7 => k_is); (case xg8 => k_is); (case xt => k_is); (case xv => k_is)
    case xn => exact fun f e => by cases e; k_is
    case xm =>
      intro _
      refine' Ev2.init_of L92.is_BadLine ?xl ?xhb ?xsa ?xex ?xty ?xkc ?xi ?xt ?xno ?xlf ?xc ?xkf
      (case xl => k_is); (case xhb => decide +kernel); (case xsa => k_is); (case xex => k_is); (case xty => k_is); (case xkc => k_is); (case xi => k_is); (case xt => k_is); (case xno => k_is); (case xlf => k_is); (case xc => k_is); (case xkf => k_is)
    case xp =>
      refine' .cons ?xa ?xs ?xe ?_; (case xa => k_is); (case xs => k_is); (case xe => decide +kernel)
      refine' .cons ?xa ?xs ?xe ?_; (case xa => k_is); (case xs => k_is); (case xe => decide +kernel)
      refine' .cons ?xa ?xs ?xe ?_; (case xa => k_is); (case xs => k_is); (case xe => decide +kernel)
      refine' .cons ?xa ?xs ?xe ?_; (case xa => k_is); (case xs => k_is); (case xe => decide +kernel)
      refine' .cons ?xa ?xs ?xe ?_; (case xa => k_is); (case xs => k_is); (case xe => decide +kernel)
      refine' .cons ?xa ?xs ?xe ?_; (case xa => k_is); (case xs => k_is); (case xe => decide +kernel)
      refine' .cons ?xa ?xs ?xe ?_; (case xa => k_is); (case xs => k_is); (case xe => decide +kernel)
      refine' .cons ?xa ?xs ?xe ?_; (case xa => k_is); (case xs => k_is); (case xe => decide +kernel)
      refine' .cons ?xa ?xs ?xe ?_; (case xa => k_is); (case xs => k_is); (case xe => decide +kernel)
      refine' .cons ?xa ?xs ?xe ?_; (case xa => k_is); (case xs => k_is); (case xe => decide +kernel)
      refine' .cons ?xa ?xs ?xe ?_; (case xa => k_is); (case xs => k_is); (case xe => decide +kernel)
      refine' .cons ?xa ?xs ?xe ?_; (case xa => k_is); (case xs => k_is); (case xe => decide +kernel)
      refine' .cons ?xa ?xs ?xe ?_; (case xa => k_is); (case xs => k_is); (case xe => decide +kernel)
      refine' .cons ?xa ?xs ?xe ?_; (case xa => k_is); (case xs => k_is); (case xe => decide +kernel)
      refine' .cons ?xa ?xs ?xe ?_; (case xa => k_is); (case xs => k_is); (case xe => decide +kernel)
      refine' .cons ?xa ?xs ?xe ?_; (case xa => k_is); (case xs => k_is); (case xe => decide +kernel)
      refine' .cons ?xa ?xs ?xe ?_; (case xa => k_is); (case xs => k_is); (case xe => decide +kernel)
      exact .nil
    exact .nil
