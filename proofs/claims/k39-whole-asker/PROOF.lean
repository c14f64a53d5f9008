import PyProof.Rows.All
import Wide.All
import OpenK.AllK
import Wide.FinOn
import PyProof.EqAt
import PyProof.EqKinds
import PyProof.TupleCall
import KE.GoesZip
import KE.GoesMore
import KE.GoesEnumKw
import KE.KDictWalk
import HandS.ForMost
import HandS.Zip0
import KE.KExcInit
import HandS.Exc
import HandS.TryOnly
import HandS.ExcOwn
import HandS.WordsExc
import HandS.Defaults
import PySem.Challenge.RW_leasepair_k39_whole_asker_by_a_plain_one
import PyProof.ReprBulk
import PyProof.ReprRoads
import PyProof.ReprStr
import KE.KAssignIn
import HandS.MakeKwOnly
import HandS.CallLocal
import HandS.IsInst
import HandS.More
import HandS.NoneIn
import HandS.Wide
import HandS.Flow
import HandS.Iter
import HandS.Ends
import HandS.HeadEnd
import HandS.HeadHook1
import HandS.HeadHook2
import HandS.HeadHook3
import HandS.HeadHook4
import KE.KStateDown
import Lean
import HandS.Head0
import HandS.Head1
import HandS.Head2
import HandS.Walk
import PyProof.StrLawsRepr
set_option Elab.async false
set_option maxRecDepth 100000
set_option maxHeartbeats 4000000
/-! zip(d, t, strict=True): d a dict of the written part whose keys are texts, t a tuple of as many items. -/
namespace K39
open PySem PySem.Spec PyProof.Rows L2

/-! ### the machine's side -/
/-- a strict zip object over two iterators (their pair at TI, its own pair at TO) -/
abbrev ZipS (h : Heap) (z TI TO : Addr) (f0 : Value) : Prop :=
  h.get? z = some { cls := .type "zip", dict := none, data := .fields #[f0, .bool false, .bool true, .ref TI, .ref TO], slots := #[] }

section
variable {prog : Program} {w : World} {A : Around} {E : Value → Shared → Prop} {s : Shared}

theorem keysNext {it d : Addr} {i ep : Nat} {es : Array DictEntry} {Q : Value → Shared → Prop} (hit : s.heap.IsKeyIter it d i es.size ep) (hm : s.heap.DictRaw d es ep) (hlt' : i < es.size)
    (hQ : ∀ h', h'.IsKeyIter it d (i + 1) es.size ep → Heap.SameBut it s.heap h' → Q es[i].key { s with heap := h' }) :
    wpAny (model prog w) A (Builtin.SmallTypes.nextOf (.ref it)) Q E s := by
  obtain ⟨o, ho, hc, hd⟩ := id hit
  obtain ⟨od, hod, hcd, hdd⟩ := id hm
  unfold Builtin.SmallTypes.nextOf
  refine wpAny_bind (wpAny_callSpecial?_slot (name := Str.ofString "__next__") hit.typeIs PySem.F.slot_dict_keyiterator_next
    (wpAny_call_entry PySem.F.slot_dict_keyiterator_next hit.typeIs PySem.F.entry_dict_keyiterator_next ?_ (PySem.F.args_dict_keyiterator_next_1 _)))
  refine wpAny_bind (wpAny_pure (wpAny_bind (wpAny_bind ?_)))
  first | refine wpAny_bind (wpAny_typeNameOfWhole_keyiter hit.typeIs (wpAny_pure ?_)) | refine wpAny_bind (wpAny_typeNameOf_keyiter hit.typeIs (wpAny_pure ?_))
  refine wpAny_bind (wpAny_fieldsOf ho hd ?_)
  have hown : Builtin.Dict_items.ownsTuple "dict_keyiterator" = false := by decide
  simp only [hown, Bool.false_eq_true, if_false]
  show wpAny _ _ (if (Value.ref d == Value.none) = true then _ else _) _ _ s
  rw [if_neg (show ¬ ((Value.ref d == Value.none) = true) from Bool.false_ne_true)]
  refine wpAny_bind (wpAny_pure (wpAny_bind (wpAny_dictEntries hod hdd ?_)))
  rw [if_neg (by simp)]
  refine wpAny_bind (wpAny_pure (wpAny_bind (wpAny_dictEpoch hod hdd ?_)))
  rw [if_neg (by simp)]
  refine wpAny_pure ?_
  simp only [show ¬ ((i : Int) < 0) from by omega, if_false, Int.toNat_natCast, Array.getElem?_eq_getElem hlt']
  refine wpAny_bind ?_
  first | refine wpAny_bind (wpAny_typeNameOfWhole_keyiter hit.typeIs (wpAny_pure ?_)) | refine wpAny_bind (wpAny_typeNameOf_keyiter hit.typeIs (wpAny_pure ?_))
  refine wpAny_bind (wpAny_isOneOf_keyiter hit.typeIs ?_)
  show wpAny _ _ (setField (.ref it) 1 (rawInt ((i : Int) + 1)) >>= _) _ _ s
  refine wpAny_bind (wpAny_setField ho hd (by simp) ?_)
  have hit' : (s.heap.update it (Obj.mapFields (·.setIfInBounds 1 (rawInt ((i : Int) + 1))))).IsKeyIter it d (i + 1) es.size ep :=
    ⟨_, Heap.get?_update_self _ ho (Obj.isFreed_of_fields (Obj.data_mapFields hd _)), (Obj.cls_mapFields ..).trans hc, by rw [Obj.data_mapFields hd]; simp [rawInt]⟩
  refine wpAny_bind (wpAny_holding ?_)
  refine wpAny_bind (wpAny_isOneOf_keyiter (s := { s with heap := s.heap.update it (Obj.mapFields (·.setIfInBounds 1 (rawInt ((i : Int) + 1)))) }) hit'.typeIs ?_)
  show wpAny _ _ (pure es[i].key) _ _ _
  exact wpAny_pure (wpAny_pure ⟨_, rfl, wpAny_pure (hQ _ hit' (Heap.SameBut.update ..))⟩)

theorem keysEnd {it d : Addr} {i ep : Nat} {es : Array DictEntry} {Q : Value → Shared → Prop} (hh : A.handled = none) (hit : s.heap.IsKeyIter it d i es.size ep) (hm : s.heap.DictRaw d es ep) (hge : es.size ≤ i)
    (hE : ∀ h' e, Heap.ExtBut it s.heap h' → (∃ o, h'.get? e = some o ∧ o.cls = .type "StopIteration") → E (.ref e) { s with heap := h' }) :
    wpAny (model prog w) A (Builtin.SmallTypes.nextOf (.ref it)) Q E s := by
  obtain ⟨o, ho, hc, hd⟩ := id hit
  obtain ⟨od, hod, hcd, hdd⟩ := id hm
  unfold Builtin.SmallTypes.nextOf
  refine wpAny_bind (wpAny_callSpecial?_slot (name := Str.ofString "__next__") hit.typeIs PySem.F.slot_dict_keyiterator_next
    (wpAny_call_entry PySem.F.slot_dict_keyiterator_next hit.typeIs PySem.F.entry_dict_keyiterator_next ?_ (PySem.F.args_dict_keyiterator_next_1 _)))
  refine wpAny_bind (wpAny_pure (wpAny_bind (wpAny_bind ?_)))
  first | refine wpAny_bind (wpAny_typeNameOfWhole_keyiter hit.typeIs (wpAny_pure ?_)) | refine wpAny_bind (wpAny_typeNameOf_keyiter hit.typeIs (wpAny_pure ?_))
  refine wpAny_bind (wpAny_fieldsOf ho hd ?_)
  have hown : Builtin.Dict_items.ownsTuple "dict_keyiterator" = false := by decide
  simp only [hown, Bool.false_eq_true, if_false]
  show wpAny _ _ (if (Value.ref d == Value.none) = true then _ else _) _ _ s
  rw [if_neg (show ¬ ((Value.ref d == Value.none) = true) from Bool.false_ne_true)]
  refine wpAny_bind (wpAny_pure (wpAny_bind (wpAny_dictEntries hod hdd ?_)))
  rw [if_neg (by simp)]
  refine wpAny_bind (wpAny_pure (wpAny_bind (wpAny_dictEpoch hod hdd ?_)))
  rw [if_neg (by simp)]
  refine wpAny_pure ?_
  simp only [show ¬ ((i : Int) < 0) from by omega, if_false, Int.toNat_natCast, Array.getElem?_eq_none hge]
  refine wpAny_bind ?_
  first | refine wpAny_bind (wpAny_typeNameOfWhole_keyiter hit.typeIs (wpAny_pure ?_)) | refine wpAny_bind (wpAny_typeNameOf_keyiter hit.typeIs (wpAny_pure ?_))
  show wpAny _ _ (setField (.ref it) 0 .none >>= _) _ _ s
  refine wpAny_bind (wpAny_setField ho hd (by simp) ?_)
  show wpAny _ _ (newExc (.type "StopIteration") [] >>= _) _ _ _
  refine wpAny_bind ?_
  simp only [newExc, newTuple]
  refine wpAny_bind (wpAny_newObj_type ?_ (by size_fits))
  refine wpAny_bind (m := firstArgMember _ _) (wpAny_of_eq (a := Value.none) (by first | rfl | (simp only [firstArgMember]; rfl)) ?_)
  refine wpAny_newObj_type ?_ (by size_fits)
  simp only [raiseNew]
  refine wpAny_bind (wpAny_handled ?_)
  first | rw [show A.in1.handled = none from hh] | rw [hh]
  refine wpAny_bind (wpAny_pure (wpAny_throw ?_))
  exact hE _ _ (((Heap.SameBut.update ..).extBut.push _).push _) ⟨_, Heap.get?_push_size _ rfl, rfl⟩

/-- a dict's keys as an iterator that a zip draws from -/
theorem drawsKeys (hh : A.handled = none) (it d : Addr) (hne : d ≠ it) (es : Array DictEntry) (ep : Nat) :
    Draws prog w A it [it, d] es.size (fun i v => ∃ hi : i < es.size, v = es[i].key) (fun i h => h.IsKeyIter it d i es.size ep ∧ h.DictRaw d es ep) where
  live := fun _ _ st => let ⟨o, ho, _⟩ := st.1; ⟨o, ho⟩
  frame := fun _ _ _ st hk => ⟨let ⟨o, ho, r⟩ := st.1; ⟨o, hk it (by simp) o ho, r⟩, st.2.at fun o e => hk d (by simp) o e⟩
  item := fun i s Q E hi st hQ => by
    refine keysNext st.1 st.2 hi fun h' hit' hs' => ?_
    exact hQ _ h' s.toks ⟨hi, rfl⟩ ⟨hit', st.2.at fun o e => (hs'.2 d hne).trans e⟩ hs'
  done := fun s Q E st hE => keysEnd hh st.1 st.2 (Nat.le_refl _) hE

variable {it : Addr} {fp : List Addr} {n i : Nat} {P : Nat → Value → Prop} {S : Nat → Heap → Prop}
theorem drawOrEnd (D : Draws prog w A it fp n P S) {Q : Option Value → Shared → Prop} (hi : i < n) (st : S i s.heap)
    (hQ : ∀ x h' tk, P i x → S (i + 1) h' → Heap.SameBut it s.heap h' → Q (some x) { s with heap := h', toks := tk }) :
    wpAny (model prog w) A (Builtin.SmallTypes.nextOrEnd (.ref it)) Q E s := by
  unfold Builtin.SmallTypes.nextOrEnd
  exact wpAny_bind (wpAny_attempt (D.item i s _ _ hi st fun x h' tk hp hs hb => wpAny_pure (hQ x h' tk hp hs hb)))
theorem drawOrEnd_end (D : Draws prog w A it fp n P S) {Q : Option Value → Shared → Prop} (st : S n s.heap)
    (hQ : ∀ h', Heap.ExtBut it s.heap h' → Q none { s with heap := h' }) :
    wpAny (model prog w) A (Builtin.SmallTypes.nextOrEnd (.ref it)) Q E s := by
  unfold Builtin.SmallTypes.nextOrEnd
  refine wpAny_bind (wpAny_attempt (D.done s _ _ st fun h' e hx he => ?_))
  obtain ⟨o, ho, hc⟩ := he
  refine wpAny_bind (wpAny_isInstance (T := "StopIteration") (b := true) ⟨o, ho, hc⟩ isSubtype_stop ?_)
  exact wpAny_pure (hQ _ hx)
end
end K39
set_option Elab.async false
set_option maxRecDepth 100000
set_option maxHeartbeats 4000000
namespace K39
open PySem PySem.Spec PyProof.Rows L2

section
variable {prog : Program} {w : World} {A : Around} {E : Value → Shared → Prop} {s : Shared} {z TI TO i1 i2 : Addr} {fp1 fp2 : List Addr} {n i : Nat} {P1 P2 : Nat → Value → Prop} {S1 S2 : Nat → Heap → Prop} {a1 a2 : Value}

theorem zipSNext {Q : Value → Shared → Prop} (S : ZipSep2 z TI TO i1 i2 fp1 fp2) (D1 : Draws prog w A i1 fp1 n P1 S1) (D2 : Draws prog w A i2 fp2 n P2 S2)
    (hz : ZipS s.heap z TI TO .none) (hTI : IsTupOf2 s.heap TI (.ref i1) (.ref i2)) (hTO : IsTupOf2 s.heap TO a1 a2) (st1 : S1 i s.heap) (st2 : S2 i s.heap) (hlt : i < n)
    (hQ : ∀ x1 x2 h' tk, P1 i x1 → P2 i x2 → ZipS h' z TI TO (rawInt s.heap.objs.size) → IsTupOf2 h' TO x1 x2 → S1 (i + 1) h' → S2 (i + 1) h' → IsTupOf2 h' s.heap.objs.size x1 x2 → h'.objs.size = s.heap.objs.size + 1 →
      (∀ c o, c ≠ z → c ≠ TO → c ≠ i1 → c ≠ i2 → s.heap.get? c = some o → h'.get? c = some o) → Q (.ref s.heap.objs.size) { s with heap := h', toks := tk }) :
    wpAny (model prog w) A (Builtin.«zip.__next__» ⟨[.ref z], []⟩) (fun fin s' => ∃ v, fin = .done (.ret v) ∧ Q v s') E s := by
  obtain ⟨hp, g, d, tk0, os⟩ := s
  show wpAny _ _ (field (.ref z) 2 >>= _) _ _ _
  refine wpAny_bind (wpAny_field hz rfl (x := .bool true) rfl ?_)
  show wpAny _ _ (field (.ref z) 3 >>= _) _ _ _
  refine wpAny_bind (wpAny_field hz rfl (x := .ref TI) rfl (wpAny_bind (wpAny_seqItems hTI rfl ?_)))
  show wpAny _ _ (Builtin.SmallTypes.ownedTupleIsFree (.ref z) >>= _) _ _ _
  refine wpAny_bind ?_
  unfold Builtin.SmallTypes.ownedTupleIsFree
  refine wpAny_bind (wpAny_field hz rfl (x := .none) rfl (wpAny_pure ?_))
  simp only [if_true]
  refine wpAny_bind (wpAny_rule (wpAny_bind (wpAny_field hz rfl (x := .ref TO) rfl ?_)))
  refine wpAny_bind (wpAny_setField_rec hz (by simp) fun g0 hz0 hs0 => ?_)
  replace hz0 : ZipS g0 z TI TO .ellipsis := hz0
  replace hs0 : Heap.SameBut z hp g0 := hs0
  refine wpAny_bind ?_
  simp only [List.zipIdx_cons, List.zipIdx_nil, List.forIn_cons, List.forIn_nil]
  refine wpAny_bind (wpAny_bind (wpAny_onRaise ?_))
  show wpAny _ _ (Builtin.SmallTypes.nextOrEnd (.ref i1)) _ _ ⟨g0, g, d, tk0, os⟩
  refine drawOrEnd D1 hlt (D1.over st1 hs0 S.zf1) fun x1 p1 tk1 hx1 sn1 hp1 => ?_
  replace hp1 : Heap.SameBut i1 g0 p1 := hp1
  have hU1 : IsTupOf2 p1 TO a1 a2 := hp1.extBut _ _ S.Ti1 (hs0.extBut _ _ S.TOz hTO)
  refine wpAny_bind (wpAny_seqItems (s := ⟨p1, g, d, tk1, os⟩) hU1 rfl ?_)
  refine wpAny_bind (updateSeq_IsTupOf2 (s := ⟨p1, g, d, tk1, os⟩) hU1 fun g1 hT1 hs1 => ?_)
  replace hT1 : IsTupOf2 g1 TO x1 a2 := hT1
  replace hs1 : Heap.SameBut TO p1 g1 := hs1
  refine wpAny_bind (wpAny_letGo (wpAny_pure ?_))
  refine wpAny_bind (wpAny_bind (wpAny_onRaise ?_))
  show wpAny _ _ (Builtin.SmallTypes.nextOrEnd (.ref i2)) _ _ ⟨g1, g, d, tk1, os⟩
  refine drawOrEnd D2 hlt (D2.over (D2.over (D2.over st2 hs0 S.zf2) hp1 S.sep1_2) hs1 S.Tf2) fun x2 p2 tk2 hx2 sn2 hp2 => ?_
  replace hp2 : Heap.SameBut i2 g1 p2 := hp2
  have hU2 : IsTupOf2 p2 TO x1 a2 := hp2.extBut _ _ S.Ti2 hT1
  refine wpAny_bind (wpAny_seqItems (s := ⟨p2, g, d, tk2, os⟩) hU2 rfl ?_)
  refine wpAny_bind (updateSeq_IsTupOf2 (s := ⟨p2, g, d, tk2, os⟩) hU2 fun g2 hT2 hs2 => ?_)
  replace hT2 : IsTupOf2 g2 TO x1 x2 := hT2
  replace hs2 : Heap.SameBut TO p2 g2 := hs2
  refine wpAny_bind (wpAny_letGo (wpAny_pure (wpAny_pure ?_)))
  refine wpAny_bind (wpAny_seqItems (s := ⟨g2, g, d, tk2, os⟩) hT2 rfl ?_)
  refine wpAny_bind (wpAny_newTuple ?_)
  have hsz : g2.objs.size = hp.objs.size := by rw [hs2.1, hp2.1, hs1.1, hp1.1, hs0.1]
  have hzz : ZipS g2 z TI TO .ellipsis := hs2.extBut _ _ S.TOz.symm (hp2.extBut _ _ S.zi2 (hs1.extBut _ _ S.TOz.symm (hp1.extBut _ _ S.zi1 hz0)))
  have hkk : ∀ c o, c ≠ z → c ≠ TO → c ≠ i1 → c ≠ i2 → hp.get? c = some o → g2.get? c = some o := fun c o cz cT c1 c2 e =>
    hs2.extBut _ _ cT (hp2.extBut _ _ c2 (hs1.extBut _ _ cT (hp1.extBut _ _ c1 (hs0.extBut _ _ cz e))))
  have hj1 : S1 (i + 1) g2 := D1.over (D1.over (D1.over sn1 hs1 S.Tf1) hp2 S.sep2_1) hs2 S.Tf1
  have hj2 : S2 (i + 1) g2 := D2.over sn2 hs2 S.Tf2
  have hzlt : z < g2.objs.size := Heap.lt_size hzz
  show wpAny _ _ (Builtin.SmallTypes.ownedTupleHandOut (.ref z) (.ref g2.objs.size) >>= _) _ _ ⟨g2.push { cls := .type "tuple", data := .seq #[x1, x2] }, g, d, tk2, os⟩
  refine wpAny_bind ?_
  unfold Builtin.SmallTypes.ownedTupleHandOut
  have hz6 : ZipS (g2.push { cls := .type "tuple", data := .seq #[x1, x2] }) z TI TO .ellipsis := Heap.get?_push_of_some _ hzz
  refine wpAny_bind (wpAny_setField_rec hz6 (by simp) fun h7 hz7 hs7 => ?_)
  replace hz7 : ZipS h7 z TI TO (rawInt g2.objs.size) := hz7
  refine wpAny_setField_rec hz7 (by simp) fun h8 hz8 hs8 => ?_
  replace hz8 : ZipS h8 z TI TO (rawInt g2.objs.size) := hz8
  replace hs7 : Heap.SameBut z (g2.push { cls := .type "tuple", data := .seq #[x1, x2] }) h7 := hs7
  replace hs8 : Heap.SameBut z h7 h8 := hs8
  have up : ∀ c o, c ≠ z → g2.get? c = some o → h8.get? c = some o := fun c o c1 e => hs8.extBut _ _ c1 (hs7.extBut _ _ c1 (Heap.get?_push_of_some _ e))
  have hT8 : IsTupOf2 h8 g2.objs.size x1 x2 := hs8.extBut _ _ (Nat.ne_of_gt hzlt) (hs7.extBut _ _ (Nat.ne_of_gt hzlt) (Heap.get?_push_size _ rfl))
  have hn8 : h8.objs.size = g2.objs.size + 1 := by rw [hs8.1, hs7.1, Heap.size_push]
  rw [hsz] at hz8 hT8 hn8
  refine wpAny_pure ⟨_, rfl, ?_⟩
  show Q (.ref g2.objs.size) ⟨h8, g, d, tk2, os⟩
  rw [hsz]
  exact hQ x1 x2 h8 tk2 hx1 hx2 hz8 (up _ _ S.TOz hT2) (D1.frame _ _ _ hj1 fun b hb o e => up b o (fun q => S.zf1 (q ▸ hb)) e) (D2.frame _ _ _ hj2 fun b hb o e => up b o (fun q => S.zf2 (q ▸ hb)) e) hT8 hn8 fun c o cz cT c1 c2 e => up c o cz (hkk c o cz cT c1 c2 e)

theorem zipSEnd {Q : Fin → Shared → Prop} (hh : A.handled = none) (S : ZipSep2 z TI TO i1 i2 fp1 fp2) (D1 : Draws prog w A i1 fp1 n P1 S1) (D2 : Draws prog w A i2 fp2 n P2 S2)
    (hz : ZipS s.heap z TI TO .none) (hTI : IsTupOf2 s.heap TI (.ref i1) (.ref i2)) (st1 : S1 n s.heap) (st2 : S2 n s.heap) 
    (hE : ∀ h' tk e, (∀ c o, c ≠ z → c ≠ TO → c ≠ i1 → c ≠ i2 → s.heap.get? c = some o → h'.get? c = some o) → (∃ o, h'.get? e = some o ∧ o.cls = .type "StopIteration") → E (.ref e) { s with heap := h', toks := tk }) :
    wpAny (model prog w) A (Builtin.«zip.__next__» ⟨[.ref z], []⟩) Q E s := by
  obtain ⟨hp, g, d, tk0, os⟩ := s
  show wpAny _ _ (field (.ref z) 2 >>= _) _ _ _
  refine wpAny_bind (wpAny_field hz rfl (x := .bool true) rfl ?_)
  show wpAny _ _ (field (.ref z) 3 >>= _) _ _ _
  refine wpAny_bind (wpAny_field hz rfl (x := .ref TI) rfl (wpAny_bind (wpAny_seqItems hTI rfl ?_)))
  show wpAny _ _ (Builtin.SmallTypes.ownedTupleIsFree (.ref z) >>= _) _ _ _
  refine wpAny_bind ?_
  unfold Builtin.SmallTypes.ownedTupleIsFree
  refine wpAny_bind (wpAny_field hz rfl (x := .none) rfl (wpAny_pure ?_))
  simp only [if_true]
  refine wpAny_bind (wpAny_rule (wpAny_bind (wpAny_field hz rfl (x := .ref TO) rfl ?_)))
  refine wpAny_bind (wpAny_setField_rec hz (by simp) fun g0 hz0 hs0 => ?_)
  replace hz0 : ZipS g0 z TI TO .ellipsis := hz0
  replace hs0 : Heap.SameBut z hp g0 := hs0
  refine wpAny_bind ?_
  simp only [List.zipIdx_cons, List.zipIdx_nil, List.forIn_cons, List.forIn_nil]
  refine wpAny_bind (wpAny_bind (wpAny_onRaise ?_))
  show wpAny _ _ (Builtin.SmallTypes.nextOrEnd (.ref i1)) _ _ ⟨g0, g, d, tk0, os⟩
  refine drawOrEnd_end D1 (D1.over st1 hs0 S.zf1) fun p1 hp1 => ?_
  replace hp1 : Heap.ExtBut i1 g0 p1 := hp1
  have hzp : ZipS p1 z TI TO .ellipsis := hp1 _ _ S.zi1 hz0
  refine wpAny_bind (wpAny_setField_rec (s := ⟨p1, g, d, tk0, os⟩) hzp (by simp) fun g1 hz1 hs1 => ?_)
  replace hs1 : Heap.SameBut z p1 g1 := hs1
  have st2' : S2 n g1 := by
    have q0 := D2.over st2 hs0 S.zf2
    exact D2.frame n g0 g1 q0 fun b hb o e => hs1.extBut _ _ (fun q => S.zf2 (q ▸ hb)) (hp1 _ _ (fun q => S.sep1_2 (q ▸ hb)) e)
  refine wpAny_bind (wpAny_bind (wpAny_bind ?_))
  show wpAny _ _ (Builtin.SmallTypes.nextOrEnd (.ref i2) >>= _) _ _ _
  refine wpAny_bind (drawOrEnd_end (s := ⟨g1, g, d, tk0, os⟩) D2 st2' fun p2 hp2 => ?_)
  replace hp2 : Heap.ExtBut i2 g1 p2 := hp2
  show wpAny _ _ (pure (ForInStep.yield PUnit.unit)) _ _ _
  refine wpAny_pure ?_
  show wpAny _ _ (pure PUnit.unit) _ _ _
  refine wpAny_pure (wpAny_bind (wpAny_rule ?_))
  show wpAny _ _ (newExc (.type "StopIteration") [] >>= _) _ _ _
  refine wpAny_bind ?_
  simp only [newExc, newTuple]
  refine wpAny_bind (wpAny_newObj_type ?_ (by size_fits))
  refine wpAny_bind (m := firstArgMember _ _) (wpAny_of_eq (a := Value.none) (by first | rfl | (simp only [firstArgMember]; rfl)) ?_)
  refine wpAny_newObj_type ?_ (by size_fits)
  simp only [raiseNew]
  refine wpAny_bind (wpAny_handled ?_)
  first | rw [show A.in1.handled = none from hh] | rw [hh]
  refine wpAny_bind (wpAny_pure (wpAny_throw ?_))
  refine hE _ _ _ (fun c o cz cT c1 c2 e => ?_) ⟨_, Heap.get?_push_size _ rfl, rfl⟩
  exact Heap.get?_push_of_some _ (Heap.get?_push_of_some _ (hp2 _ _ c2 (hs1.extBut _ _ cz (hp1 _ _ c1 (hs0.extBut _ _ cz e)))))

theorem pyNextS {Q : Option Value → Shared → Prop} (S : ZipSep2 z TI TO i1 i2 fp1 fp2) (D1 : Draws prog w A.in1 i1 fp1 n P1 S1) (D2 : Draws prog w A.in1 i2 fp2 n P2 S2)
    (hz : ZipS s.heap z TI TO .none) (hTI : IsTupOf2 s.heap TI (.ref i1) (.ref i2)) (hTO : IsTupOf2 s.heap TO a1 a2) (st1 : S1 i s.heap) (st2 : S2 i s.heap) (hlt : i < n)
    (hQ : ∀ x1 x2 h' tk, P1 i x1 → P2 i x2 → ZipS h' z TI TO (rawInt s.heap.objs.size) → IsTupOf2 h' TO x1 x2 → S1 (i + 1) h' → S2 (i + 1) h' → IsTupOf2 h' s.heap.objs.size x1 x2 → h'.objs.size = s.heap.objs.size + 1 →
      (∀ c o, c ≠ z → c ≠ TO → c ≠ i1 → c ≠ i2 → s.heap.get? c = some o → h'.get? c = some o) → Q (some (.ref s.heap.objs.size)) { s with heap := h', toks := tk }) :
    wpAny (model prog w) A (pyNext (.ref z)) Q E s := by
  have hT : s.TypeIs (.ref z) "zip" := ⟨_, hz, rfl⟩
  unfold pyNext
  exact wpAny_bind (wpAny_attempt (wpAny_callSpecial?_slot (name := Str.ofString "__next__") hT PySem.F.slot_zip_next
    (wpAny_call_entry PySem.F.slot_zip_next hT PySem.F.entry_zip_next
      (zipSNext S D1 D2 hz hTI hTO st1 st2 hlt fun x1 x2 h' tk y1 y2 b1 b2 d1 d2 b5 b6 b7 => wpAny_pure (hQ x1 x2 h' tk y1 y2 b1 b2 d1 d2 b5 b6 b7)) (PySem.F.args_zip_next_1 _))))

theorem pyNextS_end {Q : Option Value → Shared → Prop} (hh : A.handled = none) (S : ZipSep2 z TI TO i1 i2 fp1 fp2) (D1 : Draws prog w A.in1 i1 fp1 n P1 S1) (D2 : Draws prog w A.in1 i2 fp2 n P2 S2)
    (hz : ZipS s.heap z TI TO .none) (hTI : IsTupOf2 s.heap TI (.ref i1) (.ref i2)) (st1 : S1 n s.heap) (st2 : S2 n s.heap)
    (hQ : ∀ h' tk, (∀ c o, c ≠ z → c ≠ TO → c ≠ i1 → c ≠ i2 → s.heap.get? c = some o → h'.get? c = some o) → Q none { s with heap := h', toks := tk }) : wpAny (model prog w) A (pyNext (.ref z)) Q E s := by
  have hT : s.TypeIs (.ref z) "zip" := ⟨_, hz, rfl⟩
  unfold pyNext
  refine wpAny_bind (wpAny_attempt (wpAny_callSpecial?_slot (name := Str.ofString "__next__") hT PySem.F.slot_zip_next
    (wpAny_call_entry PySem.F.slot_zip_next hT PySem.F.entry_zip_next (zipSEnd hh S D1 D2 hz hTI st1 st2 fun h' tk e hk he => ?_) (PySem.F.args_zip_next_1 _))))
  obtain ⟨o, ho, hc⟩ := he
  refine wpAny_bind (wpAny_isInstance (T := "StopIteration") (b := true) ⟨o, ho, hc⟩ isSubtype_stop ?_)
  exact wpAny_pure (hQ _ _ hk)

theorem letGoS {elts : List Expr} {x1} {pos : Pos} {T : Addr} {Q : Unit → Shared → Prop} (hz : ZipS s.heap z TI TO (rawInt T))
    (hQ : ∀ h', ZipS h' z TI TO .none → Heap.SameBut z s.heap h' → Q () { s with heap := h' }) :
    wpAny (model prog w) A (letOwnedTupleGo (.Tuple elts x1 pos) (.ref z) (.ref T)) Q E s := by
  unfold letOwnedTupleGo
  refine wpAny_bind (wpAny_load hz ?_)
  show wpAny _ _ (if (["enumerate", "zip", "dict_itemiterator", "dict_reverseitemiterator", "odict_iterator", "itertools.zip_longest", "itertools.pairwise"].contains "zip" &&
      (#[rawInt T, .bool false, .bool true, .ref TI, .ref TO] : Array Value)[0]? == some (rawInt T)) = true then _ else _) Q E s
  rw [if_pos (by simp)]
  refine wpAny_bind (wpAny_rule ?_)
  show wpAny _ _ (setField (.ref z) 0 .none) Q E s
  exact wpAny_setField_rec hz (by simp) fun h' hz' hs' => hQ h' hz' hs'

theorem pyIterS {f0 : Value} {Q : Value → Shared → Prop} (hz : ZipS s.heap z TI TO f0) (h : Q (.ref z) s) : wpAny (model prog w) A (pyIter (.ref z)) Q E s := by
  have hT : s.TypeIs (.ref z) "zip" := ⟨_, hz, rfl⟩
  refine wpAny_pyIter_slot hT PySem.F.slot_zip_iter (wpAny_call_entry PySem.F.slot_zip_iter hT PySem.F.entry_zip_iter ?_ (PySem.F.args_zip_iter_1 _))
  show wpAny _ _ (ret (.ref z)) _ _ s
  exact wpAny_pure ⟨_, rfl, "zip", _, hT, PySem.F.slot_zip_next.lookup, h⟩
end
end K39
set_option Elab.async false
set_option maxRecDepth 100000
set_option maxHeartbeats 4000000
namespace K39
open PySem PySem.Spec PyProof.Rows L2

theorem typeCall_strict (a b c : Value) : checkTypeCall "zip" ⟨[a, b], [(Str.ofString "strict", c)]⟩ = pure () := by kernel_rfl
theorem newCall_strict (a b c : Value) : checkBuiltinCall "zip.__new__" ⟨[.type "zip", a, b], [(Str.ofString "strict", c)]⟩ = pure () := by kernel_rfl
theorem initArgs_strict (obj a b c : Value) : argsOk "object.__init__" ⟨[obj, a, b], [(Str.ofString "strict", c)]⟩ := by unfold argsOk; kernel_rfl

abbrev zs1 (h : Heap) (d : Addr) (n ep : Nat) : Heap := h.push { cls := .type "dict_keyiterator", data := .fields #[.ref d, .int 0 0, .int n 0, .int ep 0] }
abbrev zs2 (h : Heap) (d t : Addr) (n ep : Nat) : Heap := (zs1 h d n ep).push { cls := .type "tuple_iterator", data := .fields #[.ref t, .int 0 0] }
abbrev zs3 (h : Heap) (d t : Addr) (n ep : Nat) : Heap := (zs2 h d t n ep).push { cls := .type "tuple", data := .seq #[.ref h.objs.size, .ref (zs1 h d n ep).objs.size] }
abbrev zs4 (h : Heap) (d t : Addr) (n ep : Nat) : Heap := (zs3 h d t n ep).push { cls := .type "tuple", data := .seq #[.none, .none] }
abbrev zs5 (h : Heap) (d t : Addr) (n ep : Nat) : Heap := (zs4 h d t n ep).push { cls := .type "zip", data := .fields #[.none, .bool false, .bool true, .ref (zs2 h d t n ep).objs.size, .ref (zs3 h d t n ep).objs.size] }

theorem meets_zipS (d t : Addr) (es : Array DictEntry) (ep : Nat) (ys : Array Value) (hd : (d == sysModules) = false) :
    Meets (Builtin.«zip.__new__» ⟨[.type "zip", .ref d, .ref t], [(Str.ofString "strict", .bool true)]⟩) (fun _ R s => s.heap.DictRaw d es ep ∧ s.heap.IsTuple t ys ∧
      R (.ok (.ret (.ref (zs4 s.heap d t es.size ep).objs.size))) { s with heap := zs5 s.heap d t es.size ep }) :=
  .of_wp fun prog w A R s h => by
    obtain ⟨hp, g, dr, tk, os⟩ := s; obtain ⟨hl1, hl2, h⟩ := h
    have hsub := sub_zip
    have hL2 : Heap.IsTuple (Shared.heap ⟨zs1 hp d es.size ep, g, dr, tk, os⟩) t ys := Heap.IsTuple.push hl2 _
    have q1 : ∀ {A' : Around} {E : Value → Shared → Prop} {Q : Value → Shared → Prop}, Q (.ref hp.objs.size) ⟨zs1 hp d es.size ep, g, dr, tk, os⟩ → wpAny (model prog w) A' (pyIter (.ref d)) Q E ⟨hp, g, dr, tk, os⟩ :=
      fun q => wpAny_pyIter_dict_raw (s := ⟨hp, g, dr, tk, os⟩) hd hl1 q
    have e2 : (Str.ofString "strict" != ("strict" : Str)) = false := by decide +kernel
    wp_walk using q1, wpAny_pyIter_tuple hL2
    exact ⟨_, rfl, h⟩

section
variable {prog : Program} {w : World} {A : Around} {E : Value → Shared → Prop} {s : Shared}
theorem call_zipS {d t : Addr} {es : Array DictEntry} {ep : Nat} {ys : Array Value} {Q : Value → Shared → Prop} (hd : (d == sysModules) = false) (hl1 : s.heap.DictRaw d es ep) (hl2 : s.heap.IsTuple t ys)
    (h : ∀ h', ZipS h' (s.heap.objs.size + 4) (s.heap.objs.size + 2) (s.heap.objs.size + 3) .none → IsPair h' (s.heap.objs.size + 2) (.ref s.heap.objs.size) (.ref (s.heap.objs.size + 1)) →
      IsPair h' (s.heap.objs.size + 3) .none .none → h'.IsKeyIter s.heap.objs.size d 0 es.size ep → h'.IsTupleIter (s.heap.objs.size + 1) t 0 → h'.objs.size = s.heap.objs.size + 5 →
      (∀ c o, s.heap.get? c = some o → h'.get? c = some o) → Q (.ref (s.heap.objs.size + 4)) { s with heap := h' }) :
    wpAny (model prog w) A (call (.type "zip") [.ref d, .ref t] [(Str.ofString "strict", .bool true)]) Q E s := by
  refine callType_newKw PySem.F.called_zip (by decide) (typeCall_strict _ _ _) (newCall_strict _ _ _) (fun obj => initArgs_strict obj _ _ _) PySem.F.entry_zip_new
    (meets_zipS d t es ep ys hd) ⟨hl1, hl2, ?_⟩
  have z1 : (zs1 s.heap d es.size ep).objs.size = s.heap.objs.size + 1 := Heap.size_push ..
  have z2 : (zs2 s.heap d t es.size ep).objs.size = s.heap.objs.size + 2 := by rw [Heap.size_push, z1]
  have z3 : (zs3 s.heap d t es.size ep).objs.size = s.heap.objs.size + 3 := by rw [Heap.size_push, z2]
  have z4 : (zs4 s.heap d t es.size ep).objs.size = s.heap.objs.size + 4 := by rw [Heap.size_push, z3]
  have z5 : (zs5 s.heap d t es.size ep).objs.size = s.heap.objs.size + 5 := by rw [Heap.size_push, z4]
  have g5 : (zs5 s.heap d t es.size ep).get? (zs4 s.heap d t es.size ep).objs.size = some _ := Heap.get?_push_size _ rfl
  have g4 : (zs5 s.heap d t es.size ep).get? (zs3 s.heap d t es.size ep).objs.size = some _ := Heap.get?_push_of_some _ (Heap.get?_push_size _ rfl)
  have g3 : (zs5 s.heap d t es.size ep).get? (zs2 s.heap d t es.size ep).objs.size = some _ := Heap.get?_push_of_some _ (Heap.get?_push_of_some _ (Heap.get?_push_size _ rfl))
  have g2 : (zs5 s.heap d t es.size ep).get? (zs1 s.heap d es.size ep).objs.size = some _ := Heap.get?_push_of_some _ (Heap.get?_push_of_some _ (Heap.get?_push_of_some _ (Heap.get?_push_size _ rfl)))
  have g1 : (zs5 s.heap d t es.size ep).get? s.heap.objs.size = some _ := Heap.get?_push_of_some _ (Heap.get?_push_of_some _ (Heap.get?_push_of_some _ (Heap.get?_push_of_some _ (Heap.get?_push_size _ rfl))))
  show _ ∧ _
  rw [z2, z3, z4] at g5
  rw [z1, z2] at g3
  rw [z3] at g4
  rw [z1] at g2
  rw [z4]
  exact ⟨⟨_, g5, rfl⟩, h _ g5 g3 g4 ⟨_, g1, rfl, rfl⟩ ⟨_, g2, rfl, rfl⟩ z5 fun c o x =>
    Heap.get?_push_of_some _ (Heap.get?_push_of_some _ (Heap.get?_push_of_some _ (Heap.get?_push_of_some _ (Heap.get?_push_of_some _ x))))⟩
end
end K39
set_option Elab.async false
set_option linter.all false
set_option maxRecDepth 100000
set_option maxHeartbeats 4000000
/-! NoDeed: the program's own error over RuntimeError, with an __init__ that stores one field: made, raised, its field read. (Began as the block of the guide's skeleton 42; turned to RuntimeError and to facts by deciders.) -/
namespace K39
open PySem PySem.W PySem.Calls PySem.Spec PyProof.Rows PySem.HandSPX L2

/-! ### the class object, by a decider -/
abbrev rtTail : List Value := [.type "RuntimeError", .type "Exception", .type "BaseException", .type "object"]
def deedB (K : Frag) (C : Addr) : Bool := match K.lookup C with
  | some ⟨.type "type", _, .cls cd, sl⟩ => (match cd.mro, sl.toList with
    | .ref C' :: bm, [_, _, _, _, some (.builtin n), _] => C' == C && (n == "RuntimeError.__new__" && (!cd.hasDel && (cd.hasDict && bm == rtTail)))
    | _, _ => false)
  | _ => false
theorem deedB_of {K : Frag} {C : Addr} (q : deedB K C = true) : ∃ nm N qn bs sn sub ab col dd k0 k1 k2 k3 k5,
    K.lookup C = some (excClassObj nm qn C N bs rtTail true sn sub ab col dd k0 k1 k2 k3 k5 "RuntimeError.__new__") := by
  unfold deedB at q
  split at q
  · rename_i dd cd sl ho
    split at q
    · rename_i C' bm k0 k1 k2 k3 n k5 hm hs
      simp only [Bool.and_eq_true, beq_iff_eq, Bool.not_eq_true'] at q
      obtain ⟨rfl, rfl, hdel, hdct, rfl⟩ := q
      obtain ⟨nm, bs, mro, ns, qn, hd, sn, sub, ab, col, del⟩ := cd
      dsimp only at hm hdel hdct
      subst hm hdel hdct
      obtain ⟨l⟩ := sl
      simp only at hs
      subst hs
      exact ⟨nm, ns, qn, bs, sn, sub, ab, col, dd, k0, k1, k2, k3, k5, ho⟩
    · cases q
  · cases q

/-! ### self.name = v on such an error, its first field -/
section
variable {prog : Program} {w : World} {A : Around} {R : Result → Shared → Prop} {hp : Heap} {g : Array GenState} {d : Drawn} {t : Nat} {os : OsState}
theorem rt_store {K : Frag} {name : Str} {tk : Tok} {v : Value} {x C : Addr} {fv : Array Value} {cd : ClassData}
    (X : K.In hp) (hx : hp.get? x = some { cls := .ref C, data := .fields fv }) (hcd : clsIn K C = some cd) (hm : cd.mro = .ref C :: rtTail) (hh : cd.hasDict = true) (ha : findIn K (.ref C) name = some none)
    (hq : ∀ h' tk' dx, (∀ b o, b ≠ x → hp.get? b = some o → h'.get? b = some o) → hp.objs.size ≤ dx → dx ≠ x → h'.get? x = some { cls := .ref C, dict := some dx, data := .fields fv } →
      h'.Ns1 dx (fun y => if y = name then some v else none) → R (.ok (.ret .none)) ⟨h', g, d, tk', os⟩) :
    codeAny (model prog w) A (.call (.builtin "object.__setattr__") ⟨[.ref x, .str name tk, v], []⟩) R ⟨hp, g, d, t, os⟩ := by
  have I : InstAt hp x { cls := .ref C, data := .fields fv } C none := ⟨hx, rfl, rfl, trivial⟩
  have SF := PySem.F.store_object
  have ne : cd.mro.isEmpty = false := by rw [hm]; rfl
  have hob : cd.mro.contains (.type "object") = true := by
    have q : rtTail.contains (.type "object") = true := by decide +kernel
    rw [hm, List.contains_cons, q, Bool.or_true]
  have hxs : x ≠ hp.objs.size := Nat.ne_of_lt (Heap.lt_size hx)
  have sub : Looks (model prog w) hp (isInstance (.ref x) (.type "object")) true := I.type.andThen (looks_mroIn X (by unfold mroIn; rw [hcd, Option.bind_some, if_neg (by rw [ne]; decide), hob]))
  refine codeAny_call_builtin SF.slot.plain SF.entry (@check_slot (model prog w) _ _ ⟨hp, g, d, t, os⟩ "object.__setattr__" "object" "__setattr__" (.ref x) [.str name tk, v] [] _ SF.kind SF.split sub (SF.args (.ref x) (.str name tk) v) ?_)
  have hmr : Looks (model prog w) hp (mroOf (.ref C)) cd.mro := (looks_clsIn X hcd).andThen .now
  have L3 : Looks (model prog w) hp (Builtin.ObjectAttr.storeTaker? none) none := .now
  have hcls : Looks (model prog w) hp (classData C) cd := looks_clsIn X hcd
  rw [osa_eq, refuse_eq]
  refine wpAny_bind (wpAny_bind (I.type.at (wpAny_bind (hmr.at ?_))))
  have pass : refuseLoop (.ref x) "__setattr__" cd.mro = pure () := by
    rw [hm, refuseLoop_ref]
    exact PySem.F.store_RuntimeError.passes (.ref x)
  rw [pass]
  refine wpAny_pure (wpAny_bind (I.type.at (wpAny_bind ((looks_findIn X ha).at (wpAny_bind (L3.at ?_))))))
  show wpAny _ _ (Builtin.ObjectAttr.storeInOwnDict (.ref x) (.ref C) (.str name tk) name v false) _ _ _
  obtain ⟨nm, bs, mro, ns, qn, hd, sn, sb, ab, col, del⟩ := cd
  dsimp only at hh
  subst hh
  unfold Builtin.ObjectAttr.storeInOwnDict Builtin.ObjectAttr.ownDictForStores
  repeat (first | with_reducible refine store_in_new ?_ ?_ | with_reducible refine wpAny_loadPart_at hx ?_ | with_reducible refine hcls.at ?_ | wp_step)
  · exact ⟨_, #[], _, (Heap.get?_update_ne _ _ _ _ hxs.symm).trans (Heap.get?_push_at rfl rfl), rfl, fun e he => absurd he (by simp), fun _ => rfl⟩
  · intro h' tk' hn' hs
    have hx1 : (hp.push { cls := .type "dict", data := .dict #[] }).get? x = some { cls := .ref C, data := .fields fv } := Heap.get?_push_of_some _ hx
    refine hq h' tk' hp.objs.size (fun b o hb ho => ?_) (Nat.le_refl _) hxs.symm ?_ hn'
    · exact (hs.2 b (Nat.ne_of_lt (Heap.lt_size ho))).trans ((Heap.get?_update_ne _ _ _ _ hb).trans (Heap.get?_push_of_some _ ho))
    · exact (hs.2 x hxs).trans (Heap.get?_update_self _ hx1 rfl)
end

/-! ### the text, by places -/
def top (i : Nat) : Stmt := PySem.Challenge.pw_leasepair_k39_whole_asker_by_a_plain_one.main.body.getD i (.Pass ⟨0, 0, 0, 0⟩)
abbrev sDeedInit : Stmt := inClass (top 3) 0

/-- what the written part says of NoDeed, at C, and of its __init__, at fI -/
structure DeedTxt (K : Frag) (mg : Str → Option Value) (C fI : Addr) : Prop where
  gC : mg "NoDeed" = some (.ref C)
  cls : deedB K C = true
  sa : findIn K (.ref C) "__setattr__" = some (some (.builtin "object.__setattr__"))
  ga : findIn K (.ref C) "__getattribute__" = some (some (.builtin "BaseException.__getattribute__"))
  gg : findIn K (.ref C) "__getattr__" = some none
  noN : findIn K (.ref C) "word" = some none
  iC : findIn K (.ref C) "__init__" = some (some (.ref fI))
  tC : typeIn K (.ref fI) = some (.type "function")
  kC : keepIn K (.ref C) = true
  exC : subIn K (.ref C) (.type "BaseException") = some true
  tyC : typeIn K (.ref C) = some (.type "type")
  hdC : hasDictIn K C = true
  te : exmOne K (.ref C) (.ref C) = some true
  fn : ∃ fd, FunD K "__init__" "NoDeed.__init__" (defArgs sDeedInit) (defBody sDeedInit) (defScope sDeedInit) [] [] fI fd

structure InitDone (h h' : Heap) (x C dx t1 : Addr) (v : Value) : Prop where
  keep : ∀ b o, b ≠ x → h.get? b = some o → h'.get? b = some o
  obj : h'.get? x = some { cls := .ref C, dict := some dx, data := .fields #[.ref t1, .none, .none, .none, .bool false, .none] }
  dbig : h.objs.size ≤ dx
  dne : dx ≠ x
  ns : h'.Ns1 dx (fun y => if y = "word" then some v else none)
structure DeedMade (h h' : Heap) (e C d : Addr) (v : Value) : Prop where
  keep : ∀ b o, h.get? b = some o → h'.get? b = some o
  new : h.objs.size ≤ e
  obj : ∃ oe vs, h'.get? e = some oe ∧ oe.cls = .ref C ∧ oe.dict = some d ∧ oe.data = .fields vs ∧ vs[1]? = some .none
  dbig : h.objs.size ≤ d
  dne : d ≠ e
  ns : h'.Ns1 d (fun y => if y = "word" then some v else none)
theorem one_fits (v : Value) : [v].length ≤ sizeLine := by
  rw [sizeLine_eq]
  exact (by decide : 1 ≤ 16777216)
theorem nameLocal {M : Model} {s : Shared} {E : Value → Shared → Prop} {name : Str} {scope : Scope} {L a : Addr} {cd : Value} {m : Str → Option Value} {x : Str} {pos : Pos} {v : Value} {Q : Value → Shared → Prop} {A : Around} (hn : s.heap.Ns L m) (hv : m x = some v) (h : Q v s)
    (hk : scope.kind = .function := by rfl) (hl : (envOfC name scope L a cd).kindOf x = some .local := by rfl) (hd : (x == ("__debug__" : Str)) = false := by decide) :
    wpAny M A (eval (.Name x pos) (envOfC name scope L a cd)) Q E s := wpAny_Name (wpAny_loadName_local hk hl hn hv h) hd

section
variable {prog : Program} {w : World} {A : Around} {R : Result → Shared → Prop} {s : Shared} {K : Frag} {mg : Str → Option Value} {C fI : Addr}
theorem deed_init (T : DeedTxt K mg C fI) {x t0 : Addr} {v : Value} (X : K.In s.heap) (hlim : s.heap.NoLimit) (hx : s.heap.get? x = some (excO C t0)) (hroom : A.depth < recursionLimit)
    (hq : ∀ h' tk dx, InitDone s.heap h' x C dx t0 v → R (.ok (.ret .none)) { s with heap := h', toks := tk }) :
    codeAny (model prog w) A (.call (.ref fI) ⟨[.ref x, v], []⟩) R s := by
  obtain ⟨fd, FD⟩ := T.fn
  obtain ⟨oc, od, dV, kV, doc, pm, an, cdv, ct, osl, rfl, ho, hcd, hD, _⟩ := FD.ex
  obtain rfl : dV = .none := hD.elim (fun z => z.2) fun z => absurd rfl z.1
  obtain ⟨nm, N, qn, bs, sn, sub, ab, col, dd, k0, k1, k2, k3, k5, hC⟩ := deedB_of T.cls
  have hcl : clsIn K C = some { name := nm, bases := bs, mro := .ref C :: rtTail, ns := N, qualname := qn, hasDict := true, slotNames := sn, subclasses := sub, abstract := ab, collection := col, hasDel := false } := by unfold clsIn; rw [hC] <;> rfl
  refine Att.call_fn (binds := [("self", .ref x), ("word", v)]) X hlim ho hcd hroom (BindsTo.of_eq (by first | rfl | with_unfolding_all rfl)) (by first | rfl | decide | with_unfolding_all rfl) (fun s1 IC => ?_) rfl rfl rfl
  obtain ⟨h1, tk1, rfl⟩ := IC.toInCall.same
  have k : ∀ b o, s.heap.get? b = some o → h1.get? b = some o := IC.toInCall.keep
  have hn := IC.toInCall.ns
  have X1 : K.In h1 := X.keeps k
  have hx1 := k _ _ hx
  show wpAny _ _ (execs _ _) _ _ _
  refine wpAny_execs_cons (plainObj_wpAny_Assign_Attribute ?_)
  refine nameLocal (v := v) hn (by first | rfl | with_unfolding_all rfl | kernel_rfl) (nameLocal (v := .ref x) hn (by first | rfl | with_unfolding_all rfl | kernel_rfl) ?_)
  refine set_plain X1 (ox := excO C t0) (od := none) ⟨hx1, rfl, rfl, trivial⟩ T.sa ?_
  refine rt_store X1 hx1 hcl rfl rfl T.noN (fun h3 tk3 dx k3 dn dne hx3 hn3 => ?_)
  show wpAny _ _ (execs _ _) _ _ _
  have z : s.heap.objs.size < h1.objs.size := hn.lt
  exact wpAny_execs_nil (hq h3 tk3 dx ⟨fun b o hb e => k3 b o hb (k b o e), hx3, Nat.le_of_lt (Nat.lt_of_lt_of_le z dn), dne, hn3⟩)
theorem deed_made (T : DeedTxt K mg C fI) {v : Value} (X : K.In s.heap) (hlim : s.heap.NoLimit) (hroom : A.depth + 1 < recursionLimit)
    (hq : ∀ h' tk e d, DeedMade s.heap h' e C d v → R (.ok (.ret (.ref e))) { s with heap := h', toks := tk }) :
    codeAny (model prog w) A (.call (.ref C) ⟨[v], []⟩) R s := by
  obtain ⟨nm, N, qn, bs, sn, sub, ab, col, dd, k0, k1, k2, k3, k5, hC⟩ := deedB_of T.cls
  obtain ⟨hp, g, dr, tk, os⟩ := s
  have k : ∀ b o, hp.get? b = some o → ((hp.push (kdv_tup [v])).push (excO C hp.objs.size)).get? b = some o := fun b o e => Heap.get?_push_of_some _ (Heap.get?_push_of_some _ e)
  have hget : ((hp.push (kdv_tup [v])).push (excO C hp.objs.size)).get? (hp.objs.size + 1) = some (excO C hp.objs.size) := by heap_get
  refine call_own PySem.F.excBase_RuntimeError (fun X => rfl) (X _ _ hC) (looks_findIn X T.iC) (fun self => bind_fn X self T.tC) (one_fits v) ?_
  refine deed_init (s := ⟨(hp.push (kdv_tup [v])).push (excO C hp.objs.size), g, dr, tk, os⟩) T (X.keeps k) (hlim.keeps k) hget ?_ fun h' tk' dx ⟨k', hx, dn, dne, hns⟩ => ?_
  · show A.depth + 1 < recursionLimit
    exact hroom
  · have old : ∀ b o, hp.get? b = some o → h'.get? b = some o := fun b o e => k' b o (Nat.ne_of_lt (Nat.lt_succ_of_lt (Heap.lt_size e))) (k b o e)
    have z : hp.objs.size + 1 + 1 ≤ dx := by
      first
        | (simpa only [Heap.size_push] using dn)
        | exact dn
        | (have q := dn; rw [Heap.size_push, Heap.size_push] at q; exact q)
    exact ⟨rfl, hq h' tk' (hp.objs.size + 1) dx ⟨old, Nat.le_succ _, ⟨_, _, hx, rfl, rfl, rfl, rfl⟩, Nat.le_trans (Nat.le_trans (Nat.le_succ _) (Nat.le_succ _)) z, dne, hns⟩⟩
end

theorem relO_word {v : V} {v' : Value} (r : RelV v v') (f : Str) : RelO (List.lookup f [(("word" : Str), v)]) (if f = "word" then some v' else none) := by
  by_cases hw : f = "word"
  · subst hw
    rw [if_pos rfl]
    have q : List.lookup ("word" : Str) [(("word" : Str), v)] = some v := by simp [List.lookup]
    rw [q]
    exact r
  · rw [if_neg hw]
    have qw : (f == ("word" : Str)) = false := by simpa using hw
    have q2 : List.lookup f [(("word" : Str), v)] = none := by simp [List.lookup, qw]
    rw [q2]
    trivial
section
variable {X : Cx} {C fI : Addr}
/-- NoDeed(e) -/
def tMkDeed (C : Addr) (ta : TA) : L2.St → Hp → XK → Prop := fun σ H Q => ta σ H fun vs H1 => ∃ v, vs = [v] ∧ ∀ d, H1 d = none → Q (.ref C) (some d) (upd H1 d (.xd [(("word" : Str), v)]))
theorem pmk_deed {a : PySem.Expr} {ta : TA} {p pos : Pos} {k : Nat} (T : DeedTxt X.K X.mg C fI) (hr : Room k X.A) (ha : PA X [a] ta) (hg : Gl X "NoDeed" := by rfl)
    (he : starEach (a :: []) X.env = (false, eval a X.env) :: starEach [] X.env := by rfl) (hpl : (backTo pos (starEach [] X.env)).any (·.1) = false := by rfl) :
    PMk X (.Call (.Name "NoDeed" p) [a] [] pos) (tMkDeed C ta) := by
  intro pins s σ H Q I h
  refine wpAny_Call_Name_kw (ld_glob I hg T.gC ?_)
  refine PySem.W.callWith_K (h₀ := X.base) I.ok.mod.kin T.kC (thn (ha.run pos pins s σ H _ I h) fun us s1 hh => ?_) he hpl
  obtain ⟨vs, H1, I1, r1, v, ev, q1⟩ := hh
  subst ev
  refine ⟨I1.kIn, ?_⟩
  cases r1 with
  | cons rv rn =>
    rename_i v' us'
    cases rn
    show wpAny _ _ (call (.ref C) [v']) _ _ _
    have hlim := I1.nolimit
    obtain ⟨hp, g, dr, tk, os⟩ := s1
    refine wpAny_call (deed_made T I1.kIn hlim (by have := hr.dp; omega) fun h' tk' e d M => ?_)
    show MkP X pins σ Q (.ref e) ⟨h', g, dr, tk', os⟩
    obtain ⟨oe, fv, hoe, hc, hd, hdat, h1⟩ := M.obj
    have hns := M.ns
    obtain ⟨G', g1, g2⟩ := restrict h' fun b => decide (b ≠ e)
    have gk : ∀ b, b ≠ e → G'.get? b = h'.get? b := fun b hb => g1 b (decide_eq_true hb)
    have ge : G'.get? e = none := g2 e (by simp)
    have old : ∀ b o, hp.get? b = some o → G'.get? b = some o := fun b o q => (gk b (Nat.ne_of_lt (Nat.lt_of_lt_of_le (Heap.lt_size q) M.new))).trans (M.keep b o q)
    have ob : ObjOk X.prog X.w (upd H1 d (.xd [(("word" : Str), v)])) G' d (.xd [(("word" : Str), v)]) :=
      ⟨_, hns.at (fun o q => (gk d M.dne).trans q), fun f => relO_word rv f⟩
    have J : Inv X pins σ (upd H1 d (.xd [(("word" : Str), v)])) ⟨G', g, dr, tk', os⟩ := I1.laid (t' := tk') old M.dbig ob
    refine ⟨e, oe, fv, ⟨G', g, dr, tk', os⟩, _, .ref C, some d, rfl, J, fun b o q => ?_, ge, hoe, ⟨hc, hd⟩, hdat, h1, ?_, rfl, I1.bare, raises_own T.exC T.tyC, q1 d (I1.hok.fresh M.dbig)⟩
    · by_cases hb : b = e
      · have q' : G'.get? b = some o := q
        rw [hb, ge] at q'; cases q'
      · exact (gk b hb).symm.trans q
    · rw [upd_ne (Ne.symm M.dne)]
      exact I1.hok.fresh M.new
/-- raise NoDeed(e) -/
def tRaiseDeed (C : Addr) (W : WX) (ta : TA) : TS := fun _ σ H => tMkDeed C ta σ H fun cls d H' => W cls d σ H'
theorem ps_raiseDeed {a : PySem.Expr} {ta : TA} {W : WX} {p pos pos2 : Pos} {k : Nat} (hc : X.calm = true) (T : DeedTxt X.K X.mg C fI) (hr : Room k X.A) (tk : Takes X W) (ha : PA X [a] ta) (hg : Gl X "NoDeed" := by rfl)
    (he : starEach (a :: []) X.env = (false, eval a X.env) :: starEach [] X.env := by rfl) (hpl : (backTo pos (starEach [] X.env)).any (·.1) = false := by rfl) :
    PS X (.Raise (some (.Call (.Name "NoDeed" p) [a] [] pos)) none pos2) (tRaiseDeed C W ta) := ps_raise hc tk (pmk_deed T hr ha hg he hpl)
/-- e.word, e the error that the suite holds -/
def tWordOf (C : Addr) (a : Addr) (cls : Value) (d : Option Addr) (te : TE) : TE := fun σ H Q => te σ H fun x H1 => x = .ref a ∧ cls = .ref C ∧ ∃ (dd : Addr) (v : V), d = some dd ∧ H1 dd = some (.xd [(("word" : Str), v)]) ∧ Q v H1
theorem pe_wordOf {a : Addr} {oe : Obj} {cls : Value} {d : Option Addr} {pn : List (Addr × Obj)} {e : PySem.Expr} {te : TE} {pos : Pos} (T : DeedTxt X.K X.mg C fI) (hz : Zc cls d oe) (hf : ∃ vs, oe.data = .fields vs) (he : PE (X.suite a ((a, oe) :: pn)) e te)
    (hb : attributeBase e "word" X.env (eval e X.env) = eval e X.env := by rfl) :
    PE (X.suite a ((a, oe) :: pn)) (.Attribute e "word" pos) (tWordOf C a cls d te) := by
  refine ⟨fun pins s σ H Q I h => ?_⟩
  refine attr_of hb (thn (he.run pins s σ H _ I h) fun u s1 hh => ?_)
  obtain ⟨x, H1, I1, rx, ex, ec, dd, v, ed, ea, q⟩ := hh
  subst ex
  obtain rfl : u = Value.ref a := rx
  subst ec
  subst ed
  obtain ⟨ha, _⟩ := I1.pin (a, oe) (List.mem_append_left _ List.mem_cons_self)
  obtain ⟨vs, hd⟩ := hf
  have hx : ObjOk X.prog X.w H1 s1.heap dd (.xd [(("word" : Str), v)]) := I1.hok dd _ ea
  obtain ⟨mA, hns, hr⟩ := hx
  obtain ⟨od, ho, hl⟩ := lookIn_ns hns
  have l : List.lookup ("word" : Str) [(("word" : Str), v)] = some v := by simp [List.lookup]
  obtain ⟨u, hu, ru⟩ := RelO.some_of (v := v) (o := mA "word") (by rw [← l]; exact hr "word")
  have J : PySem.W.InstAt s1.heap a oe C (some od) := ⟨ha, hz.1, by unfold PySem.W.notCls; rw [hd] <;> rfl, by rw [hz.2]; exact ho⟩
  exact HandSPX.exc_get I1.kIn J T.ga T.gg T.exC (PySem.W.findObj_own T.hdC T.noN rfl (by rw [hl, hu])) (handed_of ru) ⟨v, H1, I1.tok _, ru, q⟩
end
end K39
set_option Elab.async false
set_option linter.all false
set_option maxRecDepth 100000
set_option maxHeartbeats 4000000
/-! Own rules over the layer: an attribute as a target, zip(dict, tuple, strict=True), o.m(e, k = v), a method in a try's body, repr of data, a sign times 0 or 1, a promise that knows the guards, a def's promise with its binding in one. -/
namespace K39
open PySem PySem.Spec PyProof.Rows L2

/-! ### heaps: all but what stands at S is as it was -/
def Kp (S : List Addr) (H H' : Hp) : Prop := ∀ a o, a ∉ S → H a = some o → H' a = some o
theorem Kp.refl (S : List Addr) (H : Hp) : Kp S H H := fun _ _ _ e => e
theorem Kp.trans {S : List Addr} {H H1 H2 : Hp} (a : Kp S H H1) (b : Kp S H1 H2) : Kp S H H2 := fun x o n e => b x o n (a x o n e)
theorem Kp.mono {S T : List Addr} {H H' : Hp} (a : Kp S H H') (h : ∀ x ∈ S, x ∈ T) : Kp T H H' := fun x o n e => a x o (fun q => n (h x q)) e
theorem Kp.of_same {S : List Addr} {H H' : Hp} (a : Same H H') : Kp S H H' := fun x o _ e => a x o e
theorem Kp.same {H H' : Hp} (a : Kp [] H H') : Same H H' := fun x o e => a x o (by simp) e
theorem Kp.new {S : List Addr} {H H1 : Hp} {p : Addr} {o : HO} (a : Kp S H H1) (hp : H1 p = none) : Kp S H (upd H1 p o) := fun x u n e => by
  have q := a x u n e
  rw [upd_ne (ne_of_none q hp)]
  exact q
theorem Kp.put {S : List Addr} {H H1 : Hp} {p : Addr} {o : HO} (a : Kp S H H1) (hp : p ∈ S) : Kp S H (upd H1 p o) := fun x u n e => by
  have q : x ≠ p := fun z => n (by rw [z]; exact hp)
  rw [upd_ne q]
  exact a x u n e
/-- a thing that was free at the beginning may be changed at will -/
theorem Kp.own {S : List Addr} {H H1 : Hp} {p : Addr} {o : HO} (a : Kp S H H1) (hp : H p = none) : Kp S H (upd H1 p o) := fun x u n e => by
  have q : x ≠ p := ne_of_none e hp
  rw [upd_ne q]
  exact a x u n e
theorem _root_.L2.Same.new {H H1 : Hp} {p : Addr} {o : HO} (a : Same H H1) (hp : H1 p = none) : Same H (upd H1 p o) := (Kp.new (Kp.of_same (S := []) a) hp).same
theorem _root_.L2.Same.own {H H1 : Hp} {p : Addr} {o : HO} (a : Same H H1) (hp : H p = none) : Same H (upd H1 p o) := (Kp.own (Kp.of_same (S := []) a) hp).same
theorem _root_.L2.Same.tup {K : PySem.W.Frag} {H H' : Hp} {a : Addr} {xs : List V} (e : Same H H') (h : SqT K H a xs) : SqT K H' a xs := by
  rcases h with (h | ⟨o, h⟩) | h
  · exact .inl (.inl (e _ _ h))
  · exact .inl (.inr ⟨o, e _ _ h⟩)
  · exact .inr h
/-- what a tuple says stands through anything that keeps its place -/
theorem Kp.tup {K : PySem.W.Frag} {S : List Addr} {H H' : Hp} {a : Addr} {xs : List V} (e : Kp S H H') (n : a ∉ S) (h : SqT K H a xs) : SqT K H' a xs := by
  rcases h with (h | ⟨o, h⟩) | h
  · exact .inl (.inl (e _ _ n h))
  · exact .inl (.inr ⟨o, e _ _ n h⟩)
  · exact .inr h

/-! ### small rules -/
section
variable {X : Cx} {e o : Expr} {f : Str} {te ta : TE} {pos : Pos}
/-- code that the proof never comes to -/
def tNo : TE := fun _ _ _ => False
theorem pe_no : PE X e tNo := ⟨fun _ _ _ _ _ _ h => h.elim⟩
/-- o.f as a target -/
def gFld (K : PySem.W.Frag) (ta : TE) (f : Str) : TG := fun v σ H Q => ta σ H fun x H1 => ∃ a C dx fs, x = .ref a ∧ H1 a = some (.ins C dx fs) ∧ Cls K C ∧ NoAttr K C f ∧ fs.length < 1000 ∧ Q σ (upd H1 a (.ins C dx (putF f v fs)))
theorem pg_fld (ha : PE X o ta) : PG X (.Attribute o f pos) (gFld X.K ta f) := by
  refine ⟨fun pins s σ H v u Q I r h => ?_⟩
  refine PySem.W.kas_attr (thn (ha.run pins s σ H _ I h) fun ov s1 ⟨x, H1, I1, rx, a, C, dx, fs, ex, ea, c, n, l, q⟩ => ?_)
  subst ex
  obtain rfl : ov = Value.ref a := rx
  exact setattr_ok I1 ea c n l r fun s2 I2 => ⟨σ, _, I2, q⟩
/-- d[key], d a written dict with text keys -/
def rIxK (K : PySem.W.Frag) (d : Addr) : R2 := fun x y H Q => ∃ (z : Str) (u0 : Value) (v0 : V), x = .ref d ∧ y = .str z ∧ PySem.W.nsIn K d z = some (some u0) ∧ RelV v0 u0 ∧ Q v0 H
theorem ix_kd {d : Addr} {es : Array DictEntry} {n : Nat} (D : KDict X.K X.w d es n) : IxR X (rIxK X.K d) := by
  intro value slice pins s σ H x y v u Q I rx ry h hs
  obtain ⟨z, u0, v0, rfl, rfl, e, r, q⟩ := h
  cases rx
  obtain ⟨t, rfl⟩ := ry
  refine tail_any (kd_type D I) PySem.F.slot_dict_getitem.lookup ?_ hs
  exact wpAny_getItem_of (PySem.strKind_is X.prog X.w z t) (PySem.W.mapOf_K (prog := X.prog) I.kIn D.at_ D.lit) (PySem.W.find_K D.at_ e) ⟨v0, H, I.tok _, r, q⟩
/-- a text times 0 or 1 -/
theorem op_signs : OpR X (binaryOp .Mult) (fun x y H Q => ∃ (z : Str) (b : Bool), x = .str z ∧ y = .int (if b then 1 else 0) ∧ z.length ≤ 100 ∧ Q (.str (if b then z else Str.empty)) H) := by
  intro pins s σ H x y v u Q I rx ry h
  obtain ⟨z, b, rfl, rfl, hz, q⟩ := h
  obtain ⟨t, rfl⟩ := rx
  obtain ⟨t', rfl⟩ := ry
  cases b with
  | true =>
    refine SB.mul ⟨by decide, fun _ h => ?_, fun _ h => ?_⟩ fun t2 k => ⟨.str z, H, I.tok _, ⟨t2, ?_⟩, q⟩
    · exact absurd h (by simp)
    · exact absurd h (by simp)
    · rfl
  | false =>
    refine SB.mul ⟨by decide, fun h => absurd (by decide) h, fun h => absurd (by decide) h⟩ fun t2 k => ⟨.str Str.empty, H, I.tok _, ⟨t2, ?_⟩, q⟩
    rfl
end

/-! ### repr -/
section
variable {X : Cx}
theorem call_reprD (hg : X.A.guards = some []) (hu : X.A.units + 64 < cLine) : CallR X (.builtin "repr") (fun xs H Q => ∃ (a : Addr) (d : PyData), xs = [.ref a] ∧ Dp X.K H (.ref a) d ∧ d.showable = true ∧ d.hasDict = false ∧ d.shown.length ≤ sizeLine ∧ d.depth ≤ 50 ∧ Q (.str d.shown) H) := by
  intro pins s σ H xs us Q I r h
  obtain ⟨a, d, rfl, hd, h1, h2, h3, h4, q⟩ := h
  obtain ⟨u, rfl, ru⟩ := vals1 r
  obtain ⟨as, hr⟩ := Dp.reads I d _ _ hd ru
  cases ru
  exact repr_of_reads' hr h1 (PyData.noDict_hsm h2) hg (by omega) (fun _ _ e => e) (fun h' u tk hk => ⟨.str d.shown, H, I.kept hk, ⟨u, rfl⟩, q⟩) h3
theorem call_reprS (hu : X.A.units + 64 < cLine) : CallR X (.builtin "repr") (fun xs H Q => ∃ z : Str, xs = [.str z] ∧ (reprText z).length ≤ sizeLine ∧ Q (.str (reprText z)) H) := by
  intro pins s σ H xs us Q I r h
  obtain ⟨z, rfl, h1, q⟩ := h
  obtain ⟨u, rfl, t, rfl⟩ := vals1 r
  exact PySem.P.repr_of_str ⟨.str _, H, I.tok _, ⟨_, rfl⟩, q⟩ h1
/-- repr of data or of a text -/
theorem call_reprA (hg : X.A.guards = some []) (hu : X.A.units + 64 < cLine) : CallR X (.builtin "repr") (fun xs H Q => (∃ (a : Addr) (d : PyData), xs = [.ref a] ∧ Dp X.K H (.ref a) d ∧ d.showable = true ∧ d.hasDict = false ∧ d.shown.length ≤ sizeLine ∧ d.depth ≤ 50 ∧ Q (.str d.shown) H) ∨
    ∃ z : Str, xs = [.str z] ∧ (reprText z).length ≤ sizeLine ∧ Q (.str (reprText z)) H) := by
  intro pins s σ H xs us Q I r h
  rcases h with h | h
  · exact call_reprD hg hu pins s σ H xs us Q I r h
  · exact call_reprS hu pins s σ H xs us Q I r h
end

/-! ### zip(d, t, strict=True) -/
/-- at d: a written dict whose keys are the texts names, in order -/
structure KTab (K : PySem.W.Frag) (w : World) (d : Addr) (es : Array DictEntry) (n : Nat) (names : List Str) : Prop where
  D : KDict K w d es n
  len : es.size = names.length
  key : ∀ (i : Nat) (h : i < es.size) (x : Str), names[i]? = some x → ∃ t, es[i].key = .str x t
def ItS (K : PySem.W.Frag) (names : List Str) (b : Addr) : It :=
  ⟨fun i H => i < names.length ∧ ∃ ys, SqT K H b ys ∧ ys.length = names.length,
    fun i H v H' => ∃ (T : Addr) (x : Str) (y : V), v = .ref T ∧ H T = none ∧ H' = upd H T (.tup [.str x, y]) ∧ names[i]? = some x ∧ ∀ ys, SqT K H b ys → ys[i]? = some y,
    fun i H => i = names.length ∧ ∃ ys, SqT K H b ys ∧ ys.length = names.length⟩
theorem sep_of {z TI TO i1 i2 d b : Addr} (D : ZipApart z TI TO i1 i2 d b) : ZipSep2 z TI TO i1 i2 [i1, d] [i2, b] where
  TIz := D.TIz
  TOz := D.TOz
  TITO := D.TITO
  TIi1 := D.TIi1
  mem1 := by simp
  zf1 := by simp only [List.mem_cons, List.not_mem_nil, or_false, not_or]; exact ⟨D.i1z.symm, D.l1z.symm⟩
  Tf1 := by simp only [List.mem_cons, List.not_mem_nil, or_false, not_or]; exact ⟨D.TOi1, D.l1TO.symm⟩
  TIi2 := D.TIi2
  mem2 := by simp
  zf2 := by simp only [List.mem_cons, List.not_mem_nil, or_false, not_or]; exact ⟨D.i2z.symm, D.l2z.symm⟩
  Tf2 := by simp only [List.mem_cons, List.not_mem_nil, or_false, not_or]; exact ⟨D.TOi2, D.l2TO.symm⟩
  sep1_2 := by simp only [List.mem_cons, List.not_mem_nil, or_false, not_or]; exact ⟨D.i12, D.l2i1.symm⟩
  sep2_1 := by simp only [List.mem_cons, List.not_mem_nil, or_false, not_or]; exact ⟨D.i12.symm, D.l1i2.symm⟩
theorem kd_raw {X : Cx} {pins : List (Addr × Obj)} {σ : L2.St} {H : Hp} {s : Shared} {d : Addr} {es : Array DictEntry} {n : Nat} (D : KDict X.K X.w d es n) (I : Inv X pins σ H s) : s.heap.DictRaw d es n :=
  ⟨_, I.kIn _ _ D.at_, ⟨rfl, rfl, rfl⟩, rfl⟩
theorem turn_zipS {P : Program} {w : World} {K : PySem.W.Frag} {elts : List Expr} {kk : Nat} {tpos : Pos} {d b z TI TO i1 i2 : Addr} {es : Array DictEntry} {n : Nat} {names : List Str} (D : ZipApart z TI TO i1 i2 d b) (T : KTab K w d es n names) :
    Turn P w K (.Tuple elts kk tpos) (ItS K names b) [z, TI, TO, i1, i2] z (fun i h => ZipS h z TI TO .none ∧ IsPair h TI (.ref i1) (.ref i2) ∧ (∃ x y, IsPair h TO x y) ∧ h.IsKeyIter i1 d i es.size n ∧ h.IsTupleIter i2 b i) where
  mem := by simp
  obj := fun i h st c hc => by
    obtain ⟨hz, hTI, ⟨x, y, hTO⟩, ⟨o1, e1, _, d1⟩, ⟨o2, e2, _, d2⟩⟩ := st
    have e' : c = z ∨ c = TI ∨ c = TO ∨ c = i1 ∨ c = i2 := by simpa using hc
    rcases e' with q | q | q | q | q
    · rw [q]; exact ⟨_, hz, fun v q => nomatch q⟩
    · rw [q]; exact ⟨_, hTI, fun v q => nomatch q⟩
    · rw [q]; exact ⟨_, hTO, fun v q => nomatch q⟩
    · rw [q]; exact ⟨o1, e1, fun v q => by rw [d1] at q; cases q⟩
    · rw [q]; exact ⟨o2, e2, fun v q => by rw [d2] at q; cases q⟩
  keep := fun i h h' st k => by
    obtain ⟨hz, hTI, ⟨x, y, hTO⟩, ⟨o1, e1, r1⟩, h2⟩ := st
    exact ⟨k z (by simp) _ hz, k TI (by simp) _ hTI, ⟨x, y, k TO (by simp) _ hTO⟩, ⟨o1, k i1 (by simp) o1 e1, r1⟩, h2.at fun o q => k i2 (by simp) o q⟩
  item := by
    intro X hP hw hK hc i pins s σ H E I hf st hg
    subst hP hw hK
    obtain ⟨hz, hTI, ⟨x0, y0, hTO⟩, h1, h2⟩ := st
    obtain ⟨hlt, ys, hqy, hly⟩ := hg
    obtain ⟨its2, rv2, p2, _⟩ := I.tuple hqy
    have hi : i < es.size := by rw [T.len]; exact hlt
    have n2 : its2.toArray.size = es.size := by rw [List.size_toArray, ← rv2.length, hly, T.len]
    have hzl : z < s.heap.objs.size := Heap.lt_size hz
    have D1 := drawsKeys (prog := X.prog) (w := X.w) (A := X.A.in1) (I.ok.hd hc) i1 d D.l1i1 es n
    have D2 := Draws.tuple (prog := X.prog) (w := X.w) (A := X.A.in1) (I.ok.hd hc) i2 b D.l2i2 its2.toArray
    rw [n2] at D2
    refine pyNextS (sep_of D) D1 D2 hz hTI hTO ⟨h1, kd_raw T.D I⟩ ⟨h2, p2⟩ hi fun x1 x2 h' tk q1 q2 z' TO' s1 s2 hT hsz hk => ?_
    obtain ⟨_, q1⟩ := q1
    obtain ⟨nm, hnm⟩ : ∃ nm, names[i]? = some nm := ⟨names[i], List.getElem?_eq_getElem hlt⟩
    obtain ⟨t1, hkey⟩ := T.key i hi nm hnm
    obtain ⟨y, hy⟩ : ∃ y, ys[i]? = some y := ⟨ys[i]'(by rw [hly]; exact hlt), List.getElem?_eq_getElem _⟩
    obtain ⟨u2, hu2, ru2⟩ := rv2.get hy
    have e2 : x2 = u2 := by
      have q3 : its2.toArray[i]? = some u2 := by simpa using hu2
      rw [q3] at q2
      exact (Option.some.inj q2).symm
    subst e2
    have r1 : RelV (.str nm) x1 := ⟨t1, q1.trans hkey⟩
    refine ⟨_, rfl, letGoS (s := { s with heap := h', toks := tk }) z' fun h'' z'' sb => ?_⟩
    have hT2 : h''.get? s.heap.objs.size = some { cls := .type "tuple", data := .seq #[x1, x2] } := (sb.2 _ (Nat.ne_of_gt hzl)).trans hT
    have new : ObjOk X.prog X.w (upd H s.heap.objs.size (.tup [.str nm, y])) h'' s.heap.objs.size (.tup [.str nm, y]) :=
      ⟨by show 2 ≤ sizeLine; decide, [x1, x2], .cons r1 (.cons ru2 .nil), ⟨_, hT2, rfl, _, rfl⟩⟩
    have I1 : Inv X pins σ (upd H s.heap.objs.size (.tup [.str nm, y])) { s with heap := h'', toks := tk } :=
      I.turnedNew (t' := tk) (ch := [z, TI, TO, i1, i2]) (fun c o hb q => (sb.2 c (fun q' => hb (by simp [q']))).trans (hk c o (fun q' => hb (by simp [q'])) (fun q' => hb (by simp [q'])) (fun q' => hb (by simp [q'])) (fun q' => hb (by simp [q'])) q)) hf (Nat.le_refl _) new
    refine ⟨.ref s.heap.objs.size, _, I1, rfl, ⟨_, nm, y, rfl, I.hok.fresh (Nat.le_refl _), rfl, hnm, fun l hl => by rw [I.tuple_inj hl hqy]; exact hy⟩, ⟨z'', ?_, ⟨x1, x2, ?_⟩, ?_, ?_⟩, fun c hcm => ?_⟩
    · exact (sb.2 _ D.TIz).trans (hk _ _ D.TIz D.TITO D.TIi1 D.TIi2 hTI)
    · exact (sb.2 _ D.TOz).trans TO'
    · obtain ⟨o1, e1, r⟩ := s1.1
      exact ⟨o1, (sb.2 _ D.i1z).trans e1, r⟩
    · exact s2.1.at fun o q => (sb.2 _ D.i2z).trans q
    · have hlt : c < s.heap.objs.size := by
        have e' : c = z ∨ c = TI ∨ c = TO ∨ c = i1 ∨ c = i2 := by simpa using hcm
        rcases e' with q | q | q | q | q
        · rw [q]; exact hzl
        · rw [q]; exact Heap.lt_size hTI
        · rw [q]; exact Heap.lt_size hTO
        · rw [q]; obtain ⟨_, e1, _⟩ := h1; exact Heap.lt_size e1
        · rw [q]; obtain ⟨_, e2, _⟩ := h2; exact Heap.lt_size e2
      rw [upd_ne (Nat.ne_of_lt hlt)]
      exact (hf c hcm).1
  done := by
    intro X hP hw hK hc i pins s σ H E I hf st hg
    subst hP hw hK
    obtain ⟨hz, hTI, ⟨x0, y0, hTO⟩, h1, h2⟩ := st
    obtain ⟨hi, ys, hqy, hly⟩ := hg
    obtain ⟨its2, rv2, p2, _⟩ := I.tuple hqy
    have hi : i = es.size := by rw [T.len]; exact hi
    subst hi
    have n2 : its2.toArray.size = es.size := by rw [List.size_toArray, ← rv2.length, hly, T.len]
    have D1 := drawsKeys (prog := X.prog) (w := X.w) (A := X.A.in1) (I.ok.hd hc) i1 d D.l1i1 es n
    have D2 := Draws.tuple (prog := X.prog) (w := X.w) (A := X.A.in1) (I.ok.hd hc) i2 b D.l2i2 its2.toArray
    rw [n2] at D2
    exact pyNextS_end (I.ok.hd hc) (sep_of D) D1 D2 hz hTI ⟨h1, kd_raw T.D I⟩ ⟨h2, p2⟩ fun h' tk hk => ⟨rfl, I.turnedL (t' := tk) (ch := [z, TI, TO, i1, i2]) (fun c o hb q =>
      hk c o (fun q' => hb (by simp [q'])) (fun q' => hb (by simp [q'])) (fun q' => hb (by simp [q'])) (fun q' => hb (by simp [q'])) q) hf⟩
  self := fun A i s Q E st h => pyIterS st.1 h

theorem callWith_typeKw {M : Model} {A : Around} {E : Value → Shared → Prop} {s : Shared} {env : Env} {pos : Pos} {T : String} {e : Expr} {rest : List Expr} {kws : List Keyword} {Q : Value → Shared → Prop}
    (h : wpAny M A (spliced (backTo pos (starEach (e :: rest) env))) (fun vs s1 => wpAny M A (evalAll ((backToKw pos (keywordEach kws env)).map (·.2)))
      (fun kvs s2 => wpAny M A (call (.type T) vs (((backToKw pos (keywordEach kws env)).filterMap (·.1)).zip kvs)) Q E s2) E s1) E s)
    (he : backTo pos (starEach (e :: rest) env) = (false, eval e env) :: backTo pos (starEach rest env) := by rfl) (hplain : (backTo pos (starEach (e :: rest) env)).any (·.1) = false := by rfl)
    (hall : (backToKw pos (keywordEach kws env)).all (·.1.isSome) = true := by rfl) (hkw : (backToKw pos (keywordEach kws env)).any (·.1.isNone) = false := by rfl) :
    wpAny M A (callWith pos (.type T) [] (backTo pos (starEach (e :: rest) env)) (backToKw pos (keywordEach kws env))) Q E s := by
  have h2 : wpAny M A (evalArgs (.type T) true (backTo pos (starEach (e :: rest) env)) (backToKw pos (keywordEach kws env))) (fun a s1 => wpAny M A (call (.type T) ([] ++ a.pos) a.kw) Q E s1) E s := by
    rw [he] at h ⊢
    exact PyProof.Rows.evalArgs_kwB hall h
  unfold callWith
  refine wpAny_bind (wpAny_holding (wpAny_mono h2 (fun a s1 h1 => wpAny_bind (wpAny_standAt ?_)) fun _ _ x => x))
  simp only [hplain, hkw, Bool.or_false]
  refine wpAny_bind (wpAny_pure ?_)
  exact wpAny_bind (wpAny_mono h1 (fun r s2 hr => wpAny_bind (wpAny_holding (wpAny_point (wpAny_pure hr)))) fun _ _ x => x)

/-- zip(d, t, strict=True), d a written dict -/
def iZipS (K : PySem.W.Frag) (d : Addr) (names : List Str) (ta : TA) : TI := fun σ H R => ta σ H fun vs H1 => ∃ (b : Addr) (ys : List V), vs = [.ref d, .ref b] ∧ SqT K H1 b ys ∧ ys.length = names.length ∧ R (ItS K names b) H1
theorem pi_zipS {X : Cx} {d : Addr} {es : Array DictEntry} {n : Nat} {names : List Str} {e e2 : Expr} {ta : TA} {p pos tpos kpos cpos : Pos} {elts : List Expr} {kk j : Nat} (T : KTab X.K X.w d es n names) (hg : Gl X "zip") (hm : X.mg "zip" = none) (ha : PA X [e, e2] ta)
    (hs : backTo pos (starEach [e, e2] X.env) = (false, eval e X.env) :: backTo pos (starEach [e2] X.env) := by rfl) (hpl : (backTo pos (starEach [e, e2] X.env)).any (·.1) = false := by rfl) :
    PI X (.Tuple elts kk tpos) (.Call (.Name "zip" p) [e, e2] [⟨some (Str.ofString "strict"), .Constant (.bool true) j cpos, kpos⟩] pos) (iZipS X.K d names ta) := by
  refine ⟨fun pins s σ H R I h => ?_⟩
  refine wpAny_Call_Name_kw (ld_blt I hg hm PyProof.Rows.boot_zip ?_)
  refine callWith_typeKw (thn (ha.run pos pins s σ H _ I h) fun us s1 ⟨vs, H1, I1, r1, q1⟩ => ?_) hs hpl
  obtain ⟨b, ys, ex, hqy, hly, q⟩ := q1
  subst ex
  refine thn ((pk_cons (nm := some (Str.ofString "strict")) (kpos := kpos) (pe_bl (X := X) (b := true) (j := j) (pos := cpos)) (pk_nil (X := X))).run pos pins s1 σ H1 (fun zs H2 => zs = [V.bl true] ∧ H2 = H1) I1 ⟨rfl, rfl⟩) fun ws s2 ⟨zs, H2, I2, rz, ez, eH⟩ => ?_
  subst ez eH
  have hw : ws = [.bool true] := by
    cases rz with
    | cons a b => cases a; cases b; rfl
  subst hw
  cases r1 with
  | cons r rr =>
    cases rr with
    | cons r' rr =>
      cases rr
      cases r
      cases r'
      have fresh5 : ∀ c, c ∈ [s2.heap.objs.size + 4, s2.heap.objs.size + 2, s2.heap.objs.size + 3, s2.heap.objs.size, s2.heap.objs.size + 1] → FpOk X pins H2 c := fun c hcm => by
        have e' : c = s2.heap.objs.size + 4 ∨ c = s2.heap.objs.size + 2 ∨ c = s2.heap.objs.size + 3 ∨ c = s2.heap.objs.size ∨ c = s2.heap.objs.size + 1 := by simpa using hcm
        have hle : s2.heap.objs.size ≤ c := by
          rcases e' with z | z | z | z | z
          · rw [z]; exact Nat.le_add_right _ _
          · rw [z]; exact Nat.le_add_right _ _
          · rw [z]; exact Nat.le_add_right _ _
          · rw [z]; exact Nat.le_refl _
          · rw [z]; exact Nat.le_add_right _ _
        exact I2.fpOk hle (I2.hok.fresh hle)
      obtain ⟨its2, rv2, p2, _⟩ := I2.tuple hqy
      obtain ⟨o2, ho2, _⟩ := id p2
      have ld : d < s2.heap.objs.size := Heap.lt_size (I2.kIn _ _ T.D.at_)
      refine call_zipS (es := es) (ep := n) T.D.low (kd_raw T.D I2) (show s2.heap.IsTuple b its2.toArray from p2) fun h' hz hTI hTO h1 h2 hsz hk => pyIterS hz ?_
      have I3 : Inv X pins σ H2 { s2 with heap := h' } := I2.kept (t' := s2.toks) hk
      exact ⟨s2.heap.objs.size + 4, [s2.heap.objs.size + 4, s2.heap.objs.size + 2, s2.heap.objs.size + 3, s2.heap.objs.size, s2.heap.objs.size + 1], _, _, H2, rfl, I3, turn_zipS (PySem.W.ktu_apart s2.heap.objs.size d b ld (Heap.lt_size ho2)) T, ⟨hz, hTI, ⟨_, _, hTO⟩, h1, h2⟩, fresh5, q⟩
/-- a loop over it -/
theorem for_zipS {K : PySem.W.Frag} {names : List Str} {b : Addr} {ys : List V} {g : TG} {tb : TS} {D : Ends} {σ : L2.St} {H : Hp} (hl : ys.length = names.length) (Pv : Nat → L2.St → Hp → Prop) (h0 : Pv 0 σ H) (hq : ∀ i σ H, Pv i σ H → SqT K H b ys)
    (hs : ∀ (i : Nat) (x : Str) (y : V) (T : Addr) (σ : L2.St) (H : Hp), names[i]? = some x → ys[i]? = some y → Pv i σ H → H T = none → g (.ref T) σ (upd H T (.tup [.str x, y])) fun σ2 H2 => tb { D with nx := Pv (i + 1), ct := Pv (i + 1), bk := D.nx } σ2 H2) (hd : ∀ σ H, Pv names.length σ H → D.nx σ H) :
    ∃ W : Nat → Nat → L2.St → Hp → Prop, (∃ m, W 0 m σ H) ∧ ∀ i m σ H, W i m σ H →
      ((ItS K names b).stop i H ∧ D.nx σ H) ∨ ((ItS K names b).go i H ∧ ∃ N : L2.St → Hp → Prop, (∀ σ' H', N σ' H' → ∃ m', m' < m ∧ W (i + 1) m' σ' H') ∧ ∀ v H', (ItS K names b).yld i H v H' → g v σ H' fun σ2 H2 => tb { D with nx := N, ct := N, bk := D.nx } σ2 H2) := by
  refine ⟨fun i m σ H => m = names.length - i ∧ i ≤ names.length ∧ Pv i σ H, ⟨names.length, rfl, Nat.zero_le _, h0⟩, ?_⟩
  rintro i m σ H ⟨rfl, hi, p⟩
  have qy := hq i σ H p
  by_cases hlt : i < names.length
  · refine .inr ⟨⟨hlt, ys, qy, hl⟩, Pv (i + 1), fun σ' H' p' => ⟨names.length - (i + 1), by omega, rfl, hlt, p'⟩, fun v H' y => ?_⟩
    obtain ⟨T, x', y', rfl, hT, rfl, f1, f2⟩ := y
    exact hs i x' y' T σ H f1 (f2 ys qy) p hT
  · have e : i = names.length := by omega
    subst e
    exact .inl ⟨⟨rfl, ys, qy, hl⟩, hd σ H p⟩
end K39
set_option Elab.async false
set_option linter.all false
set_option maxRecDepth 100000
set_option maxHeartbeats 4000000
/-! A def's promise together with its binding; methods called with keywords, or within a try; a promise that knows that no repr runs around (guards). -/
namespace K39
open PySem PySem.Spec PyProof.Rows L2

/-- the def at f keeps the promise sp; called with all parameters but the last ones, whose values are dvs -/
structure DefAt (P : Program) (w : World) (K : PySem.W.Frag) (mg : Str → Option Value) (base : Heap) (CX : CXT) (k : Nat) (f : Addr) (ps : List Str) (dvs : List V) (sp : Sp) : Prop where
  ex : ∃ (fd : FuncData) (ds : List Value), FnOk P w K mg base CX k f fd ps sp ∧ Binds K fd ps ds ∧ Vals dvs ds
  kp : PySem.W.keepIn K (.ref f) = true
/-- .. called with n positional values and keywords ks -/
structure DefKw (P : Program) (w : World) (K : PySem.W.Frag) (mg : Str → Option Value) (base : Heap) (CX : CXT) (k : Nat) (f : Addr) (ps : List Str) (n : Nat) (ks : List Str) (gV : List V → List V → List V) (sp : Sp) : Prop where
  ex : ∃ (fd : FuncData) (g : List Value → List Value → List Value), FnOk P w K mg base CX k f fd ps sp ∧ KBn K fd ps n ks g gV
  kp : PySem.W.keepIn K (.ref f) = true
theorem DefAt.mono {P : Program} {w : World} {K : PySem.W.Frag} {mg : Str → Option Value} {base : Heap} {CX : CXT} {j k : Nat} {f : Addr} {ps : List Str} {dvs : List V} {sp : Sp} (D : DefAt P w K mg base CX j f ps dvs sp) (h : j ≤ k) : DefAt P w K mg base CX k f ps dvs sp :=
  ⟨let ⟨fd, ds, F, b, v⟩ := D.ex; ⟨fd, ds, F.mono h, b, v⟩, D.kp⟩

section
variable {X : Cx} {CX : CXT} {k : Nat} {f C : Addr} {ps ks : List Str} {sp : Sp} {dvs : List V} {E : XK} {x m : Str} {p pos apos : Pos} {e o : Expr} {es : List Expr} {kws : List Keyword} {ta : TE} {t tk : TA} {n : Nat} {gV : List V → List V → List V}
theorem pe_callD (D : DefAt X.prog X.w X.K X.mg X.base CX k f ps dvs sp) (hr : Room k X.A) (hg : Gl X x) (hm : X.mg x = some (.ref f)) (hx : Passes CX X E) (ha : PA X (e :: es) t)
    (hdb : (x == ("__debug__" : Str)) = false := by decide) (he : starEach (e :: es) X.env = (false, eval e X.env) :: starEach es X.env := by rfl) (hpl : (backTo pos (starEach es X.env)).any (·.1) = false := by rfl) :
    PE X (.Call (.Name x p) (e :: es) [] pos) (tCall sp dvs E t) := by
  obtain ⟨fd, ds, F, b, v⟩ := D.ex
  exact pe_call F hr hg hm D.kp b v hx ha hdb he hpl
theorem pe_methD {pl : Sem Bool} (he : PE X o ta) (c : Cls X.K C) (hm : Meth X.K C m f) (D : DefAt X.prog X.w X.K X.mg X.base CX k f ps dvs sp) (hr : Room k X.A) (hx : Passes CX X E) (ha : PA X (e :: es) t)
    (hst : starEach (e :: es) X.env = (false, eval e X.env) :: starEach es X.env := by rfl) (hpl : (backTo pos (starEach es X.env)).any (·.1) = false := by rfl)
    (ht : eval (.Call (.Attribute o m apos) (e :: es) [] pos) X.env = (do
      let ov ← eval o X.env
      standAt apos.atName
      let (f, first) ← holding [ov] (getMethod ov m pl)
      callWith pos f first (backTo pos (starEach (e :: es) X.env)) (backToKw pos (keywordEach [] X.env))) := by rfl) :
    PE X (.Call (.Attribute o m apos) (e :: es) [] pos) (tMeth C m sp dvs E ta t) := by
  obtain ⟨fd, ds, F, b, v⟩ := D.ex
  exact pe_meth he c hm F hr b v hx ha hst hpl ht
theorem pe_methD0 {pl : Sem Bool} (he : PE X o ta) (c : Cls X.K C) (hm : Meth X.K C m f) (D : DefAt X.prog X.w X.K X.mg X.base CX k f ps dvs sp) (hr : Room k X.A) (hx : Passes CX X E)
    (ht : eval (.Call (.Attribute o m apos) [] [] pos) X.env = (do
      let ov ← eval o X.env
      standAt apos.atName
      let (f, first) ← holding [ov] (getMethod ov m pl)
      callWith pos f first (backTo pos (starEach [] X.env)) (backToKw pos (keywordEach [] X.env))) := by rfl) :
    PE X (.Call (.Attribute o m apos) [] [] pos) (tMeth C m sp dvs E ta tNil) := by
  obtain ⟨fd, ds, F, b, v⟩ := D.ex
  exact pe_meth0 he c hm F hr b v hx ht
/-- C(e, ..) -/
theorem pe_makeD (M : Mk X.K C f) (D : DefAt X.prog X.w X.K X.mg X.base CX k f ps dvs sp) (hr : Room (k + 1) X.A) (hg : Gl X x) (hm : X.mg x = some (.ref C)) (hx : Passes CX X E) (ha : PA X (e :: es) t)
    (hdb : (x == ("__debug__" : Str)) = false := by decide) (he : starEach (e :: es) X.env = (false, eval e X.env) :: starEach es X.env := by rfl) (hpl : (backTo pos (starEach es X.env)).any (·.1) = false := by rfl) :
    PE X (.Call (.Name x p) (e :: es) [] pos) (tMake C sp dvs E t) := by
  obtain ⟨fd, ds, F, b, v⟩ := D.ex
  exact pe_make M F hr hg hm b v hx ha hdb he hpl
/-- C(e, .., k = v, ..) -/
theorem pe_makeKD (M : Mk X.K C f) (D : DefKw X.prog X.w X.K X.mg X.base CX k f ps (n + 1) ks gV sp) (hr : Room (k + 1) X.A) (hg : Gl X x) (hm : X.mg x = some (.ref C)) (hx : Passes CX X E) (ha : PA X (e :: es) t) (hkw : PK X kws tk)
    (hall : (backToKw pos (keywordEach kws X.env)).all (·.1.isSome) = true := by rfl) (hks : (backToKw pos (keywordEach kws X.env)).filterMap (·.1) = ks := by rfl) (hdb : (x == ("__debug__" : Str)) = false := by decide)
    (he : starEach (e :: es) X.env = (false, eval e X.env) :: starEach es X.env := by rfl) (hpl : ((backTo pos (starEach (e :: es) X.env)).any (·.1) || (backToKw pos (keywordEach kws X.env)).any (·.1.isNone)) = false := by rfl) :
    PE X (.Call (.Name x p) (e :: es) kws pos) (tMakeK C n ks.length sp gV E t tk) := by
  obtain ⟨fd, g, F, b⟩ := D.ex
  exact pe_makeK M F hr hg hm b hx ha hkw hall hks hdb he hpl
/-- o.m(e, .., k = v, ..) -/
def tMethK (C : Addr) (m : Str) (n l : Nat) (sp : Sp) (gV : List V → List V → List V) (E : XK) (ta : TE) (t tk : TA) : TE := fun σ H Q => ta σ H fun x H1 => ∃ a dx fs, x = .ref a ∧ H1 a = some (.ins C dx fs) ∧ fs.lookup m = none ∧
  t σ H1 fun vs H2 => tk σ H2 fun zs H3 => vs.length = n ∧ zs.length = l ∧ sp (gV (x :: vs) zs) H3 Q E
theorem pe_methKD {pl : Sem Bool} (he : PE X o ta) (c : Cls X.K C) (hm : Meth X.K C m f) (D : DefKw X.prog X.w X.K X.mg X.base CX k f ps (n + 1) ks gV sp) (hr : Room k X.A) (hx : Passes CX X E) (ha : PA X (e :: es) t) (hkw : PK X kws tk)
    (hall : (backToKw pos (keywordEach kws X.env)).all (·.1.isSome) = true := by rfl) (hks : (backToKw pos (keywordEach kws X.env)).filterMap (·.1) = ks := by rfl)
    (hst : starEach (e :: es) X.env = (false, eval e X.env) :: starEach es X.env := by rfl) (hpl : ((backTo pos (starEach (e :: es) X.env)).any (·.1) || (backToKw pos (keywordEach kws X.env)).any (·.1.isNone)) = false := by rfl)
    (ht : eval (.Call (.Attribute o m apos) (e :: es) kws pos) X.env = (do
      let ov ← eval o X.env
      standAt apos.atName
      let (f, first) ← holding [ov] (getMethod ov m pl)
      callWith pos f first (backTo pos (starEach (e :: es) X.env)) (backToKw pos (keywordEach kws X.env))) := by rfl) :
    PE X (.Call (.Attribute o m apos) (e :: es) kws pos) (tMethK C m n ks.length sp gV E ta t tk) := by
  obtain ⟨fd, g, F, b⟩ := D.ex
  refine ⟨fun pins s σ H Q I h => ?_⟩
  refine PySem.W.methodCall_KW (pl := pl) (thn (he.run pins s σ H _ I h) fun u s1 ⟨x, H1, I1, rx, a, dx, fs, ex, ea, l, q⟩ => ?_) ht
  subst ex
  obtain rfl : u = Value.ref a := rx
  refine getmeth_ok I1 ea c hm l ?_
  refine PySem.W.callWith_KW (first := [.ref a]) (h₀ := X.base) I.ok.mod.kin hm.kp hall (thn (ha.run pos pins s1 σ H1 _ I1 q) fun us s2 ⟨vs, H2, I2, r, q2⟩ => ?_) hpl hst
  refine thn (hkw.run pos pins s2 σ H2 _ I2 q2) fun ws s3 ⟨zs, H3, I3, rz, l1, l2, q3⟩ => ⟨I3.kIn, ?_⟩
  rw [hks]
  exact run_fnN (us := .ref a :: us) (vs := .ref a :: vs) F hr b hx I3 (.cons rfl r) rz (congrArg Nat.succ l1) l2 q3
/-- o.m(e, ..) within a try: what is raised is wished for at the slots -/
def tMethS (C : Addr) (m : Str) (sp : Sp) (dvs : List V) (E : L2.St → XK) (ta : TE) (t : TA) : TE := fun σ H Q => ta σ H fun x H1 => ∃ a dx fs, x = .ref a ∧ H1 a = some (.ins C dx fs) ∧ fs.lookup m = none ∧
  t σ H1 fun vs H2 => sp (x :: (vs ++ dvs)) H2 Q (E σ)
theorem pe_methSD {E : L2.St → XK} {pl : Sem Bool} (he : PE X o ta) (c : Cls X.K C) (hm : Meth X.K C m f) (D : DefAt X.prog X.w X.K X.mg X.base CX k f ps dvs sp) (hr : Room k X.A) (hx : ∀ σ, PassesAt CX X σ (E σ)) (ha : PA X (e :: es) t)
    (hst : starEach (e :: es) X.env = (false, eval e X.env) :: starEach es X.env := by rfl) (hpl : (backTo pos (starEach es X.env)).any (·.1) = false := by rfl)
    (ht : eval (.Call (.Attribute o m apos) (e :: es) [] pos) X.env = (do
      let ov ← eval o X.env
      standAt apos.atName
      let (f, first) ← holding [ov] (getMethod ov m pl)
      callWith pos f first (backTo pos (starEach (e :: es) X.env)) (backToKw pos (keywordEach [] X.env))) := by rfl) :
    PE X (.Call (.Attribute o m apos) (e :: es) [] pos) (tMethS C m sp dvs E ta t) := by
  obtain ⟨fd, ds, F, b, v⟩ := D.ex
  refine ⟨fun pins s σ H Q I h => ?_⟩
  refine PySem.W.methodCall_KW (pl := pl) (thn (he.run pins s σ H _ I h) fun u s1 ⟨x, H1, I1, rx, a, dx, fs, ex, ea, l, q⟩ => ?_) ht
  subst ex
  obtain rfl : u = Value.ref a := rx
  refine getmeth_ok I1 ea c hm l ?_
  refine PySem.W.callWith_K (first := [.ref a]) (h₀ := X.base) I.ok.mod.kin hm.kp (thn (ha.run pos pins s1 σ H1 _ I1 q) fun us s2 ⟨vs, H2, I2, r, q2⟩ => ⟨I2.kIn, ?_⟩) hst hpl
  have r2 : Vals (V.ref a :: (vs ++ dvs)) (Value.ref a :: (us ++ ds)) := .cons rfl (r.append v)
  have hl : (Value.ref a :: us ++ ds).length = ps.length := by
    have q := F.len _ _ _ _ q2
    rw [r2.length] at q
    exact q
  show wpAny _ _ (call (.ref f) (Value.ref a :: us)) _ _ _
  refine wpAny_call (codeAny_mono (F.run X.A X.stack s2 H2 ⟨Value.ref a :: us, []⟩ (Value.ref a :: (us ++ ds)) (V.ref a :: (vs ++ dvs)) Q (E σ) hr I2.env0 (b s2 (Value.ref a :: us) I2.kIn hl) r2 q2) fun r s' hq => ?_)
  cases r with
  | error e => exact hx σ pins H2 s2 e s' I2 hq
  | ok fl =>
    cases fl with
    | ret u => exact I2.after hq
    | next => exact False.elim hq
    | brk => exact False.elim hq
    | cont => exact False.elim hq
end

/-! ### a promise that knows the guards -/
/-- as FnOk (nothing is let out), where no repr of a list runs around -/
structure FnG (P : Program) (w : World) (K : PySem.W.Frag) (mg : Str → Option Value) (base : Heap) (k : Nat) (f : Addr) (fd : FuncData) (ps : List Str) (sp : Sp) : Prop where
  len : ∀ vs H Q E, sp vs H Q E → vs.length = ps.length
  run : ∀ (A : Around) (outer : List Env) (s : Shared) (H : Hp) (args : Args) (us : List Value) (vs : List V) (Q : VK) (E : XK), A.guards = some [] → Room k A → Env0 P w K mg base A outer s H → BindsTo s fd args (ps.zip us) → Vals vs us → sp vs H Q E →
    codeAny (model P w) A (.call (.ref f) args) (CR CX0 outer P w H s Q E) s
structure DefG (P : Program) (w : World) (K : PySem.W.Frag) (mg : Str → Option Value) (base : Heap) (k : Nat) (f : Addr) (ps : List Str) (sp : Sp) : Prop where
  ex : ∃ fd : FuncData, FnG P w K mg base k f fd ps sp ∧ Binds K fd ps []
  kp : PySem.W.keepIn K (.ref f) = true
section
variable {P : Program} {w : World} {K : PySem.W.Frag} {mg : Str → Option Value} {base : Heap}
theorem okG {x qual : Str} {params : Arguments} {body : List Stmt} {scope : Scope} {dvs : List V} {kws : List (Str × V)} {f : Addr} {fd : FuncData} {N ps : List Str} {k : Nat} {sp : Sp} (F : FunD K x qual params body scope dvs kws f fd) (S : FnScope N ps scope)
    (len : ∀ vs H Q E, sp vs H Q E → vs.length = ps.length)
    (hbody : ∀ (cdv : Value) (A : Around) (outer : List Env) (s : Shared) (H : Hp) (vs : List V) (Q : VK) (E : XK), A.guards = some [] → Room k (A.deeper (envOfC qual scope s.heap.objs.size f cdv)) → sp vs H Q E →
      ∃ t, PSs (cxOf CX0 P w K mg base N qual scope f cdv A outer s H E).nox body t ∧ t { nx := fun _ H' => Q .non H', rt := Q } (start N vs) H) : FnG P w K mg base (k + 1) f fd ps sp := by
  obtain ⟨oc, od, dV, kV, doc, pm, an, cdv, ct, osl, rfl, lk, hcd, _, _⟩ := F.ex
  refine ⟨len, fun A outer s H args us vs Q E hgd hr e0 hb r hsp => ?_⟩
  have hl := len _ _ _ _ hsp
  have KX : K.In s.heap := e0.mod.kin.keeps fun b o e => (e0.bs b o e).1
  have lim : s.heap.NoLimit := e0.mod.nolimit.keeps fun b o e => (e0.bs b o e).1
  have known : ∀ y ∈ ps.zip us, scope.names.lookup y.1 = some .local ∨ (scope.names.lookup y.1 = some .cell ∧ ((cellsFrom (s.heap.objs.size + 1) scope.names []).lookup y.1).isSome = true) := fun y hy =>
    (S.par y.1 (List.of_mem_zip (a := y.1) (b := y.2) hy).1).imp id fun q => ⟨q, PySem.W.cellsFrom_some _ _ _ (.inl q)⟩
  refine codeAny_call_function hr.depth (KX _ _ lk) rfl S.co S.gen rfl (PySem.W.codeRec_of KX hcd) (hb _ _ _ _ ?_)
  refine wpAny_newFunctionEnv_cells S.kind known fun env he s1 x => ?_
  subst he
  refine ⟨lim.keeps x.toInCall.keep, codeAny_func ?_⟩
  obtain ⟨t, ht, hq⟩ := hbody cdv A outer s H vs Q E hgd (hr.deeper _) hsp
  have I : Inv (cxOf CX0 P w K mg base N qual scope f cdv A outer s H E) [] (start N vs) H s1 := inv_start S hr.hd e0 hl r x
  refine wpAny_mono (ht.nox.run [] s1 (start N vs) H _ I hq) (fun fl s' hs => ?_) fun e s' hs => hs
  have leave : ∀ {σ' : L2.St} {H' : Hp} {v : V} {u : Value}, Inv (cxOf CX0 P w K mg base N qual scope f cdv A outer s H E) [] σ' H' s' → RelV v u → Q v H' → CE outer P w H s Q u s' :=
    fun {σ' H' v u} J rv q => ⟨v, H', J.os, J.bare, J.base, J.hok, rv, q⟩
  cases fl with
  | ret u => obtain ⟨v, σ', H', J, rv, q⟩ := hs; exact leave J rv q
  | next => obtain ⟨σ', H', J, q⟩ := hs; exact leave (v := V.non) (u := Value.none) J rfl q
  | brk => obtain ⟨_, _, _, q⟩ := hs; exact False.elim q
  | cont => obtain ⟨_, _, _, q⟩ := hs; exact False.elim q
end
section
variable {X : Cx} {k : Nat} {f : Addr} {ps : List Str} {sp : Sp} {x : Str} {p pos : Pos} {e : Expr} {es : List Expr} {t : TA}
theorem pe_callG (D : DefG X.prog X.w X.K X.mg X.base k f ps sp) (hgd : X.A.guards = some []) (hr : Room k X.A) (hg : Gl X x) (hm : X.mg x = some (.ref f)) (ha : PA X (e :: es) t)
    (hdb : (x == ("__debug__" : Str)) = false := by decide) (he : starEach (e :: es) X.env = (false, eval e X.env) :: starEach es X.env := by rfl) (hpl : (backTo pos (starEach es X.env)).any (·.1) = false := by rfl) :
    PE X (.Call (.Name x p) (e :: es) [] pos) (tCall sp [] E0 t) := by
  obtain ⟨fd, F, b⟩ := D.ex
  refine ⟨fun pins s σ H Q I h => ?_⟩
  refine wpAny_Call_Name_kw (ld_glob I hg hm ?_ hdb)
  refine PySem.W.callWith_K (h₀ := X.base) I.ok.mod.kin D.kp (thn (ha.run pos pins s σ H _ I h) fun us s1 ⟨vs, H1, I1, r, q⟩ => ⟨I1.kIn, ?_⟩) he hpl
  have q2 : sp (vs ++ []) H1 Q E0 := q
  have q' : sp vs H1 Q E0 := by rw [List.append_nil] at q2; exact q2
  have hl : (us ++ []).length = ps.length := by rw [List.append_nil, ← r.length]; exact F.len _ _ _ _ q'
  have hb := b s1 us I1.kIn hl
  rw [List.append_nil] at hb
  refine wpAny_call (codeAny_mono (F.run X.A X.stack s1 H1 ⟨us, []⟩ us vs Q E0 hgd hr I1.env0 hb r q') fun r s' hq => ?_)
  cases r with
  | error e => exact False.elim hq
  | ok fl =>
    cases fl with
    | ret u => exact I1.after hq
    | next => exact False.elim hq
    | brk => exact False.elim hq
    | cont => exact False.elim hq
end

/-- the law's def is called: L2.law_call for a promise that knows the guards -/
theorem law_callG {P : Program} {w : World} {K : PySem.W.Frag} {mg mb : Str → Option Value} {k : Nat} {fa a : Addr} {fd : FuncData} {x : Str} {sp : Sp} {s1 : Shared} {vs : List Value} {ns : List Int}
    (KX : K.In s1.heap) (hns : s1.heap.Ns mainGlobals mg) (hb : s1.heap.Ns builtinsNs mb) (hbb : ∀ x : Str, x ≠ "__name__" → mb x = bootBuiltins x) (hlim : s1.heap.NoLimit) (hg : s1.gens = #[])
    (ha : s1.heap.get? a = some { cls := .type "list", data := .seq vs.toArray }) (hi : IntsAre vs ns) (hl : ns.length ≤ sizeLine) (hr : Room k callerA)
    (F : ∀ base : Heap, K.In base → base.Ns mainGlobals mg → FnG P w K mg base k fa fd [x] sp) (hbind : ∀ (s : Shared) (u : Value), BindsTo s fd ⟨[u], []⟩ [(x, u)])
    (hsp : ∀ H : Hp, Only H → SqL K H a (ns.map V.int) → sp [.ref a] H (fun v _ => v = .bl true) fun _ _ _ => False) :
    codeAny (model P w) callerA (.call (.ref fa) ⟨[.ref a], []⟩) (fun r s' => r = .ok (.ret (.bool true)) ∧ OldK s1.heap s'.heap ∧ s'.os = s1.os ∧ AllBare s'.gens) s1 := by
  have rv := vals_ints hi
  have lenV := hi.length
  have core : ∀ H : Hp, Only H → SqL K H a (ns.map V.int) → HOk P w H s1.heap → (∀ b, H b ≠ none → b = a) → (H a ≠ none → K.lookup a = none) →
      codeAny (model P w) callerA (.call (.ref fa) ⟨[.ref a], []⟩) (fun r s' => r = .ok (.ret (.bool true)) ∧ OldK s1.heap s'.heap ∧ s'.os = s1.os ∧ AllBare s'.gens) s1 := by
    intro H hO hS hok hA hK
    have mine : ∀ {b : Addr} {u : HO}, H b = some u → b = a := fun {b u} q => hA b (by rw [q]; simp)
    have noDict : ∀ {b : Addr} {o : Obj} {es : Array DictEntry} {ep : Nat}, s1.heap.get? b = some o → o.data = .dict es ep → H b = none := fun {b o es ep} e d => by
      cases q : H b with
      | none => rfl
      | some u =>
        rw [mine q, ha] at e
        cases e
        have d' : Data.seq vs.toArray _ = Data.dict es ep := d
        cases d'
    have nsK : ∀ {b : Addr} {m : Str → Option Value}, s1.heap.Ns b m → (hidT s1.heap H).Ns b m := fun {b m} ⟨o, es, ep, e, d, r⟩ => ⟨o, es, ep, hidT_get e (noDict e d), d, r⟩
    have hKb : K.In (hidT s1.heap H) := fun b o e => hidT_get (KX b o e) (by
      cases q : H b with
      | none => rfl
      | some u =>
        rw [mine q, hK (by rw [← mine q, q]; simp)] at e
        cases e)
    have hM : Mod K mg (hidT s1.heap H) := ⟨hKb, nsK hns, ⟨mb, nsK hb, hbb⟩, let ⟨mc, h1, h2⟩ := hlim; ⟨mc, nsK h1, h2⟩⟩
    have e0 : Env0 P w K mg (hidT s1.heap H) callerA [] s1 H := ⟨rfl, hM, fun b o e => of_hidT e, Nat.le_of_eq (hidT_size _ _), trivial, fun b hb => absurd (show b ∈ ([] : List Addr) from hb) (by simp), hok, .of_eq hg⟩
    refine codeAny_mono ((F _ hKb (nsK hns)).run callerA [] s1 H ⟨[.ref a], []⟩ [.ref a] [.ref a] _ _ rfl hr e0 (hbind s1 (.ref a)) (.cons rfl .nil) (hsp H hO hS)) fun r s' h => ?_
    cases r with
    | error e => exact False.elim h
    | ok fl =>
      cases fl with
      | next => exact False.elim h
      | brk => exact False.elim h
      | cont => exact False.elim h
      | ret u =>
        obtain ⟨v, H', os, bare, un, hok', r', q⟩ := h
        obtain rfl : v = .bl true := q
        obtain rfl : u = Value.bool true := r'
        refine ⟨rfl, OldK.of_keep fun b o e => ?_, os, bare⟩
        cases q : H b with
        | none => exact un.keep b o e q (by intro z; exact absurd (show b ∈ ([] : List Addr) from z) (by simp)) (by simp)
        | some u =>
          rcases hO b with z | ⟨ob, xs, z⟩
          · rw [q] at z; cases z
          · obtain ⟨e1, _⟩ := hok b _ z
            obtain ⟨e2, _⟩ := hok' b _ (un.frzs b ob _ z)
            rw [e] at e1; cases e1
            exact e2
  cases hk : K.lookup a with
  | some o =>
    have e := KX a o hk
    rw [ha] at e
    cases e
    exact core (fun _ => none) (fun _ => .inl rfl) (.inr ⟨_, vs.toArray, _, hk, rfl, rfl, rfl, by rw [List.size_toArray, lenV]; exact hl, by simpa using rv⟩) (fun b u z => by have z' : (none : Option HO) = some u := z; cases z') (fun b z => absurd rfl z) fun z => absurd rfl z
  | none =>
    refine core (fun b => if b = a then some (.frz { cls := .type "list", data := .seq vs.toArray } (.lst (ns.map V.int))) else none) (fun b => ?_) (.inl (.inr ⟨{ cls := .type "list", data := .seq vs.toArray }, if_pos rfl⟩)) (fun b u z => ?_) (fun b z => ?_) fun _ => hk
    · by_cases hb : b = a
      · exact .inr ⟨_, _, if_pos hb⟩
      · exact .inl (if_neg hb)
    · by_cases hb : b = a
      · have z' := (if_pos hb).symm.trans z
        cases z'
        subst hb
        exact ⟨ha, by rw [List.length_map]; exact hl, vs, _, rv, ha⟩
      · have z' := (if_neg hb).symm.trans z
        cases z'
    · by_cases hb : b = a
      · exact hb
      · exact absurd (if_neg hb) z
/-- the goal behind the head: L2.walk_ofE for such a promise -/
theorem walk_G {l : PySem.W.OpenLaw} {n k : Nat} {q : Program} {loose : List Str} {XP : (Str → Option Value) → Heap → Prop} {YP : World → Heap → Prop} {d : DefRec} {x : Str}
    (hn : l.most = some n) (hn2 : n ≤ sizeLine) (hdf : d.params.defaults = []) (hr : Room k callerA)
    (F : ∀ (w : World) (mg : Str → Option Value) (fa : Addr) (h : Heap), YP w h → h.Ns mainGlobals mg → mg d.name = some (.ref fa) →
      ∃ (K : PySem.W.Frag) (fd : FuncData) (sp : Sp), K.In h ∧ (∀ (s : Shared) (u : Value), BindsTo s fd ⟨[u], []⟩ [(x, u)]) ∧
        (∀ (H : Hp) (a : Addr) (ns : List Int), ns.length ≤ n → Only H → SqL K H a (ns.map V.int) → sp [.ref a] H (fun v _ => v = .bl true) fun _ _ _ => False) ∧
        ∀ base : Heap, K.In base → base.Ns mainGlobals mg → FnG l.prog w K mg base k fa fd [x] sp) :
    PySem.W.WalkO q loose XP YP l.row.toRowW d [] (fun f vs => PySem.call f vs) := by
  refine Att.attach_call hn hdf fun w s0 s1 mg mb fa o pm cd doc a vs ns G Y ho hd hcd hmg hobj hints hlen hg => ?_
  obtain ⟨K, fd, sp, KX, hb, hsp, hF⟩ := F w mg fa _ Y G.T.g hmg
  exact law_callG KX G.T.g G.T.b G.T.builtins G.T.nolimit hg hobj hints (Nat.le_trans hlen hn2) hr hF hb fun H hO hS => hsp H a ns hlen hO hS
end K39
set_option Elab.async false
set_option linter.all false
set_option maxRecDepth 100000
set_option maxHeartbeats 4000000
/-! What the top leaves, as data: the defs, the names, the tables; and what follows for whoever walks. -/
namespace K39
open PySem PySem.Spec PyProof.Rows L2

/-! ### the text by places -/
abbrev sIsWhole : Stmt := top 8
abbrev sIsWithin : Stmt := top 9
abbrev sIsModerate : Stmt := top 10
abbrev sIsName : Stmt := top 11
abbrev sIsKind : Stmt := top 19
abbrev sIsNameOrNone : Stmt := top 20
abbrev sIsCount : Stmt := top 21
abbrev sIsPoolNumber : Stmt := top 22
abbrev sIsNumberOrNone : Stmt := top 23
abbrev sIsEnd : Stmt := top 24
abbrev sIsVia : Stmt := top 25
abbrev sIsBooks : Stmt := top 27
abbrev sLook : Stmt := top 29
abbrev sLetterInit : Stmt := inClass (top 30) 0
abbrev sAInit : Stmt := inClass (top 36) 0
abbrev sLetGo : Stmt := inClass (top 36) 1
abbrev sState : Stmt := inClass (top 36) 2
abbrev sHeld : Stmt := inClass (top 36) 3
abbrev sHeldTo : Stmt := inClass (top 36) 4
abbrev sDue : Stmt := inClass (top 36) 5
abbrev sSettle : Stmt := inClass (top 36) 6
abbrev sLookHolding : Stmt := inClass (top 36) 7
abbrev sSent : Stmt := inClass (top 36) 8
abbrev sSeek : Stmt := inClass (top 36) 9
abbrev sRenew : Stmt := inClass (top 36) 10
abbrev sGivenBack : Stmt := inClass (top 36) 11
abbrev sFree : Stmt := inClass (top 36) 12
abbrev sSpoil : Stmt := inClass (top 36) 13
abbrev sTake : Stmt := inClass (top 36) 14
abbrev sTakeGrant : Stmt := inClass (top 36) 15
abbrev sBag : Stmt := top 38
abbrev sTk : Stmt := top 39
abbrev sNames : Stmt := top 40
abbrev sLetter : Stmt := top 41
abbrev sPlain : Stmt := top 42
abbrev sWritten : Stmt := top 43
abbrev sFields : Stmt := top 44
abbrev sIdle : Stmt := top 45
abbrev sSettled : Stmt := top 46
abbrev sDone : Stmt := top 47
abbrev sTaken : Stmt := top 48
abbrev sTells : Stmt := top 49
abbrev sDid : Stmt := top 50
abbrev sGo : Stmt := top 51
abbrev sAnswer : Stmt := top 52
abbrev sStep : Stmt := top 53
abbrev sElder : Stmt := top 54
abbrev sLaw : Stmt := top 55

/-! ### the facts asked -/
/-- a keyword default that is an object -/
def kwAt (f : Str × Option Str) (x : Str) (K : PySem.W.Frag) : Addr := match K.lookup (He.fAd K f) with
  | some ⟨_, _, .func fd, _⟩ => (match fd.kwdefaults with
    | .ref D => (match PySem.W.nsIn K D x with
      | some (some (.ref a)) => a
      | _ => 0)
    | _ => 0)
  | _ => 0
def viaA : PySem.W.Frag → Addr := kwAt ("Letter", some "__init__") "via"
def rowsA : PySem.W.Frag → Addr := kwAt ("Letter", some "__init__") "rows"
def dG (x : Str) (s : Stmt) : He.DefD := ⟨(x, none), x, x, defArgs s, defBody s, defScope s, [], []⟩
def dA (x q : Str) (s : Stmt) : He.DefD := ⟨("Asker", some x), x, q, defArgs s, defBody s, defScope s, [], []⟩
def dLetterInit : He.DefD := ⟨("Letter", some "__init__"), "__init__", "Letter.__init__", defArgs sLetterInit, defBody sLetterInit, defScope sLetterInit, [.str ""],
  [("mark", .int 0), ("number", .non), ("span", .int 0), ("turn", .int 0), ("count", .int 0), ("end", .non), ("who", .str ""), ("link", .str ""), ("via", .adr viaA), ("rows", .adr rowsA)]⟩
def dSent : He.DefD := ⟨("Asker", some "sent"), "sent", "Asker.sent", defArgs sSent, defBody sSent, defScope sSent, [], [("number", .non), ("who", .str "")]⟩
def dLetter : He.DefD := ⟨("_law_letter", none), "_law_letter", "_law_letter", defArgs sLetter, defBody sLetter, defScope sLetter, [.int 0, .non, .int 0, .int 0, .int 0, .non, .str "", .str ""], []⟩
def dDeedInit : He.DefD := ⟨("NoDeed", some "__init__"), "__init__", "NoDeed.__init__", defArgs sDeedInit, defBody sDeedInit, defScope sDeedInit, [], []⟩
def fn1 : List He.DefD := [dG "is_whole" sIsWhole, dG "is_within" sIsWithin, dG "is_moderate" sIsModerate, dG "is_name" sIsName, dG "is_kind" sIsKind, dG "is_name_or_none" sIsNameOrNone, dG "is_count" sIsCount, dG "is_pool_number" sIsPoolNumber,
  dG "is_number_or_none" sIsNumberOrNone, dG "is_end" sIsEnd, dG "is_via" sIsVia, dG "is_books" sIsBooks, dG "look_letter" sLook, dLetterInit, dDeedInit]
def fn2 : List He.DefD := [dA "__init__" "Asker.__init__" sAInit, dA "let_go" "Asker.let_go" sLetGo, dA "state" "Asker.state" sState, dA "held" "Asker.held" sHeld, dA "held_to" "Asker.held_to" sHeldTo, dA "due" "Asker.due" sDue, dA "settle" "Asker.settle" sSettle,
  dA "look_holding" "Asker.look_holding" sLookHolding, dSent, dA "seek" "Asker.seek" sSeek, dA "renew" "Asker.renew" sRenew, dA "given_back" "Asker.given_back" sGivenBack, dA "free" "Asker.free" sFree, dA "spoil" "Asker.spoil" sSpoil, dA "take" "Asker.take" sTake, dA "take_grant" "Asker.take_grant" sTakeGrant]
def fn3 : List He.DefD := [dG "_law_bag" sBag, dG "_law_take" sTk, dG "_law_names" sNames, dLetter, dG "_law_plain" sPlain, dG "_law_written" sWritten, dG "_law_fields" sFields, dG "_law_idle" sIdle, dG "_law_settled" sSettled, dG "_law_done" sDone, dG "_law_taken" sTaken,
  dG "_law_tells" sTells, dG "_law_did" sDid, dG "_law_go" sGo, dG "_law_answer" sAnswer, dG "_law_step" sStep, dG "_law_elder" sElder, dG "law" sLaw]
def fn : List He.DefD := fn1 ++ (fn2 ++ fn3)
def gloA : List Str := ["NoDeed", "KINDS", "is_whole", "is_within", "is_moderate", "is_name", "is_kind", "is_name_or_none", "is_count", "is_pool_number", "is_number_or_none", "is_end", "is_via", "is_books", "LOOKS", "look_letter", "Letter", "Asker"]
def gloB : List Str := ["_law_bag", "_law_take", "_law_names", "_law_letter", "_law_plain", "_law_written", "_law_fields", "_law_idle", "_law_settled", "_law_done", "_law_taken", "_law_tells", "_law_did", "_law_go", "_law_answer", "_law_step", "_law_elder", "law"]
def gloL : List Str := gloA ++ gloB
def freeL : List Str := ["isinstance", "int", "bool", "str", "tuple", "list", "len", "all", "zip", "max", "min", "abs", "range", "repr"]
def strL : List (Str × Str) := [("LETTERS", "abcdefghijklmnopqrstuvwxyz"), ("IDLE", "idle"), ("ASKED", "asked"), ("WANTING", "wanting"), ("HOLDING", "holding")]
def intL : List (Str × Int) := [("MOST_SIGNS", 8), ("MOST_WHOLE", 999999999999), ("MOST_COUNT", 999999999999), ("MOST_NUMBER", 999999), ("MOST_VIA", 4), ("MOST_ROWS", 60)]
def clsL : List Str := ["Letter", "Asker"]
def noatL : List (Str × Str) := [("Letter", "kind"), ("Letter", "sender"), ("Letter", "receiver"), ("Letter", "mark"), ("Letter", "number"), ("Letter", "span"), ("Letter", "turn"), ("Letter", "count"), ("Letter", "end"), ("Letter", "who"), ("Letter", "link"), ("Letter", "via"), ("Letter", "rows"),
  ("Asker", "name"), ("Asker", "marks"), ("Asker", "phase"), ("Asker", "waiting"), ("Asker", "sent_at"), ("Asker", "number"), ("Asker", "end"), ("Asker", "keeper"), ("Asker", "span"), ("Asker", "turn")]
def methL : List Str := ["let_go", "state", "held", "held_to", "due", "settle", "look_holding", "sent", "seek", "renew", "given_back", "free", "spoil", "take", "take_grant"]
def fa : List He.Fa := gloL.map .glo ++ (freeL.map .free ++ (strL.map (fun p => .str p.1 p.2) ++ (intL.map (fun p => .int p.1 p.2) ++ (clsL.map .cls ++ (clsL.map .mkr ++ (noatL.map (fun p => .noat p.1 p.2) ++ (methL.map (fun m => .meth "Asker" m) ++ [.exm "NoDeed" "NoDeed" true])))))))
def lookNames : List Str := ["kind", "sender", "receiver", "mark", "number", "span", "turn", "count", "end", "who", "link", "via", "rows"]
def lookVals : List (Str × He.Dv) := [("kind", .glo "is_kind"), ("sender", .glo "is_name"), ("receiver", .glo "is_name_or_none"), ("mark", .glo "is_count"), ("number", .glo "is_number_or_none"), ("span", .glo "is_count"), ("turn", .glo "is_count"), ("count", .glo "is_count"),
  ("end", .glo "is_end"), ("who", .glo "is_name_or_none"), ("link", .glo "is_name_or_none"), ("via", .glo "is_via"), ("rows", .glo "is_books")]
def kindNames : List Str := ["find", "offer", "want", "grant", "deny", "renew", "free", "spoil", "told", "seen", "give", "back", "books"]
def ts : List He.Tab := [(fun K => He.ga K "LOOKS", lookNames)]
def emptyTup (K : PySem.W.Frag) (a : Addr) : Bool := match K.lookup a with
  | some ⟨.type c, _, .seq its _, _⟩ => decide (c = "tuple") && its.isEmpty
  | _ => false
abbrev nd (K : PySem.W.Frag) : Addr := He.ga K "NoDeed"
abbrev ndI (K : PySem.W.Frag) : Addr := He.ma K (nd K) "__init__"
def exB (K : PySem.W.Frag) : Bool :=
  He.valsB K (He.ga K "LOOKS") lookVals && (He.tupB K "KINDS" (kindNames.map .str) && (emptyTup K (viaA K) && (emptyTup K (rowsA K) && (deedB K (nd K) &&
  (He.eqO (PySem.W.findIn K (.ref (nd K)) "__setattr__") (some (some (.builtin "object.__setattr__"))) && (He.eqO (PySem.W.findIn K (.ref (nd K)) "__getattribute__") (some (some (.builtin "BaseException.__getattribute__"))) &&
  (He.eqO (PySem.W.findIn K (.ref (nd K)) "__getattr__") (some none) && (He.eqO (PySem.W.findIn K (.ref (nd K)) "word") (some none) && (He.eqO (PySem.W.findIn K (.ref (nd K)) "__init__") (some (some (.ref (ndI K)))) &&
  (decide (PySem.W.typeIn K (.ref (ndI K)) = some (.type "function")) && (PySem.W.keepIn K (.ref (nd K)) && (decide (PySem.W.subIn K (.ref (nd K)) (.type "BaseException") = some true) && (decide (PySem.W.typeIn K (.ref (nd K)) = some (.type "type")) && PySem.W.hasDictIn K (nd K))))))))))))))
abbrev hk : PySem.W.Hook := He.hookX 6 fa fn ts [] exB

/-! ### what follows -/
theorem emptyTup_ok {K : PySem.W.Frag} {a : Addr} (h : emptyTup K a = true) (H : Hp) : SqT K H a [] := by
  unfold emptyTup at h
  cases q : K.lookup a with
  | none => rw [q] at h; cases h
  | some o =>
    obtain ⟨oc, od, dt, osl⟩ := o
    rw [q] at h
    cases oc with
    | type c =>
      cases dt with
      | seq its n =>
        obtain ⟨h1, h2⟩ := He.ba h
        have e : its = #[] := Array.isEmpty_iff.mp h2
        subst e
        exact .inr ⟨_, #[], n, q, congrArg Value.type (of_decide_eq_true h1), rfl, Nat.zero_le _, .nil⟩
      | _ => cases h
    | _ => cases dt <;> cases h
theorem keys_of : ∀ {l : List DictEntry} {P : Params} {ks : List Str}, l.map He.keyOf = He.keysIn P ks → l.length = ks.length ∧ ∀ (i : Nat) (e : DictEntry) (x : Str), l[i]? = some e → ks[i]? = some x → ∃ t, e.key = .str x t := by
  intro l P ks h
  unfold He.keysIn at h
  refine ⟨by have := congrArg List.length h; simpa using this, fun i e x he hx => ?_⟩
  have q : (l.map He.keyOf)[i]? = (ks.map fun k => some (k, PyData.keyHash P k))[i]? := by rw [h]
  rw [List.getElem?_map, List.getElem?_map, he, hx] at q
  have q2 : He.keyOf e = some (x, PyData.keyHash P x) := Option.some.inj q
  unfold He.keyOf at q2
  split at q2
  · rename_i y t hk
    have q3 := (Prod.mk.inj (Option.some.inj q2)).1
    exact ⟨t, by rw [hk, q3]⟩
  · cases q2
theorem tab_ok {K : PySem.W.Frag} {w : World} {a : Addr} {ks : List Str} (h : He.dicW K a = some (He.keysIn w.params ks)) : ∃ es n, KTab K w a es n ks := by
  obtain ⟨es, n, D⟩ := He.dicW_ok h
  have e : He.dicW K a = some (es.toList.map He.keyOf) := by
    unfold He.dicW
    rw [D.at_]
    have c : (decide (("dict" : String) = "dict") && ((#[] : Array (Option Value)).isEmpty && !(a == sysModules))) = true := by rw [D.low]; rfl
    show (match (decide (("dict" : String) = "dict") && ((#[] : Array (Option Value)).isEmpty && !(a == sysModules))) with | true => some (es.toList.map He.keyOf) | false => none) = _
    rw [c]
  rw [e] at h
  obtain ⟨k1, k2⟩ := keys_of (Option.some.inj h)
  refine ⟨es, n, D, by simpa using k1, fun i hi x hx => ?_⟩
  exact k2 i es[i] x (by simp [hi]) hx

/-- all that the walks lean on -/
structure Tx (w : World) (K : PySem.W.Frag) (mg : Str → Option Value) : Prop where
  facts : ∀ f ∈ fa, f.ok K = true
  defs : ∀ d ∈ fn, ∃ fd, FunD K d.name d.qual d.params d.body d.scope (d.dvs K) (d.kws K) (He.fAd K d.at_) fd
  ns : ∀ {x : Str} {v : Value}, PySem.W.nsIn K mainGlobals x = some (some v) → mg x = some v
  nsN : ∀ {x : Str}, PySem.W.nsIn K mainGlobals x = some none → mg x = none
  tab : ∃ es n, KTab K w (He.ga K "LOOKS") es n lookNames
  ex : exB K = true
theorem tx_of {w : World} {h : Heap} {K : PySem.W.Frag} {mg : Str → Option Value} (X : K.In h) (G : h.Ns mainGlobals mg) (c : He.SaysX fa fn ts [] exB w h K) : Tx w K mg where
  facts := fun f hf => c.t.d.facts hf
  defs := fun d hd => c.t.d.defs hd
  ns := fun e => PySem.W.mg_of X G e
  nsN := fun e => PySem.W.mg_none_of X G e
  tab := by
    have e : ts.map (fun t => He.dicW K (t.1 K)) = ts.map fun t => some (He.keysIn w.params t.2) := congrArg (fun z : He.AlT => z.2) c.t
    have e2 : He.dicW K (He.ga K "LOOKS") = some (He.keysIn w.params lookNames) := by
      have := congrArg (fun l : List (Option (List (Option (Str × Int)))) => l.head?) e
      exact Option.some.inj this
    exact tab_ok e2
  ex := c.more
section
variable {w : World} {K : PySem.W.Frag} {mg : Str → Option Value}
theorem memB {α : Type} [BEq α] [LawfulBEq α] {x : α} {l : List α} (h : l.contains x = true) : x ∈ l := by simpa using h
theorem Tx.glo (T : Tx w K mg) (x : Str) (h : gloL.contains x = true := by decide +kernel) : mg x = some (.ref (He.ga K x)) :=
  T.ns (He.eqO_ok (T.facts (.glo x) (List.mem_append_left _ (List.mem_map_of_mem (memB h)))))
theorem Tx.free (T : Tx w K mg) (x : Str) (h : freeL.contains x = true := by decide +kernel) : mg x = none :=
  T.nsN (He.eqO_ok (T.facts (.free x) (List.mem_append_right _ (List.mem_append_left _ (List.mem_map_of_mem (memB h))))))
theorem Tx.str (T : Tx w K mg) (x z : Str) (h : strL.contains (x, z) = true := by decide +kernel) : ∃ t, mg x = some (.str z t) := by
  have c : (He.Fa.str x z).ok K = true := T.facts (.str x z) (List.mem_append_right _ (List.mem_append_right _ (List.mem_append_left _ (List.mem_map.mpr ⟨(x, z), memB h, rfl⟩))))
  have c2 : (match PySem.W.nsIn K mainGlobals x with | some (some (.str y _)) => decide (y = z) | _ => false) = true := c
  split at c2
  · rename_i y t e
    exact ⟨t, by rw [T.ns e, of_decide_eq_true c2]⟩
  · cases c2
theorem Tx.int (T : Tx w K mg) (x : Str) (i : Int) (h : intL.contains (x, i) = true := by decide +kernel) : ∃ t, mg x = some (.int i t) := by
  have c : (He.Fa.int x i).ok K = true := T.facts (.int x i) (List.mem_append_right _ (List.mem_append_right _ (List.mem_append_right _ (List.mem_append_left _ (List.mem_map.mpr ⟨(x, i), memB h, rfl⟩)))))
  have c2 : (match PySem.W.nsIn K mainGlobals x with | some (some (.int j _)) => decide (j = i) | _ => false) = true := c
  split at c2
  · rename_i y t e
    exact ⟨t, by rw [T.ns e, of_decide_eq_true c2]⟩
  · cases c2
theorem Tx.cls (T : Tx w K mg) (x : Str) (h : clsL.contains x = true := by decide +kernel) : Cls K (He.ga K x) :=
  He.cls_ok (T.facts (.cls x) (List.mem_append_right _ (List.mem_append_right _ (List.mem_append_right _ (List.mem_append_right _ (List.mem_append_left _ (List.mem_map_of_mem (memB h))))))))
theorem Tx.mkr (T : Tx w K mg) (x : Str) (h : clsL.contains x = true := by decide +kernel) : Mk K (He.ga K x) (He.ma K (He.ga K x) "__init__") :=
  He.mkr_ok (T.facts (.mkr x) (List.mem_append_right _ (List.mem_append_right _ (List.mem_append_right _ (List.mem_append_right _ (List.mem_append_right _ (List.mem_append_left _ (List.mem_map_of_mem (memB h)))))))))
theorem Tx.noat (T : Tx w K mg) (x f : Str) (h : noatL.contains (x, f) = true := by decide +kernel) : NoAttr K (He.ga K x) f :=
  He.noat_ok (T.facts (.noat x f) (List.mem_append_right _ (List.mem_append_right _ (List.mem_append_right _ (List.mem_append_right _ (List.mem_append_right _ (List.mem_append_right _ (List.mem_append_left _ (List.mem_map.mpr ⟨(x, f), memB h, rfl⟩)))))))))
theorem Tx.meth (T : Tx w K mg) (m : Str) (h : methL.contains m = true := by decide +kernel) : Meth K (He.ga K "Asker") m (He.ma K (He.ga K "Asker") m) :=
  He.meth_ok (T.facts (.meth "Asker" m) (List.mem_append_right _ (List.mem_append_right _ (List.mem_append_right _ (List.mem_append_right _ (List.mem_append_right _ (List.mem_append_right _ (List.mem_append_right _ (List.mem_append_left _ (List.mem_map.mpr ⟨m, memB h, rfl⟩))))))))))
theorem Tx.def1 (T : Tx w K mg) (i : Nat) {d : He.DefD} (h : fn1[i]? = some d := by rfl) : ∃ fd, FunD K d.name d.qual d.params d.body d.scope (d.dvs K) (d.kws K) (He.fAd K d.at_) fd := T.defs d (List.mem_append_left _ (List.mem_of_getElem? h))
theorem Tx.def2 (T : Tx w K mg) (i : Nat) {d : He.DefD} (h : fn2[i]? = some d := by rfl) : ∃ fd, FunD K d.name d.qual d.params d.body d.scope (d.dvs K) (d.kws K) (He.fAd K d.at_) fd := T.defs d (List.mem_append_right _ (List.mem_append_left _ (List.mem_of_getElem? h)))
theorem Tx.def3 (T : Tx w K mg) (i : Nat) {d : He.DefD} (h : fn3[i]? = some d := by rfl) : ∃ fd, FunD K d.name d.qual d.params d.body d.scope (d.dvs K) (d.kws K) (He.fAd K d.at_) fd := T.defs d (List.mem_append_right _ (List.mem_append_right _ (List.mem_of_getElem? h)))
theorem Tx.kinds (T : Tx w K mg) (H : Hp) : SqT K H (He.ga K "KINDS") (kindNames.map V.str) := by
  have q := He.tupB_ok (He.ba (He.ba T.ex).2).1 H
  rwa [List.map_map] at q
theorem Tx.via (T : Tx w K mg) (H : Hp) : SqT K H (viaA K) [] := emptyTup_ok (He.ba (He.ba (He.ba T.ex).2).2).1 H
theorem Tx.rows (T : Tx w K mg) (H : Hp) : SqT K H (rowsA K) [] := emptyTup_ok (He.ba (He.ba (He.ba (He.ba T.ex).2).2).2).1 H
theorem Tx.look (T : Tx w K mg) (x y : Str) (h : (x, He.Dv.glo y) ∈ lookVals) : ∃ u, PySem.W.nsIn K (He.ga K "LOOKS") x = some (some u) ∧ RelV (.ref (He.ga K y)) u := He.valsB_ok (He.ba T.ex).1 h
theorem Tx.deed (T : Tx w K mg) : DeedTxt K mg (nd K) (ndI K) := by
  obtain ⟨_, h⟩ := He.ba T.ex
  obtain ⟨_, h⟩ := He.ba h
  obtain ⟨_, h⟩ := He.ba h
  obtain ⟨_, h⟩ := He.ba h
  obtain ⟨h1, h⟩ := He.ba h
  obtain ⟨h2, h⟩ := He.ba h
  obtain ⟨h3, h⟩ := He.ba h
  obtain ⟨h4, h⟩ := He.ba h
  obtain ⟨h5, h⟩ := He.ba h
  obtain ⟨h6, h⟩ := He.ba h
  obtain ⟨h7, h⟩ := He.ba h
  obtain ⟨h8, h⟩ := He.ba h
  obtain ⟨h9, h⟩ := He.ba h
  obtain ⟨h10, h11⟩ := He.ba h
  have hx : (He.Fa.exm "NoDeed" "NoDeed" true).ok K = true := T.facts _ (by
    unfold fa
    simp only [List.mem_append, List.mem_singleton]
    exact Or.inr (Or.inr (Or.inr (Or.inr (Or.inr (Or.inr (Or.inr (Or.inr trivial))))))))
  exact ⟨T.glo "NoDeed", h1, He.eqO_ok h2, He.eqO_ok h3, He.eqO_ok h4, He.eqO_ok h5, He.eqO_ok h6, of_decide_eq_true h7, h8, of_decide_eq_true h9, of_decide_eq_true h10, h11, of_decide_eq_true hx, T.def1 14⟩
end
end K39
set_option Elab.async false
set_option linter.all false
set_option maxRecDepth 100000
set_option maxHeartbeats 0
/-! The head: the top run in the kernel, once for each answer of the one row that it asks. -/
namespace K39
open PySem PySem.W PySem.Calls PyProof.Rows
abbrev R : OpenRow := OpenLaw.row PySem.Challenge.rw_leasepair_k39_whole_asker_by_a_plain_one
abbrev qv : Program := view R.prog [55]
def namesA : List PySem.Str := ["_wall", "__name__", "NoLetter", "NoDeed", "LETTERS", "MOST_SIGNS", "MOST_WHOLE", "is_whole", "is_within", "is_moderate", "is_name", "KINDS", "DEFAULTS", "MOST_COUNT", "MOST_NUMBER", "MOST_VIA", "MOST_ROWS", "is_kind", "is_name_or_none", "is_count", "is_pool_number", "is_number_or_none", "is_end", "is_via", "is_books_row", "is_books", "LOOKS", "look_letter", "Letter"]
def namesB : List PySem.Str := ["IDLE", "ASKED", "WANTING", "HOLDING", "Asker", "_law_bag", "_law_take", "_law_names", "_law_letter", "_law_plain", "_law_written", "_law_fields", "_law_idle", "_law_settled", "_law_done", "_law_taken", "_law_tells", "_law_did", "_law_go", "_law_answer", "_law_step", "_law_elder"]
def names : List PySem.Str := namesA ++ namesB
def ob (s : SharedT) : He.AlX := He.obsX 6 fa fn ts [] exB (HandSHeadRun.getT s)
theorem ob_eq (s : SharedT) : ob s = hk.obs s.abs := He.obsX_eq (HandSHeadRun.getT_eq s)
theorem runF (w : World) : HandSHeadRun.RunEq R qv hk ob 4000 names (w.withFollow "special-get-raises" false) := by
  intro os
  kernel_rfl
theorem runT (w : World) : HandSHeadRun.RunEq R qv hk ob 4000 names (w.withFollow "special-get-raises" true) := by
  intro os
  kernel_rfl
theorem run (w : World) : HandSHeadRun.RunEq R qv hk ob 4000 names w := byRow2 "special-get-raises" (P := fun w => HandSHeadRun.RunEq R qv hk ob 4000 names w) runF runT w
end K39
set_option Elab.async false
set_option linter.all false
set_option maxRecDepth 100000
set_option maxHeartbeats 4000000
/-! The looks of leasepair.kinds and leasepair.letters, as far as letters that stand well are looked at. -/
namespace K39
open PySem PySem.Spec PyProof.Rows L2

theorem ok0 {P : Program} {w : World} {K : PySem.W.Frag} {mg : Str → Option Value} {base : Heap} {x qual : Str} {params : Arguments} {body : List Stmt} {scope : Scope} {dvs : List V} {kws : List (Str × V)} {f : Addr} {fd : FuncData} {N ps : List Str} {k : Nat} {sp : Sp}
    (F : FunD K x qual params body scope dvs kws f fd) (S : FnScope N ps scope) (len : ∀ vs H Q E, sp vs H Q E → vs.length = ps.length)
    (hbody : ∀ (cdv : Value) (A : Around) (outer : List Env) (s : Shared) (H : Hp) (vs : List V) (Q : VK) (E : XK), Room k (A.deeper (envOfC qual scope s.heap.objs.size f cdv)) → sp vs H Q E →
      ∃ t, PSs (cxOf CX0 P w K mg base N qual scope f cdv A outer s H E).nox body t ∧ t { nx := fun _ H' => Q .non H', rt := Q } (start N vs) H) : FnOk P w K mg base CX0 (k + 1) f fd ps sp :=
  F.ok S len fun cdv A outer s H vs Q E hr h => let ⟨t, h1, h2⟩ := hbody cdv A outer s H vs Q E hr h; ⟨t, h1.nox, h2⟩
section
variable {w : World} {K : PySem.W.Frag} {mg : Str → Option Value}
theorem Tx.g1 (T : Tx w K mg) (i : Nat) (x : Str) (s : Stmt) (h : fn1[i]? = some (dG x s) := by rfl) : ∃ fd, FunD K x x (defArgs s) (defBody s) (defScope s) [] [] (He.ga K x) fd := T.def1 i (d := dG x s) h
theorem Tx.g3 (T : Tx w K mg) (i : Nat) (x : Str) (s : Stmt) (h : fn3[i]? = some (dG x s) := by rfl) : ∃ fd, FunD K x x (defArgs s) (defBody s) (defScope s) [] [] (He.ga K x) fd := T.def3 i (d := dG x s) h
theorem Tx.a2 (T : Tx w K mg) (i : Nat) (x q : Str) (s : Stmt) (h : fn2[i]? = some (dA x q s) := by rfl) : ∃ fd, FunD K x q (defArgs s) (defBody s) (defScope s) [] [] (He.ma K (He.ga K "Asker") x) fd := T.def2 i (d := dA x q s) h
end
section
variable {X : Cx} {x : Str} {pos : Pos}
theorem pe_gs {z : Str} (hm : ∃ t, X.mg x = some (.str z t)) (hg : Gl X x := by rfl) (hd : (x == ("__debug__" : Str)) = false := by decide) : PE X (.Name x pos) (tC (.str z)) := by
  obtain ⟨t, e⟩ := hm
  exact pe_glob hg e ⟨t, rfl⟩ hd
theorem pe_gi {i : Int} (hm : ∃ t, X.mg x = some (.int i t)) (hg : Gl X x := by rfl) (hd : (x == ("__debug__" : Str)) = false := by decide) : PE X (.Name x pos) (tC (.int i)) := by
  obtain ⟨t, e⟩ := hm
  exact pe_glob hg e ⟨t, rfl⟩ hd
theorem pe_gr {a : Addr} (hm : X.mg x = some (.ref a)) (hg : Gl X x := by rfl) (hd : (x == ("__debug__" : Str)) = false := by decide) : PE X (.Name x pos) (tC (.ref a)) := pe_glob hg hm rfl hd
/-- a built-in class as a value -/
theorem pe_bty {n : String} (hm : X.mg x = none) (hv : bootBuiltins x = some (.type n) := by decide +kernel) (hg : Gl X x := by rfl) (hn : x ≠ "__name__" := by decide) (hd : (x == ("__debug__" : Str)) = false := by decide) : PE X (.Name x pos) (tC (.ty n)) := pe_bltn hg hm hv rfl hn hd
end
/-- isinstance(x, T) -/
abbrev tIsi (K : PySem.W.Frag) (i : Nat) (n : String) : TE := tCB (rIsi K) (tCons (tVar i) (tCons (tC (.ty n)) tNil))

/-! ### names -/
def Nm (z : Str) : Prop := 1 ≤ z.length ∧ z.length ≤ 8 ∧ ∀ c ∈ z.cps.toList, 97 ≤ c ∧ c ≤ 122

/-! ### promises -/
def spWhole : Sp := fun vs H Q _ => ∃ i : Int, vs = [.int i] ∧ Q (.bl true) H
def spWithin : Sp := fun vs H Q _ => ∃ i a b : Int, vs = [.int i, .int a, .int b] ∧ a ≤ i ∧ i ≤ b ∧ Q (.bl true) H
def spCount : Sp := fun vs H Q _ => ∃ i : Int, vs = [.int i] ∧ 0 ≤ i ∧ i ≤ 999999999999 ∧ Q (.bl true) H
def spPoolNumber : Sp := fun vs H Q _ => ∃ i : Int, vs = [.int i] ∧ 0 ≤ i ∧ i ≤ 999999 ∧ Q (.bl true) H
def spNumberOrNone : Sp := fun vs H Q _ => ∃ v : V, vs = [v] ∧ (v = .non ∨ ∃ i : Int, v = .int i ∧ 0 ≤ i ∧ i ≤ 999999) ∧ Q (.bl true) H
def spEnd : Sp := fun vs H Q _ => vs = [.non] ∧ Q (.bl true) H
def spKind : Sp := fun vs H Q _ => ∃ z : Str, vs = [.str z] ∧ inV (.str z) (kindNames.map V.str) = true ∧ Q (.bl true) H
def spName : Sp := fun vs H Q _ => ∃ z : Str, vs = [.str z] ∧ ((Nm z ∧ ∀ H', Same H H' → Q (.bl true) H') ∨ (z = "" ∧ Q (.bl false) H))
def spNameOrNone : Sp := fun vs H Q _ => ∃ z : Str, vs = [.str z] ∧ (Nm z ∨ z = "") ∧ ∀ H', Same H H' → Q (.bl true) H'
def spVia (K : PySem.W.Frag) : Sp := fun vs H Q _ => ∃ a : Addr, vs = [.ref a] ∧ SqT K H a [] ∧ ∀ H', Same H H' → Q (.bl true) H'

section
variable {P : Program} {w : World} {K : PySem.W.Frag} {mg : Str → Option Value} {base : Heap}
theorem sc_whole : FnScope ["thing"] ["thing"] (defScope sIsWhole) := ⟨rfl, rfl, rfl, by decide +kernel, rfl, by decide +kernel, by decide +kernel⟩
theorem d_whole (T : Tx w K mg) : DefAt P w K mg base CX0 1 (He.ga K "is_whole") ["thing"] [] spWhole := by
  obtain ⟨fd, F⟩ := T.g1 0 "is_whole" sIsWhole
  refine ⟨⟨fd, [], ok0 F sc_whole (fun vs H Q E h => ?_) (fun cdv A outer s H vs Q E hr h => ?_), F.bindsN fun _ _ _ _ _ _ us hl => match us, hl with | [_], _ => rfl, .nil⟩, F.kp⟩
  · obtain ⟨i, rfl, _⟩ := h
    rfl
  · obtain ⟨i, rfl, q⟩ := h
    refine ⟨_, pss_one (ps_ret (pe_and (pe_callB call_isi (by rfl) (T.free "isinstance") (by decide +kernel) (pa_cons (pv 0) (pa_cons (pe_bty (n := "int") (T.free "int")) pa_nil)))
      (pe_one (pe_not (pe_callB call_isi (by rfl) (T.free "isinstance") (by decide +kernel) (pa_cons (pv 0) (pa_cons (pe_bty (n := "bool") (T.free "bool")) pa_nil))))))), ?_⟩
    refine ⟨_, rfl, _, _, _, _, true, rfl, .ty _, .base (.int i), kit_ty (by decide +kernel), true, rfl, iteT ?_⟩
    refine ⟨_, rfl, _, _, _, _, false, rfl, .ty _, .base (.int i), kit_ty (by decide +kernel), false, rfl, q⟩
theorem sc_within : FnScope ["thing", "least", "most"] ["thing", "least", "most"] (defScope sIsWithin) := ⟨rfl, rfl, rfl, by decide +kernel, rfl, by decide +kernel, by decide +kernel⟩
theorem d_within (T : Tx w K mg) : DefAt P w K mg base CX0 2 (He.ga K "is_within") ["thing", "least", "most"] [] spWithin := by
  obtain ⟨fd, F⟩ := T.g1 1 "is_within" sIsWithin
  refine ⟨⟨fd, [], ok0 F sc_within (fun vs H Q E h => ?_) (fun cdv A outer s H vs Q E hr h => ?_), F.bindsN fun _ _ _ _ _ _ us hl => match us, hl with | [_, _, _], _ => rfl, .nil⟩, F.kp⟩
  · obtain ⟨i, a, b, rfl, _⟩ := h
    rfl
  · obtain ⟨i, a, b, rfl, h1, h2, q⟩ := h
    refine ⟨_, pss_one (ps_ret (pe_and (pe_callD (d_whole T) hr (by rfl) (T.glo "is_whole") pass0 (pa_cons (pv 0) pa_nil)) (pe_one (pe_chain op_le op_le (pv 1) (pv 0) (pv 2))))), ?_⟩
    refine ⟨_, rfl, i, rfl, true, rfl, iteT ?_⟩
    refine ⟨_, rfl, _, rfl, _, _, rfl, rfl, _, rfl, ?_⟩
    rw [decide_eq_true h1]
    refine iteT ⟨_, rfl, _, _, rfl, rfl, ?_⟩
    show Q (.bl (decide (i ≤ b))) H
    rw [decide_eq_true h2]
    exact q
theorem sc_count : FnScope ["thing"] ["thing"] (defScope sIsCount) := ⟨rfl, rfl, rfl, by decide +kernel, rfl, by decide +kernel, by decide +kernel⟩
theorem d_count (T : Tx w K mg) : DefAt P w K mg base CX0 3 (He.ga K "is_count") ["thing"] [] spCount := by
  obtain ⟨fd, F⟩ := T.g1 6 "is_count" sIsCount
  refine ⟨⟨fd, [], ok0 F sc_count (fun vs H Q E h => ?_) (fun cdv A outer s H vs Q E hr h => ?_), F.bindsN fun _ _ _ _ _ _ us hl => match us, hl with | [_], _ => rfl, .nil⟩, F.kp⟩
  · obtain ⟨i, rfl, _⟩ := h
    rfl
  · obtain ⟨i, rfl, h1, h2, q⟩ := h
    refine ⟨_, pss_one (ps_ret (pe_callD (d_within T) hr (by rfl) (T.glo "is_within") pass0 (pa_cons (pv 0) (pa_cons pe_int (pa_cons (pe_gi (T.int "MOST_COUNT" 999999999999)) pa_nil))))), ?_⟩
    exact ⟨_, rfl, i, 0, 999999999999, rfl, h1, h2, q⟩
theorem sc_pool : FnScope ["thing"] ["thing"] (defScope sIsPoolNumber) := ⟨rfl, rfl, rfl, by decide +kernel, rfl, by decide +kernel, by decide +kernel⟩
theorem d_pool (T : Tx w K mg) : DefAt P w K mg base CX0 3 (He.ga K "is_pool_number") ["thing"] [] spPoolNumber := by
  obtain ⟨fd, F⟩ := T.g1 7 "is_pool_number" sIsPoolNumber
  refine ⟨⟨fd, [], ok0 F sc_pool (fun vs H Q E h => ?_) (fun cdv A outer s H vs Q E hr h => ?_), F.bindsN fun _ _ _ _ _ _ us hl => match us, hl with | [_], _ => rfl, .nil⟩, F.kp⟩
  · obtain ⟨i, rfl, _⟩ := h
    rfl
  · obtain ⟨i, rfl, h1, h2, q⟩ := h
    refine ⟨_, pss_one (ps_ret (pe_callD (d_within T) hr (by rfl) (T.glo "is_within") pass0 (pa_cons (pv 0) (pa_cons pe_int (pa_cons (pe_gi (T.int "MOST_NUMBER" 999999)) pa_nil))))), ?_⟩
    exact ⟨_, rfl, i, 0, 999999, rfl, h1, h2, q⟩
theorem sc_number : FnScope ["thing"] ["thing"] (defScope sIsNumberOrNone) := ⟨rfl, rfl, rfl, by decide +kernel, rfl, by decide +kernel, by decide +kernel⟩
theorem d_number (T : Tx w K mg) : DefAt P w K mg base CX0 4 (He.ga K "is_number_or_none") ["thing"] [] spNumberOrNone := by
  obtain ⟨fd, F⟩ := T.g1 8 "is_number_or_none" sIsNumberOrNone
  refine ⟨⟨fd, [], ok0 F sc_number (fun vs H Q E h => ?_) (fun cdv A outer s H vs Q E hr h => ?_), F.bindsN fun _ _ _ _ _ _ us hl => match us, hl with | [_], _ => rfl, .nil⟩, F.kp⟩
  · obtain ⟨i, rfl, _⟩ := h
    rfl
  · obtain ⟨v, rfl, hv, q⟩ := h
    refine ⟨_, pss_one (ps_ret (pe_or (pe_cmp (pc_isN (pv 0))) (pe_one (pe_callD (d_pool T) hr (by rfl) (T.glo "is_pool_number") pass0 (pa_cons (pv 0) pa_nil))))), ?_⟩
    rcases hv with rfl | ⟨i, rfl, h1, h2⟩
    · exact ⟨_, rfl, true, rfl, iteT q⟩
    · exact ⟨_, rfl, false, rfl, iteF ⟨_, rfl, i, rfl, h1, h2, q⟩⟩
theorem sc_end : FnScope ["thing"] ["thing"] (defScope sIsEnd) := ⟨rfl, rfl, rfl, by decide +kernel, rfl, by decide +kernel, by decide +kernel⟩
theorem d_end (T : Tx w K mg) : DefAt P w K mg base CX0 1 (He.ga K "is_end") ["thing"] [] spEnd := by
  obtain ⟨fd, F⟩ := T.g1 9 "is_end" sIsEnd
  refine ⟨⟨fd, [], ok0 F sc_end (fun vs H Q E h => ?_) (fun cdv A outer s H vs Q E hr h => ?_), F.bindsN fun _ _ _ _ _ _ us hl => match us, hl with | [_], _ => rfl, .nil⟩, F.kp⟩
  · obtain ⟨rfl, _⟩ := h
    rfl
  · obtain ⟨rfl, q⟩ := h
    refine ⟨_, pss_one (ps_ret (pe_or (pe_cmp (pc_isN (pv 0))) (pe_one pe_no))), ?_⟩
    exact ⟨_, rfl, true, rfl, iteT q⟩
theorem sc_kind : FnScope ["thing"] ["thing"] (defScope sIsKind) := ⟨rfl, rfl, rfl, by decide +kernel, rfl, by decide +kernel, by decide +kernel⟩
theorem d_kind (T : Tx w K mg) : DefAt P w K mg base CX0 1 (He.ga K "is_kind") ["thing"] [] spKind := by
  obtain ⟨fd, F⟩ := T.g1 4 "is_kind" sIsKind
  refine ⟨⟨fd, [], ok0 F sc_kind (fun vs H Q E h => ?_) (fun cdv A outer s H vs Q E hr h => ?_), F.bindsN fun _ _ _ _ _ _ us hl => match us, hl with | [_], _ => rfl, .nil⟩, F.kp⟩
  · obtain ⟨i, rfl, _⟩ := h
    rfl
  · obtain ⟨z, rfl, hz, q⟩ := h
    refine ⟨_, pss_one (ps_ret (pe_and (pe_callB call_isi (by rfl) (T.free "isinstance") (by decide +kernel) (pa_cons (pv 0) (pa_cons (pe_bty (n := "str") (T.free "str")) pa_nil)))
      (pe_one (pe_cmpR op_in_seq (pv 0) (pe_gr (T.glo "KINDS")) (by rfl))))), ?_⟩
    refine ⟨_, rfl, _, _, _, _, true, rfl, .ty _, .base (.str z), kit_ty (by decide +kernel), true, rfl, iteT ?_⟩
    refine ⟨_, rfl, _, _, rfl, .inr (T.kinds H), rfl, by decide +kernel, ?_⟩
    show Q (.bl (inV (.str z) (kindNames.map V.str))) H
    rw [hz]
    exact q
/-! ### names, sign by sign -/
theorem sign_in {c : Nat} (h : 97 ≤ c ∧ c ≤ 122) : decide (c ∈ ("abcdefghijklmnopqrstuvwxyz" : Str).cps.toList) = true := by
  have e : ("abcdefghijklmnopqrstuvwxyz" : Str).cps.toList = (List.range 26).map (· + 97) := by decide +kernel
  refine decide_eq_true ?_
  rw [e]
  exact List.mem_map.mpr ⟨c - 97, List.mem_range.mpr (by omega), by omega⟩
theorem sc_name : FnScope ["thing", "sign"] ["thing"] (defScope sIsName) := ⟨rfl, rfl, rfl, by decide +kernel, rfl, by decide +kernel, by decide +kernel⟩
theorem d_name (T : Tx w K mg) : DefAt P w K mg base CX0 1 (He.ga K "is_name") ["thing"] [] spName := by
  obtain ⟨fd, F⟩ := T.g1 3 "is_name" sIsName
  refine ⟨⟨fd, [], ok0 F sc_name (fun vs H Q E h => ?_) (fun cdv A outer s H vs Q E hr h => ?_), F.bindsN fun _ _ _ _ _ _ us hl => match us, hl with | [_], _ => rfl, .nil⟩, F.kp⟩
  · obtain ⟨i, rfl, _⟩ := h
    rfl
  · obtain ⟨z, rfl, hz⟩ := h
    refine ⟨_, pss_one (ps_ret (pe_and (pe_callB call_isi (by rfl) (T.free "isinstance") (by decide +kernel) (pa_cons (pv 0) (pa_cons (pe_bty (n := "str") (T.free "str")) pa_nil)))
      (pe_and (pe_chain op_le op_le pe_int (pe_callB call_len_str (by rfl) (T.free "len") PySem.boot_len (pa_cons (pv 0) pa_nil)) (pe_gi (T.int "MOST_SIGNS" 8)))
      (pe_one (pe_callB (cr_all rfl) (by rfl) (T.free "all") (by decide +kernel) (pa_cons
        (pe_lc (own := [("sign", 1)]) (g := gName 1) (tt := tYes) (by rfl) sc_name.nd (pi_str (pv 0)) (blkOk_by (own := [("sign", 1)]) (N := ["thing", "sign"]) (sc := defScope sIsName) (by decide +kernel))
          (fun _ _ _ _ _ => pg_name (i := 1) sc_name.nd rfl (Or.inl rfl)) (fun _ _ _ _ _ => pts_nil) (fun _ _ _ _ _ => pe_cmpR op_in_sign (pv 1) (pe_gs (T.str "LETTERS" "abcdefghijklmnopqrstuvwxyz")) rfl)) pa_nil)))))), ?_⟩
    refine ⟨_, rfl, _, _, _, _, true, rfl, .ty _, .base (.str z), kit_ty (by decide +kernel), true, rfl, iteT ?_⟩
    rcases hz with ⟨⟨n1, n2, n3⟩, q⟩ | ⟨rfl, q⟩
    · have hsz : z.length ≤ sizeLine := Nat.le_trans n2 (by decide)
      refine ⟨_, rfl, _, rfl, hsz, _, _, rfl, rfl, _, rfl, ?_⟩
      have e1 : decide ((1 : Int) ≤ ((z.length : Nat) : Int)) = true := decide_eq_true (by omega)
      have e2 : decide (((z.length : Nat) : Int) ≤ 8) = true := decide_eq_true (by omega)
      rw [e1]
      refine iteT ⟨_, _, rfl, rfl, true, congrArg V.bl e2, iteT ?_⟩
      refine ⟨_, rfl, _, rfl, fun D hD => ?_⟩
      refine lc_it (walk_str (z := z)) (fun i H' => ∃ bs : List Bool, H' D = some (.lst (bs.map V.bl)) ∧ bs.length = i ∧ bs.all id = true ∧ Same H H' ∧ i ≤ z.length) ⟨[], upd_same, rfl, rfl, (Same.refl H).new hD, Nat.zero_le _⟩ (fun _ _ _ _ => trivial) ?_ ?_
      · rintro i x H1 H2 hi ⟨bs, b1, b2, b3, b4, b5⟩ ⟨rfl, c, hc, rfl⟩
        refine ⟨rfl, ?_⟩
        refine ⟨_, rfl, c, _, rfl, rfl, ?_⟩
        have hm : c ∈ z.cps.toList := by
          have := Array.getElem?_eq_some_iff.mp hc
          exact Array.mem_toList_iff.mpr (Array.mem_of_getElem? hc)
        rw [sign_in (n3 c hm)]
        have hl : z.cps.size = z.length := rfl
        refine ⟨bs.map V.bl, b1, by rw [List.length_map, b2]; exact Nat.lt_of_lt_of_le hi hsz, bs ++ [true], ?_, by simp [b2], by simp [b3], ?_, by omega⟩
        · rw [List.map_append]
          exact upd_same
        · exact b4.own hD
      · rintro H1 ⟨bs, b1, b2, b3, b4, b5⟩
        refine ⟨D, bs, rfl, SqL.of b1, ?_⟩
        rw [b3]
        exact q H1 b4
    · refine ⟨_, rfl, _, rfl, by decide, _, _, rfl, rfl, _, rfl, ?_⟩
      exact iteF ⟨false, rfl, iteF q⟩
end
end K39
set_option Elab.async false
set_option linter.all false
set_option maxRecDepth 100000
set_option maxHeartbeats 4000000
/-! look_letter and Letter(..) of a letter that stands well. -/
namespace K39
open PySem PySem.Spec PyProof.Rows L2

theorem ty_tup {K : PySem.W.Frag} {H : Hp} {a : Addr} {xs : List V} (h : SqT K H a xs) : TyX K H (.ref a) (.type "tuple") := by
  rcases h with (h | ⟨o, h⟩) | ⟨o, its, n, h, hc, _⟩
  · exact .base (.tup h)
  · exact .fTuple h
  · exact .kTuple h hc
theorem putF_lt {f : Str} {y : V} {fs : List (Str × V)} {n : Nat} (h : fs.length < n) : (putF f y fs).length < n + 1 := by
  have := length_putF f y fs
  omega

/-! ### letters, as data -/
def oV : Option Int → V
  | none => .non
  | some i => .int i
structure Let where
  kind : Str
  sender : Str
  receiver : Str
  mark : Int := 0
  number : Option Int := none
  span : Int := 0
  turn : Int := 0
  who : Str := ""
  link : Str := ""
def Let.vals (l : Let) (va ra : Addr) : List V := [.str l.kind, .str l.sender, .str l.receiver, .int l.mark, oV l.number, .int l.span, .int l.turn, .int 0, .non, .str l.who, .str l.link, .ref va, .ref ra]
def Let.flds (l : Let) (va ra : Addr) : List (Str × V) := lookNames.zip (l.vals va ra)
structure LetOk (l : Let) : Prop where
  kind : inV (.str l.kind) (kindNames.map V.str) = true
  sender : Nm l.sender
  receiver : Nm l.receiver ∨ l.receiver = ""
  mark : 0 ≤ l.mark ∧ l.mark ≤ 999999999999
  number : oV l.number = .non ∨ ∃ i : Int, oV l.number = .int i ∧ 0 ≤ i ∧ i ≤ 999999
  span : 0 ≤ l.span ∧ l.span ≤ 999999999999
  turn : 0 ≤ l.turn ∧ l.turn ≤ 999999999999
  who : Nm l.who ∨ l.who = ""
  link : Nm l.link ∨ l.link = ""
/-- a letter's object -/
def LetAt (K : PySem.W.Frag) (H : Hp) (x : Addr) (l : Let) : Prop := ∃ dx va ra, H x = some (.ins (He.ga K "Letter") dx (l.flds va ra)) ∧ SqT K H va [] ∧ SqT K H ra []

section
variable {P : Program} {w : World} {K : PySem.W.Frag} {mg : Str → Option Value} {base : Heap}
theorem sc_nameN : FnScope ["thing"] ["thing"] (defScope sIsNameOrNone) := ⟨rfl, rfl, rfl, by decide +kernel, rfl, by decide +kernel, by decide +kernel⟩
theorem d_nameN (T : Tx w K mg) : DefAt P w K mg base CX0 2 (He.ga K "is_name_or_none") ["thing"] [] spNameOrNone := by
  obtain ⟨fd, F⟩ := T.g1 5 "is_name_or_none" sIsNameOrNone
  refine ⟨⟨fd, [], ok0 F sc_nameN (fun vs H Q E h => ?_) (fun cdv A outer s H vs Q E hr h => ?_), F.bindsN fun _ _ _ _ _ _ us hl => match us, hl with | [_], _ => rfl, .nil⟩, F.kp⟩
  · obtain ⟨i, rfl, _⟩ := h
    rfl
  · obtain ⟨z, rfl, hz, q⟩ := h
    refine ⟨_, pss_one (ps_ret (pe_or (pe_callD (d_name T) hr (by rfl) (T.glo "is_name") pass0 (pa_cons (pv 0) pa_nil)) (pe_one (pe_cmpR op_eq (pv 0) pe_str (nomark _))))), ?_⟩
    rcases hz with hz | rfl
    · exact ⟨_, rfl, z, rfl, .inl ⟨hz, fun H' s => ⟨true, rfl, iteT (q H' s)⟩⟩⟩
    · exact ⟨_, rfl, _, rfl, .inr ⟨rfl, false, rfl, iteF ⟨_, rfl, rfl, q H (Same.refl H)⟩⟩⟩
theorem sc_via : FnScope ["thing", "name"] ["thing"] (defScope sIsVia) := ⟨rfl, rfl, rfl, by decide +kernel, rfl, by decide +kernel, by decide +kernel⟩
theorem d_via (T : Tx w K mg) : DefAt P w K mg base CX0 1 (He.ga K "is_via") ["thing"] [] (spVia K) := by
  obtain ⟨fd, F⟩ := T.g1 10 "is_via" sIsVia
  refine ⟨⟨fd, [], ok0 F sc_via (fun vs H Q E h => ?_) (fun cdv A outer s H vs Q E hr h => ?_), F.bindsN fun _ _ _ _ _ _ us hl => match us, hl with | [_], _ => rfl, .nil⟩, F.kp⟩
  · obtain ⟨i, rfl, _⟩ := h
    rfl
  · obtain ⟨a, rfl, ha, q⟩ := h
    refine ⟨_, pss_one (ps_ret (pe_and (pe_callB call_isi (by rfl) (T.free "isinstance") (by decide +kernel) (pa_cons (pv 0) (pa_cons (pe_bty (n := "tuple") (T.free "tuple")) pa_nil)))
      (pe_and (pe_cmpR op_le (pe_callB call_len_seq (by rfl) (T.free "len") PySem.boot_len (pa_cons (pv 0) pa_nil)) (pe_gi (T.int "MOST_VIA" 4)) (nomark _))
      (pe_one (pe_callB (cr_all rfl) (by rfl) (T.free "all") (by decide +kernel) (pa_cons
        (pe_lc (own := [("name", 1)]) (g := gName 1) (tt := tYes) (te := tNo) (by rfl) sc_via.nd (pi_tup (pv 0)) (blkOk_by (own := [("name", 1)]) (N := ["thing", "name"]) (sc := defScope sIsVia) (by decide +kernel))
          (fun _ _ _ _ _ => pg_name (i := 1) sc_via.nd rfl (Or.inl rfl)) (fun _ _ _ _ _ => pts_nil) (fun _ _ _ _ _ => pe_no)) pa_nil)))))), ?_⟩
    refine ⟨_, rfl, _, _, _, _, true, rfl, .ty _, ty_tup ha, kit_ty (by decide +kernel), true, rfl, iteT ?_⟩
    refine ⟨_, rfl, a, _, rfl, .inr ha, _, _, rfl, rfl, true, rfl, iteT ?_⟩
    refine ⟨_, rfl, a, rfl, ⟨_, ha⟩, fun D hD => ?_⟩
    refine lc_tup (K := K) (a := a) (xs := []) (fun i H' => H' D = some (.lst []) ∧ Same H H') ⟨upd_same, (Same.refl H).new hD⟩ (fun i H1 _ h1 => h1.2.tup ha) (fun i x H1 hx => by simp at hx) ?_
    rintro H1 ⟨h1, h2⟩
    exact ⟨D, [], rfl, SqL.of h1, q H1 h2⟩
theorem sc_books : FnScope ["thing", "row"] ["thing"] (defScope sIsBooks) := ⟨rfl, rfl, rfl, by decide +kernel, rfl, by decide +kernel, by decide +kernel⟩
theorem d_books (T : Tx w K mg) : DefAt P w K mg base CX0 1 (He.ga K "is_books") ["thing"] [] (spVia K) := by
  obtain ⟨fd, F⟩ := T.g1 11 "is_books" sIsBooks
  refine ⟨⟨fd, [], ok0 F sc_books (fun vs H Q E h => ?_) (fun cdv A outer s H vs Q E hr h => ?_), F.bindsN fun _ _ _ _ _ _ us hl => match us, hl with | [_], _ => rfl, .nil⟩, F.kp⟩
  · obtain ⟨i, rfl, _⟩ := h
    rfl
  · obtain ⟨a, rfl, ha, q⟩ := h
    refine ⟨_, pss_one (ps_ret (pe_and (pe_callB call_isi (by rfl) (T.free "isinstance") (by decide +kernel) (pa_cons (pv 0) (pa_cons (pe_bty (n := "tuple") (T.free "tuple")) pa_nil)))
      (pe_and (pe_cmpR op_le (pe_callB call_len_seq (by rfl) (T.free "len") PySem.boot_len (pa_cons (pv 0) pa_nil)) (pe_gi (T.int "MOST_ROWS" 60)) (nomark _))
      (pe_one (pe_callB (cr_all rfl) (by rfl) (T.free "all") (by decide +kernel) (pa_cons
        (pe_lc (own := [("row", 1)]) (g := gName 1) (tt := tYes) (te := tNo) (by rfl) sc_books.nd (pi_tup (pv 0)) (blkOk_by (own := [("row", 1)]) (N := ["thing", "row"]) (sc := defScope sIsBooks) (by decide +kernel))
          (fun _ _ _ _ _ => pg_name (i := 1) sc_books.nd rfl (Or.inl rfl)) (fun _ _ _ _ _ => pts_nil) (fun _ _ _ _ _ => pe_no)) pa_nil)))))), ?_⟩
    refine ⟨_, rfl, _, _, _, _, true, rfl, .ty _, ty_tup ha, kit_ty (by decide +kernel), true, rfl, iteT ?_⟩
    refine ⟨_, rfl, a, _, rfl, .inr ha, _, _, rfl, rfl, true, rfl, iteT ?_⟩
    refine ⟨_, rfl, a, rfl, ⟨_, ha⟩, fun D hD => ?_⟩
    refine lc_tup (K := K) (a := a) (xs := []) (fun i H' => H' D = some (.lst []) ∧ Same H H') ⟨upd_same, (Same.refl H).new hD⟩ (fun i H1 _ h1 => h1.2.tup ha) (fun i x H1 hx => by simp at hx) ?_
    rintro H1 ⟨h1, h2⟩
    exact ⟨D, [], rfl, SqL.of h1, q H1 h2⟩
end

/-! ### a look held by a name -/
def tCallH (P : Program) (w : World) (K : PySem.W.Frag) (mg : Str → Option Value) (base : Heap) (k i : Nat) (t : TA) : TE := fun σ H Q => ∃ f sp, σ[i]? = some (some (.ref f)) ∧ Held P w K mg base k f sp ∧ t σ H fun vs H1 => sp vs H1 Q (fun _ _ _ => False)
theorem pe_callH {X : Cx} {k i : Nat} {x : Str} {p pos : Pos} {e : Expr} {es : List Expr} {t : TA} (hr : Room k X.A) (hN : X.N[i]? = some x) (hv : Vis X.env.scope x) (ha : PA X (e :: es) t)
    (hdb : (x == ("__debug__" : Str)) = false := by decide) (hcd : (x == ("__classdict__" : Str)) = false := by decide)
    (he : starEach (e :: es) X.env = (false, eval e X.env) :: starEach es X.env := by rfl) (hpl : (backTo pos (starEach es X.env)).any (·.1) = false := by rfl) : PE X (.Call (.Name x p) (e :: es) [] pos) (tCallH X.prog X.w X.K X.mg X.base k i t) := by
  refine ⟨fun pins s σ H Q I h => ?_⟩
  obtain ⟨f, sp, hs, A, ht⟩ := h
  obtain ⟨fd, ps, F, hk, hb⟩ := A.ex
  refine (pe_callL (i := i) (f := f) (sp := sp) (dvs := []) (E := fun _ _ _ => False) F hr hN hv hk hb .nil (fun _ _ _ _ _ _ _ z => z.elim) ha hdb hcd he hpl).run pins s σ H Q I ⟨hs, ?_⟩
  have e0 : (fun (vs : List V) (H1 : Hp) => sp (vs ++ []) H1 Q (fun _ _ _ => False)) = fun vs H1 => sp vs H1 Q (fun _ _ _ => False) := by
    funext vs H1
    rw [List.append_nil]
  show t σ H (fun vs H1 => sp (vs ++ []) H1 Q (fun _ _ _ => False))
  rw [e0]
  exact ht
section
variable {P : Program} {w : World} {K : PySem.W.Frag} {mg : Str → Option Value} {base : Heap}
theorem DefAt.held {k j : Nat} {f : Addr} {ps : List Str} {sp : Sp} (D : DefAt P w K mg base CX0 k f ps [] sp) (h : k ≤ j) : Held P w K mg base j f sp := by
  obtain ⟨fd, ds, F, b, v⟩ := D.ex
  cases v
  exact ⟨fd, ps, F.mono h, D.kp, b⟩
/-- the look of the field x finds y as it ought to be, in any heap that keeps H -/
def LookOk (P : Program) (w : World) (K : PySem.W.Frag) (mg : Str → Option Value) (base : Heap) (H : Hp) (x : Str) (y : V) : Prop :=
  ∃ u f sp, PySem.W.nsIn K (He.ga K "LOOKS") x = some (some u) ∧ RelV (.ref f) u ∧ Held P w K mg base 4 f sp ∧ ∀ H1 Q, Same H H1 → (∀ H2, Same H1 H2 → Q (.bl true) H2) → sp [y] H1 Q fun _ _ _ => False
theorem look_of (T : Tx w K mg) {k : Nat} {x y : Str} {ps : List Str} {sp : Sp} {v : V} {H : Hp} (D : DefAt P w K mg base CX0 k (He.ga K y) ps [] sp) (hk : k ≤ 4) (hm : (x, He.Dv.glo y) ∈ lookVals)
    (h : ∀ H1 Q, Same H H1 → (∀ H2, Same H1 H2 → Q (.bl true) H2) → sp [v] H1 Q fun _ _ _ => False) : LookOk P w K mg base H x v := by
  obtain ⟨u, e, r⟩ := T.look x y hm
  exact ⟨u, _, sp, e, r, D.held hk, h⟩
theorem looks_ok (T : Tx w K mg) {l : Let} (L : LetOk l) {va ra : Addr} {H : Hp} (hv : SqT K H va []) (hr : SqT K H ra []) :
    ∀ (i : Nat) (x : Str) (y : V), lookNames[i]? = some x → (l.vals va ra)[i]? = some y → LookOk P w K mg base H x y := by
  intro i x y hx hy
  match i, hx, hy with
  | 0, hx, hy =>
    obtain rfl : ("kind" : Str) = x := Option.some.inj hx
    obtain rfl := Option.some.inj hy
    exact look_of T (d_kind T) (by decide) (y := "is_kind") (.head _) fun H1 Q s q => by exact ⟨_, rfl, L.kind, q _ (Same.refl _)⟩
  | 1, hx, hy =>
    obtain rfl : ("sender" : Str) = x := Option.some.inj hx
    obtain rfl := Option.some.inj hy
    exact look_of T (d_name T) (by decide) (y := "is_name") (.tail _ (.head _)) fun H1 Q s q => by exact ⟨_, rfl, .inl ⟨L.sender, q⟩⟩
  | 2, hx, hy =>
    obtain rfl : ("receiver" : Str) = x := Option.some.inj hx
    obtain rfl := Option.some.inj hy
    exact look_of T (d_nameN T) (by decide) (y := "is_name_or_none") (.tail _ (.tail _ (.head _))) fun H1 Q s q => by exact ⟨_, rfl, L.receiver, q⟩
  | 3, hx, hy =>
    obtain rfl : ("mark" : Str) = x := Option.some.inj hx
    obtain rfl := Option.some.inj hy
    exact look_of T (d_count T) (by decide) (y := "is_count") (.tail _ (.tail _ (.tail _ (.head _)))) fun H1 Q s q => by exact ⟨_, rfl, L.mark.1, L.mark.2, q _ (Same.refl _)⟩
  | 4, hx, hy =>
    obtain rfl : ("number" : Str) = x := Option.some.inj hx
    obtain rfl := Option.some.inj hy
    exact look_of T (d_number T) (by decide) (y := "is_number_or_none") (.tail _ (.tail _ (.tail _ (.tail _ (.head _))))) fun H1 Q s q => by exact ⟨_, rfl, L.number, q _ (Same.refl _)⟩
  | 5, hx, hy =>
    obtain rfl : ("span" : Str) = x := Option.some.inj hx
    obtain rfl := Option.some.inj hy
    exact look_of T (d_count T) (by decide) (y := "is_count") (.tail _ (.tail _ (.tail _ (.tail _ (.tail _ (.head _)))))) fun H1 Q s q => by exact ⟨_, rfl, L.span.1, L.span.2, q _ (Same.refl _)⟩
  | 6, hx, hy =>
    obtain rfl : ("turn" : Str) = x := Option.some.inj hx
    obtain rfl := Option.some.inj hy
    exact look_of T (d_count T) (by decide) (y := "is_count") (.tail _ (.tail _ (.tail _ (.tail _ (.tail _ (.tail _ (.head _))))))) fun H1 Q s q => by exact ⟨_, rfl, L.turn.1, L.turn.2, q _ (Same.refl _)⟩
  | 7, hx, hy =>
    obtain rfl : ("count" : Str) = x := Option.some.inj hx
    obtain rfl := Option.some.inj hy
    exact look_of T (d_count T) (by decide) (y := "is_count") (.tail _ (.tail _ (.tail _ (.tail _ (.tail _ (.tail _ (.tail _ (.head _)))))))) fun H1 Q s q => by exact ⟨_, rfl, by decide, by decide, q _ (Same.refl _)⟩
  | 8, hx, hy =>
    obtain rfl : ("end" : Str) = x := Option.some.inj hx
    obtain rfl := Option.some.inj hy
    exact look_of T (d_end T) (by decide) (y := "is_end") (.tail _ (.tail _ (.tail _ (.tail _ (.tail _ (.tail _ (.tail _ (.tail _ (.head _))))))))) fun H1 Q s q => by exact ⟨rfl, q _ (Same.refl _)⟩
  | 9, hx, hy =>
    obtain rfl : ("who" : Str) = x := Option.some.inj hx
    obtain rfl := Option.some.inj hy
    exact look_of T (d_nameN T) (by decide) (y := "is_name_or_none") (.tail _ (.tail _ (.tail _ (.tail _ (.tail _ (.tail _ (.tail _ (.tail _ (.tail _ (.head _)))))))))) fun H1 Q s q => by exact ⟨_, rfl, L.who, q⟩
  | 10, hx, hy =>
    obtain rfl : ("link" : Str) = x := Option.some.inj hx
    obtain rfl := Option.some.inj hy
    exact look_of T (d_nameN T) (by decide) (y := "is_name_or_none") (.tail _ (.tail _ (.tail _ (.tail _ (.tail _ (.tail _ (.tail _ (.tail _ (.tail _ (.tail _ (.head _))))))))))) fun H1 Q s q => by exact ⟨_, rfl, L.link, q⟩
  | 11, hx, hy =>
    obtain rfl : ("via" : Str) = x := Option.some.inj hx
    obtain rfl := Option.some.inj hy
    exact look_of T (d_via T) (by decide) (y := "is_via") (.tail _ (.tail _ (.tail _ (.tail _ (.tail _ (.tail _ (.tail _ (.tail _ (.tail _ (.tail _ (.tail _ (.head _)))))))))))) fun H1 Q s q => by exact ⟨_, rfl, s.tup hv, q⟩
  | 12, hx, hy =>
    obtain rfl : ("rows" : Str) = x := Option.some.inj hx
    obtain rfl := Option.some.inj hy
    exact look_of T (d_books T) (by decide) (y := "is_books") (.tail _ (.tail _ (.tail _ (.tail _ (.tail _ (.tail _ (.tail _ (.tail _ (.tail _ (.tail _ (.tail _ (.tail _ (.head _))))))))))))) fun H1 Q s q => by exact ⟨_, rfl, s.tup hr, q⟩
  | i + 13, hx, hy => exact absurd hy (by simp [Let.vals])

def spLook (K : PySem.W.Frag) : Sp := fun vs H Q _ => ∃ (b va ra : Addr) (l : Let), vs = [.ref b] ∧ LetOk l ∧ SqT K H va [] ∧ SqT K H ra [] ∧ SqT K H b (l.vals va ra) ∧ ∀ H', Same H H' → Q .non H'
theorem sc_look : FnScope ["parts", "name", "part", "look"] ["parts"] (defScope sLook) := ⟨rfl, rfl, rfl, by decide +kernel, rfl, by decide +kernel, by decide +kernel⟩
theorem d_look (T : Tx w K mg) : DefAt P w K mg base CX0 5 (He.ga K "look_letter") ["parts"] [] (spLook K) := by
  obtain ⟨fd, F⟩ := T.g1 12 "look_letter" sLook
  obtain ⟨es, n, TB⟩ := T.tab
  refine ⟨⟨fd, [], ok0 F sc_look (fun vs H Q E h => ?_) (fun cdv A outer s H vs Q E hr h => ?_), F.bindsN fun _ _ _ _ _ _ us hl => match us, hl with | [_], _ => rfl, .nil⟩, F.kp⟩
  · obtain ⟨b, va, ra, l, rfl, _⟩ := h
    rfl
  · obtain ⟨b, va, ra, l, rfl, L, hva, hra, hb, q⟩ := h
    refine ⟨_, pss_one (ps_for PassesOwn.never rfl (pi_zipS TB (by rfl) (T.free "zip") (pa_cons (pe_gr (T.glo "LOOKS")) (pa_cons (pv 0) pa_nil)))
      (pg_tup rfl (pgs_cons (pg_name (i := 1) sc_look.nd rfl (.inl rfl)) (pgs_cons (pg_name (i := 2) sc_look.nd rfl (.inl rfl)) pgs_nil)))
      (pss_cons (ps_set (i := 3) sc_look.nd rfl (.inl rfl) (pe_ix (ix_kd TB.D) (pe_gr (T.glo "LOOKS")) (pv 1) (fun _ _ => rfl)))
        (pss_one (ps_if (pt_not (pt_val (pe_callH (i := 3) hr rfl (.inl rfl) (pa_cons (pv 2) pa_nil)))) pss_never pss_nil)))), ?_⟩
    refine ⟨_, rfl, b, l.vals va ra, rfl, hb, rfl, ?_⟩
    refine for_zipS (ys := l.vals va ra) rfl (fun i σ H' => ∃ n1 n2 n3, σ = [some (.ref b), n1, n2, n3] ∧ Same H H') ⟨none, none, none, rfl, Same.refl H⟩ (fun i σ H' ⟨_, _, _, _, s⟩ => s.tup hb) ?_ ?_
    · rintro i x y Tp σ H1 hx hy ⟨n1, n2, n3, rfl, s1⟩ hT
      obtain ⟨u, f, sp, e1, r1, HD, hsp⟩ := looks_ok (P := P) (base := base) T L hva hra i x y hx hy
      refine ⟨Tp, _, rfl, SqT.of upd_same, rfl, _, _, rfl, _, _, rfl, rfl, ?_⟩
      refine ⟨_, rfl, x, u, .ref f, rfl, rfl, e1, r1, ?_⟩
      refine ⟨f, sp, rfl, HD, _, rfl, ?_⟩
      refine hsp _ _ (s1.new hT) fun H2 s2 => ⟨true, rfl, iteF ?_⟩
      exact ⟨_, _, _, rfl, (s1.new hT).trans s2⟩
    · rintro σ H1 ⟨_, _, _, _, s1⟩
      exact q H1 s1

theorem sc_letterInit : FnScope ["self", "kind", "sender", "receiver", "mark", "number", "span", "turn", "count", "end", "who", "link", "via", "rows"] ["self", "kind", "sender", "receiver", "mark", "number", "span", "turn", "count", "end", "who", "link", "via", "rows"] (defScope sLetterInit) := ⟨rfl, rfl, rfl, by decide +kernel, rfl, by decide +kernel, by decide +kernel⟩

/-- __init__ of a letter: the new instance at x, its fields' values in order -/
def spLetterInit (K : PySem.W.Frag) : Sp := fun vs H Q _ => ∃ (x dx va ra : Addr) (l : Let), vs = .ref x :: l.vals va ra ∧ LetOk l ∧ SqT K H va [] ∧ SqT K H ra [] ∧ H x = some (.ins (He.ga K "Letter") dx []) ∧
  ∀ H', Kp [x] H H' → H' x = some (.ins (He.ga K "Letter") dx (l.flds va ra)) → Q .non H'
theorem flds_eq (l : Let) (va ra : Addr) : putF "rows" (.ref ra) (putF "via" (.ref va) (putF "link" (.str l.link) (putF "who" (.str l.who) (putF "end" (.non) (putF "count" (.int 0) (putF "turn" (.int l.turn) (putF "span" (.int l.span) (putF "number" (oV l.number) (putF "mark" (.int l.mark) (putF "receiver" (.str l.receiver) (putF "sender" (.str l.sender) (putF "kind" (.str l.kind) ([]))))))))))))) = l.flds va ra := by kernel_rfl
theorem ok_letterInit (T : Tx w K mg) {fd : FuncData} (F : FunD K "__init__" "Letter.__init__" (defArgs sLetterInit) (defBody sLetterInit) (defScope sLetterInit) (dLetterInit.dvs K) (dLetterInit.kws K) (He.ma K (He.ga K "Letter") "__init__") fd) :
    FnOk P w K mg base CX0 6 (He.ma K (He.ga K "Letter") "__init__") fd ["self", "kind", "sender", "receiver", "mark", "number", "span", "turn", "count", "end", "who", "link", "via", "rows"] (spLetterInit K) := by
  refine ok0 F sc_letterInit (fun vs H Q E h => ?_) (fun cdv A outer s H vs Q E hr h => ?_)
  · obtain ⟨x, dx, va, ra, l, rfl, _⟩ := h
    rfl
  · obtain ⟨x, dx, va, ra, l, rfl, L, hva, hra, hx, q⟩ := h
    refine ⟨_, pss_cons (ps_expr (pe_callD (d_look T) hr (by rfl) (T.glo "look_letter") pass0 (pa_cons (pe_tup (pa_cons (pv 1) (pa_cons (pv 2) (pa_cons (pv 3) (pa_cons (pv 4) (pa_cons (pv 5) (pa_cons (pv 6) (pa_cons (pv 7) (pa_cons (pv 8) (pa_cons (pv 9) (pa_cons (pv 10) (pa_cons (pv 11) (pa_cons (pv 12) (pa_cons (pv 13) (pa_nil))))))))))))))) pa_nil))) (pss_cons (ps_fld (pv 0) (pv 1) rfl) (pss_cons (ps_fld (pv 0) (pv 2) rfl) (pss_cons (ps_fld (pv 0) (pv 3) rfl) (pss_cons (ps_fld (pv 0) (pv 4) rfl) (pss_cons (ps_fld (pv 0) (pv 5) rfl) (pss_cons (ps_fld (pv 0) (pv 6) rfl) (pss_cons (ps_fld (pv 0) (pv 7) rfl) (pss_cons (ps_fld (pv 0) (pv 8) rfl) (pss_cons (ps_fld (pv 0) (pv 9) rfl) (pss_cons (ps_fld (pv 0) (pv 10) rfl) (pss_cons (ps_fld (pv 0) (pv 11) rfl) (pss_cons (ps_fld (pv 0) (pv 12) rfl) (pss_one (ps_fld (pv 0) (pv 13) rfl)))))))))))))), ?_⟩
    refine ⟨_, rfl, _, rfl, _, rfl, _, rfl, _, rfl, _, rfl, _, rfl, _, rfl, _, rfl, _, rfl, _, rfl, _, rfl, _, rfl, (by show 13 ≤ sizeLine; decide), fun t ht => ?_⟩
    have s0 : Same H (upd H t (.tup (l.vals va ra))) := (Same.refl H).new ht
    refine ⟨t, va, ra, l, rfl, L, s0.tup hva, s0.tup hra, SqT.of upd_same, fun H1 s1 => ?_⟩
    have k0 : Kp [x] H H1 := Kp.of_same (s0.trans s1)
    have hx1 := (s0.trans s1) _ _ hx
    refine ⟨_, rfl, _, rfl, x, _, dx, _, rfl, hx1, T.cls "Letter", T.noat "Letter" "kind", Nat.lt_of_lt_of_le (Nat.zero_lt_one : ([] : List (Str × V)).length < 1) (by decide), ?_⟩
    refine ⟨_, rfl, _, rfl, x, _, dx, _, rfl, upd_same, T.cls "Letter", T.noat "Letter" "sender", Nat.lt_of_lt_of_le (putF_lt (Nat.zero_lt_one : ([] : List (Str × V)).length < 1)) (by decide), ?_⟩
    refine ⟨_, rfl, _, rfl, x, _, dx, _, rfl, upd_same, T.cls "Letter", T.noat "Letter" "receiver", Nat.lt_of_lt_of_le (putF_lt (putF_lt (Nat.zero_lt_one : ([] : List (Str × V)).length < 1))) (by decide), ?_⟩
    refine ⟨_, rfl, _, rfl, x, _, dx, _, rfl, upd_same, T.cls "Letter", T.noat "Letter" "mark", Nat.lt_of_lt_of_le (putF_lt (putF_lt (putF_lt (Nat.zero_lt_one : ([] : List (Str × V)).length < 1)))) (by decide), ?_⟩
    refine ⟨_, rfl, _, rfl, x, _, dx, _, rfl, upd_same, T.cls "Letter", T.noat "Letter" "number", Nat.lt_of_lt_of_le (putF_lt (putF_lt (putF_lt (putF_lt (Nat.zero_lt_one : ([] : List (Str × V)).length < 1))))) (by decide), ?_⟩
    refine ⟨_, rfl, _, rfl, x, _, dx, _, rfl, upd_same, T.cls "Letter", T.noat "Letter" "span", Nat.lt_of_lt_of_le (putF_lt (putF_lt (putF_lt (putF_lt (putF_lt (Nat.zero_lt_one : ([] : List (Str × V)).length < 1)))))) (by decide), ?_⟩
    refine ⟨_, rfl, _, rfl, x, _, dx, _, rfl, upd_same, T.cls "Letter", T.noat "Letter" "turn", Nat.lt_of_lt_of_le (putF_lt (putF_lt (putF_lt (putF_lt (putF_lt (putF_lt (Nat.zero_lt_one : ([] : List (Str × V)).length < 1))))))) (by decide), ?_⟩
    refine ⟨_, rfl, _, rfl, x, _, dx, _, rfl, upd_same, T.cls "Letter", T.noat "Letter" "count", Nat.lt_of_lt_of_le (putF_lt (putF_lt (putF_lt (putF_lt (putF_lt (putF_lt (putF_lt (Nat.zero_lt_one : ([] : List (Str × V)).length < 1)))))))) (by decide), ?_⟩
    refine ⟨_, rfl, _, rfl, x, _, dx, _, rfl, upd_same, T.cls "Letter", T.noat "Letter" "end", Nat.lt_of_lt_of_le (putF_lt (putF_lt (putF_lt (putF_lt (putF_lt (putF_lt (putF_lt (putF_lt (Nat.zero_lt_one : ([] : List (Str × V)).length < 1))))))))) (by decide), ?_⟩
    refine ⟨_, rfl, _, rfl, x, _, dx, _, rfl, upd_same, T.cls "Letter", T.noat "Letter" "who", Nat.lt_of_lt_of_le (putF_lt (putF_lt (putF_lt (putF_lt (putF_lt (putF_lt (putF_lt (putF_lt (putF_lt (Nat.zero_lt_one : ([] : List (Str × V)).length < 1)))))))))) (by decide), ?_⟩
    refine ⟨_, rfl, _, rfl, x, _, dx, _, rfl, upd_same, T.cls "Letter", T.noat "Letter" "link", Nat.lt_of_lt_of_le (putF_lt (putF_lt (putF_lt (putF_lt (putF_lt (putF_lt (putF_lt (putF_lt (putF_lt (putF_lt (Nat.zero_lt_one : ([] : List (Str × V)).length < 1))))))))))) (by decide), ?_⟩
    refine ⟨_, rfl, _, rfl, x, _, dx, _, rfl, upd_same, T.cls "Letter", T.noat "Letter" "via", Nat.lt_of_lt_of_le (putF_lt (putF_lt (putF_lt (putF_lt (putF_lt (putF_lt (putF_lt (putF_lt (putF_lt (putF_lt (putF_lt (Nat.zero_lt_one : ([] : List (Str × V)).length < 1)))))))))))) (by decide), ?_⟩
    refine ⟨_, rfl, _, rfl, x, _, dx, _, rfl, upd_same, T.cls "Letter", T.noat "Letter" "rows", Nat.lt_of_lt_of_le (putF_lt (putF_lt (putF_lt (putF_lt (putF_lt (putF_lt (putF_lt (putF_lt (putF_lt (putF_lt (putF_lt (putF_lt (Nat.zero_lt_one : ([] : List (Str × V)).length < 1))))))))))))) (by decide), ?_⟩
    refine q _ (Kp.put (Kp.put (Kp.put (Kp.put (Kp.put (Kp.put (Kp.put (Kp.put (Kp.put (Kp.put (Kp.put (Kp.put (Kp.put k0 (by simp)) (by simp)) (by simp)) (by simp)) (by simp)) (by simp)) (by simp)) (by simp)) (by simp)) (by simp)) (by simp)) (by simp)) (by simp)) ?_
    rw [upd_same, ← flds_eq l va ra]
end
end K39
set_option Elab.async false
set_option linter.all false
set_option maxRecDepth 100000
set_option maxHeartbeats 4000000
/-! Letter(.., k = v, ..): the three ways in which it is called. -/
namespace K39
open PySem PySem.Spec PyProof.Rows L2

abbrev psL : List Str := ["self", "kind", "sender", "receiver", "mark", "number", "span", "turn", "count", "end", "who", "link", "via", "rows"]
abbrev FL (K : PySem.W.Frag) (fd : FuncData) : Prop := FunD K "__init__" "Letter.__init__" (defArgs sLetterInit) (defBody sLetterInit) (defScope sLetterInit) (dLetterInit.dvs K) (dLetterInit.kws K) (He.ma K (He.ga K "Letter") "__init__") fd
def msA (K : PySem.W.Frag) : List (Str × V) := [("span", .int 0), ("turn", .int 0), ("count", .int 0), ("end", .non), ("link", .str ""), ("via", .ref (viaA K)), ("rows", .ref (rowsA K))]
def gA {α : Type} (us _its mv ws : List α) : List α := us ++ (ws.take 2 ++ (mv.take 4 ++ (ws.drop 2 ++ mv.drop 4)))
theorem kwA {K : PySem.W.Frag} {fd : FuncData} (F : FL K fd) : ∃ its mv : List Value, KBn K fd psL 4 ["mark", "number", "who"] (fun us ws => gA us its mv ws) (fun vs zs => gA vs (dLetterInit.dvs K) ((msA K).map (·.2)) zs) := by
  refine FunD.kbinds F 4 ["mark", "number", "who"] (msA K) (g := gA) (by simp [dLetterInit, He.DefD.dvs]) (by simp [dLetterInit, He.DefD.kws]) ?_ ?_ ?_
  · intro q hq
    simp only [msA, List.mem_cons, List.not_mem_nil, or_false] at hq
    rcases hq with rfl | rfl | rfl | rfl | rfl | rfl | rfl <;> simp [dLetterInit, He.DefD.kws, He.Dv.v]
  · intro vs ds mz zs us its mv ws r1 r2 r3 r4
    exact r1.append ((r4.take 2).append ((r3.take 4).append ((r4.drop 2).append (r3.drop 4))))
  · intro T D doc pm an cdv ct us its mv ws l1 l2 l3 l4
    match us, l1 with
    | [a, b, c, d], _ =>
      match its, l2 with
      | [i], _ =>
        match mv, l3 with
        | [m1, m2, m3, m4, m5, m6, m7], _ =>
          match ws, l4 with
          | [w1, w2, w3], _ =>
            refine ⟨_, rfl, ?_⟩
            exact ⟨_, _, _, _, _, _, rfl, rfl, ⟨_, _, _, _, _, _, rfl, rfl, ⟨_, _, _, _, _, _, rfl, rfl, ⟨_, _, _, _, _, _, rfl, rfl, ⟨_, _, _, _, _, _, rfl, rfl, ⟨_, _, _, _, _, _, rfl, rfl, ⟨_, _, _, _, _, _, rfl, rfl, rfl⟩⟩⟩⟩⟩⟩⟩
def msB (K : PySem.W.Frag) : List (Str × V) := [("mark", .int 0), ("span", .int 0), ("count", .int 0), ("end", .non), ("link", .str ""), ("via", .ref (viaA K)), ("rows", .ref (rowsA K))]
def gB {α : Type} (us _its mv ws : List α) : List α := us ++ (mv.take 1 ++ (ws.take 1 ++ ((mv.drop 1).take 1 ++ ((ws.drop 1).take 1 ++ ((mv.drop 2).take 2 ++ (ws.drop 2 ++ mv.drop 4))))))
theorem kwB {K : PySem.W.Frag} {fd : FuncData} (F : FL K fd) : ∃ its mv : List Value, KBn K fd psL 4 ["number", "turn", "who"] (fun us ws => gB us its mv ws) (fun vs zs => gB vs (dLetterInit.dvs K) ((msB K).map (·.2)) zs) := by
  refine FunD.kbinds F 4 ["number", "turn", "who"] (msB K) (g := gB) (by simp [dLetterInit, He.DefD.dvs]) (by simp [dLetterInit, He.DefD.kws]) ?_ ?_ ?_
  · intro q hq
    simp only [msB, List.mem_cons, List.not_mem_nil, or_false] at hq
    rcases hq with rfl | rfl | rfl | rfl | rfl | rfl | rfl <;> simp [dLetterInit, He.DefD.kws, He.Dv.v]
  · intro vs ds mz zs us its mv ws r1 r2 r3 r4
    exact r1.append ((r3.take 1).append ((r4.take 1).append (((r3.drop 1).take 1).append (((r4.drop 1).take 1).append (((r3.drop 2).take 2).append ((r4.drop 2).append (r3.drop 4)))))))
  · intro T D doc pm an cdv ct us its mv ws l1 l2 l3 l4
    match us, l1 with
    | [a, b, c, d], _ =>
      match its, l2 with
      | [i], _ =>
        match mv, l3 with
        | [m1, m2, m3, m4, m5, m6, m7], _ =>
          match ws, l4 with
          | [w1, w2, w3], _ =>
            refine ⟨_, rfl, ?_⟩
            exact ⟨_, _, _, _, _, _, rfl, rfl, ⟨_, _, _, _, _, _, rfl, rfl, ⟨_, _, _, _, _, _, rfl, rfl, ⟨_, _, _, _, _, _, rfl, rfl, ⟨_, _, _, _, _, _, rfl, rfl, ⟨_, _, _, _, _, _, rfl, rfl, ⟨_, _, _, _, _, _, rfl, rfl, rfl⟩⟩⟩⟩⟩⟩⟩
abbrev ksC : List Str := ["mark", "number", "span", "turn", "count", "end", "who", "link", "via", "rows"]
def gC {α : Type} (us _its _mv ws : List α) : List α := us ++ ws
theorem kwC {K : PySem.W.Frag} {fd : FuncData} (F : FL K fd) : ∃ its mv : List Value, KBn K fd psL 4 ksC (fun us ws => gC us its mv ws) (fun vs zs => gC vs (dLetterInit.dvs K) (([] : List (Str × V)).map (·.2)) zs) := by
  refine FunD.kbinds F 4 ksC [] (g := gC) (by simp [dLetterInit, He.DefD.dvs]) (by simp [dLetterInit, He.DefD.kws]) (fun _ h => nomatch h) ?_ ?_
  · intro vs ds mz zs us its mv ws r1 r2 r3 r4
    exact r1.append r4
  · intro T D doc pm an cdv ct us its mv ws l1 l2 l3 l4
    match us, l1 with
    | [a, b, c, d], _ =>
      match its, l2 with
      | [i], _ =>
        match mv, l3 with
        | [], _ =>
          match ws, l4 with
          | [w1, w2, w3, w4, w5, w6, w7, w8, w9, w10], _ => exact ⟨_, rfl, (show _ = _ by kernel_rfl)⟩
section
variable {P : Program} {w : World} {K : PySem.W.Frag} {mg : Str → Option Value} {base : Heap}
theorem d_letA (T : Tx w K mg) : DefKw P w K mg base CX0 6 (He.ma K (He.ga K "Letter") "__init__") psL 4 ["mark", "number", "who"] (fun vs zs => gA vs (dLetterInit.dvs K) ((msA K).map (·.2)) zs) (spLetterInit K) := by
  obtain ⟨fd, F⟩ := T.def1 13 (d := dLetterInit)
  obtain ⟨its, mv, B⟩ := kwA F
  exact ⟨⟨fd, _, ok_letterInit T F, B⟩, F.kp⟩
theorem d_letB (T : Tx w K mg) : DefKw P w K mg base CX0 6 (He.ma K (He.ga K "Letter") "__init__") psL 4 ["number", "turn", "who"] (fun vs zs => gB vs (dLetterInit.dvs K) ((msB K).map (·.2)) zs) (spLetterInit K) := by
  obtain ⟨fd, F⟩ := T.def1 13 (d := dLetterInit)
  obtain ⟨its, mv, B⟩ := kwB F
  exact ⟨⟨fd, _, ok_letterInit T F, B⟩, F.kp⟩
theorem d_letC (T : Tx w K mg) : DefKw P w K mg base CX0 6 (He.ma K (He.ga K "Letter") "__init__") psL 4 ksC (fun vs zs => gC vs (dLetterInit.dvs K) (([] : List (Str × V)).map (·.2)) zs) (spLetterInit K) := by
  obtain ⟨fd, F⟩ := T.def1 13 (d := dLetterInit)
  obtain ⟨its, mv, B⟩ := kwC F
  exact ⟨⟨fd, _, ok_letterInit T F, B⟩, F.kp⟩
/-- what is asked of a new letter's __init__, once its values stand in order -/
theorem let_new {va ra : Addr} {l : Let} {H : Hp} {Q : VK} (L : LetOk l) (hv : SqT K H va []) (hr : SqT K H ra []) (q : ∀ (x : Addr) (H' : Hp), H x = none → Same H H' → LetAt K H' x l → Q (.ref x) H') :
    ∀ x dx, H x = none → H dx = none → dx ≠ x → spLetterInit K (.ref x :: l.vals va ra) (upd (upd H dx (.own x)) x (.ins (He.ga K "Letter") dx [])) (fun v H2 => v = .non ∧ Q (.ref x) H2) E0 := by
  intro x dx nx nd ne
  have s0 : Same H (upd (upd H dx (.own x)) x (.ins (He.ga K "Letter") dx [])) := ((Same.refl H).new nd).new (by rw [upd_ne (Ne.symm ne)]; exact nx)
  refine ⟨x, dx, va, ra, l, rfl, L, s0.tup hv, s0.tup hr, upd_same, fun H' k e => ⟨rfl, ?_⟩⟩
  have s1 : Same H H' := fun a o ha => k a o (by simp only [List.mem_singleton]; exact ne_of_none ha nx) (s0 a o ha)
  exact q x H' nx s1 ⟨dx, va, ra, e, s1.tup hv, s1.tup hr⟩
end
end K39
set_option Elab.async false
set_option linter.all false
set_option maxRecDepth 100000
set_option maxHeartbeats 4000000
/-! The asker, as data; its methods that send nothing. -/
namespace K39
open PySem PySem.Spec PyProof.Rows L2

/-! ### data -/
inductive Hd where
  | idle | asked | wanting
  | hold (num till : Int) (kp : Str) (span lap : Int)
def Hd.ph : Hd → Str
  | .idle => "idle"
  | .asked => "asked"
  | .wanting => "wanting"
  | .hold .. => "holding"
def Hd.num? : Hd → Option Int
  | .hold n .. => some n
  | _ => none
def Hd.till? : Hd → Option Int
  | .hold _ t .. => some t
  | _ => none
def Hd.kpS : Hd → Str
  | .hold _ _ k .. => k
  | _ => ""
def Hd.spn : Hd → Int
  | .hold _ _ _ s _ => s
  | _ => 0
def Hd.lapI : Hd → Int
  | .hold _ _ _ _ l => l
  | _ => 0
structure Ak where
  st : Hd
  marks : Int
  wait : Int
  sent : Int
def idleA (k : Int) : Ak := ⟨.idle, k, 0, 0⟩
def settled (m : Ak) (r : Int) : Ak := match m.st with
  | .hold _ t _ _ _ => if t ≤ r then idleA m.marks else m
  | _ => m
/-- what due() says of a settled asker -/
def Hd.dueS (r : Int) : Hd → Str
  | .hold _ t _ s _ => if 8 * (t - r) < s then "all" else if s < 2 * (t - r) then "keep" else "renew"
  | _ => "none"
abbrev aC (K : PySem.W.Frag) : Addr := He.ga K "Asker"
abbrev aM (K : PySem.W.Frag) (m : Str) : Addr := He.ma K (aC K) m
def afr (n mk ph wt se nu en kp sp tu : V) : List (Str × V) := [("name", n), ("marks", mk), ("phase", ph), ("waiting", wt), ("sent_at", se), ("number", nu), ("end", en), ("keeper", kp), ("span", sp), ("turn", tu)]
def af (n : Str) (m : Ak) (s : Int) : List (Str × V) := afr (.str n) (.int m.marks) (.str m.st.ph) (.int m.wait) (.int s) (oV m.st.num?) (oV m.st.till?) (.str m.st.kpS) (.int m.st.spn) (.int m.st.lapI)
/-- at x: an asker of the name n, as m says; what sent_at holds while nothing is awaited is nobody's -/
def AskAt (K : PySem.W.Frag) (H : Hp) (x : Addr) (n : Str) (m : Ak) : Prop := ∃ dx s, (m.wait ≠ 0 → s = m.sent) ∧ H x = some (.ins (aC K) dx (af n m s))
theorem Kp.at_ {S : List Addr} {H H' : Hp} (k : Kp S H H') {a b : Addr} {o : HO} (ha : a ∉ S) (e : H a = some o) : H' a = some o := k a o ha e
theorem AskAt.kp {K : PySem.W.Frag} {H H' : Hp} {x : Addr} {n : Str} {m : Ak} {S : List Addr} (A : AskAt K H x n m) (k : Kp S H H') (hx : x ∉ S) : AskAt K H' x n m :=
  let ⟨dx, s, h1, h2⟩ := A; ⟨dx, s, h1, k _ _ hx h2⟩
section
variable {n mk ph wt se nu en kp sp tu v : V}
theorem lk_name : List.lookup ("name" : Str) (afr n mk ph wt se nu en kp sp tu) = some n := by kernel_rfl
theorem lk_marks : List.lookup ("marks" : Str) (afr n mk ph wt se nu en kp sp tu) = some mk := by kernel_rfl
theorem lk_phase : List.lookup ("phase" : Str) (afr n mk ph wt se nu en kp sp tu) = some ph := by kernel_rfl
theorem lk_wait : List.lookup ("waiting" : Str) (afr n mk ph wt se nu en kp sp tu) = some wt := by kernel_rfl
theorem lk_sent : List.lookup ("sent_at" : Str) (afr n mk ph wt se nu en kp sp tu) = some se := by kernel_rfl
theorem lk_num : List.lookup ("number" : Str) (afr n mk ph wt se nu en kp sp tu) = some nu := by kernel_rfl
theorem lk_end : List.lookup ("end" : Str) (afr n mk ph wt se nu en kp sp tu) = some en := by kernel_rfl
theorem lk_kp : List.lookup ("keeper" : Str) (afr n mk ph wt se nu en kp sp tu) = some kp := by kernel_rfl
theorem lk_span : List.lookup ("span" : Str) (afr n mk ph wt se nu en kp sp tu) = some sp := by kernel_rfl
theorem lk_turn : List.lookup ("turn" : Str) (afr n mk ph wt se nu en kp sp tu) = some tu := by kernel_rfl
theorem pf_marks : putF "marks" v (afr n mk ph wt se nu en kp sp tu) = afr n v ph wt se nu en kp sp tu := by kernel_rfl
theorem pf_phase : putF "phase" v (afr n mk ph wt se nu en kp sp tu) = afr n mk v wt se nu en kp sp tu := by kernel_rfl
theorem pf_wait : putF "waiting" v (afr n mk ph wt se nu en kp sp tu) = afr n mk ph v se nu en kp sp tu := by kernel_rfl
theorem pf_sent : putF "sent_at" v (afr n mk ph wt se nu en kp sp tu) = afr n mk ph wt v nu en kp sp tu := by kernel_rfl
theorem pf_num : putF "number" v (afr n mk ph wt se nu en kp sp tu) = afr n mk ph wt se v en kp sp tu := by kernel_rfl
theorem pf_end : putF "end" v (afr n mk ph wt se nu en kp sp tu) = afr n mk ph wt se nu v kp sp tu := by kernel_rfl
theorem pf_kp : putF "keeper" v (afr n mk ph wt se nu en kp sp tu) = afr n mk ph wt se nu en v sp tu := by kernel_rfl
theorem pf_span : putF "span" v (afr n mk ph wt se nu en kp sp tu) = afr n mk ph wt se nu en kp v tu := by kernel_rfl
theorem pf_turn : putF "turn" v (afr n mk ph wt se nu en kp sp tu) = afr n mk ph wt se nu en kp sp v := by kernel_rfl
theorem len_afr : (afr n mk ph wt se nu en kp sp tu).length < 1000 := (by decide : 10 < 1000)
def methNo (fs : List (Str × V)) : Prop := ∀ m ∈ methL, fs.lookup m = none
theorem no_meth : methNo (afr n mk ph wt se nu en kp sp tu) := by
  intro m hm
  simp only [methL, List.mem_cons, List.not_mem_nil, or_false] at hm
  rcases hm with rfl | rfl | rfl | rfl | rfl | rfl | rfl | rfl | rfl | rfl | rfl | rfl | rfl | rfl | rfl <;> kernel_rfl
theorem no_meth2 : methNo [(("name" : Str), n), (("marks" : Str), mk)] := by
  intro m hm
  simp only [methL, List.mem_cons, List.not_mem_nil, or_false] at hm
  rcases hm with rfl | rfl | rfl | rfl | rfl | rfl | rfl | rfl | rfl | rfl | rfl | rfl | rfl | rfl | rfl <;> kernel_rfl
theorem nm (m : Str) (h : methL.contains m = true := by decide +kernel) : (afr n mk ph wt se nu en kp sp tu).lookup m = none := no_meth m (memB h)
/-- what let_go does to the fields -/
def letF (fs : List (Str × V)) : List (Str × V) := putF "turn" (.int 0) (putF "span" (.int 0) (putF "keeper" (.str "") (putF "end" .non (putF "number" .non (putF "sent_at" (.int 0) (putF "waiting" (.int 0) (putF "phase" (.str "idle") fs)))))))
theorem letF_full : letF (afr n mk ph wt se nu en kp sp tu) = afr n mk (.str "idle") (.int 0) (.int 0) .non .non (.str "") (.int 0) (.int 0) := by kernel_rfl
theorem letF_new : letF [("name", n), ("marks", mk)] = afr n mk (.str "idle") (.int 0) (.int 0) .non .non (.str "") (.int 0) (.int 0) := by kernel_rfl
end
theorem up_put {H : Hp} {x : Addr} {C dx : Addr} {f : Str} {v : V} {fs fs' : List (Str × V)} (e : putF f v fs = fs') : (upd H x (.ins C dx (putF f v fs))) x = some (.ins C dx fs') := by
  rw [e]
  exact upd_same
theorem e_idle : decide (V.str "idle" = V.str "holding") = false := by decide +kernel
theorem e_asked : decide (V.str "asked" = V.str "holding") = false := by decide +kernel
theorem e_wanting : decide (V.str "wanting" = V.str "holding") = false := by decide +kernel
theorem e_holding : decide (V.str "holding" = V.str "holding") = true := by decide +kernel
def Hd.isH : Hd → Bool
  | .hold .. => true
  | _ => false
theorem e_ph (s : Hd) : decide (V.str s.ph = V.str "holding") = s.isH := by
  cases s
  · exact e_idle
  · exact e_asked
  · exact e_wanting
  · exact e_holding


/-! ### let_go, __init__ -/
def spLetGo (K : PySem.W.Frag) : Sp := fun vs H Q _ => ∃ (x dx : Addr) (n mk : V) (fs : List (Str × V)), vs = [.ref x] ∧ H x = some (.ins (aC K) dx fs) ∧ fs.length < 900 ∧ letF fs = afr n mk (.str "idle") (.int 0) (.int 0) .non .non (.str "") (.int 0) (.int 0) ∧
  ∀ H', Kp [x] H H' → H' x = some (.ins (aC K) dx (afr n mk (.str "idle") (.int 0) (.int 0) .non .non (.str "") (.int 0) (.int 0))) → Q .non H'
section
variable {P : Program} {w : World} {K : PySem.W.Frag} {mg : Str → Option Value} {base : Heap}
theorem sc_letGo : FnScope ["self"] ["self"] (defScope sLetGo) := ⟨rfl, rfl, rfl, by decide +kernel, rfl, by decide +kernel, by decide +kernel⟩
theorem d_letGo (T : Tx w K mg) : DefAt P w K mg base CX0 1 (aM K "let_go") ["self"] [] (spLetGo K) := by
  obtain ⟨fd, F⟩ := T.a2 1 "let_go" "Asker.let_go" sLetGo
  refine ⟨⟨fd, [], ok0 F sc_letGo (fun vs H Q E h => ?_) (fun cdv A outer s H vs Q E hr h => ?_), F.bindsN fun _ _ _ _ _ _ us hl => match us, hl with | [_], _ => rfl, .nil⟩, F.kp⟩
  · obtain ⟨x, dx, n, mk, fs, rfl, _⟩ := h
    rfl
  · obtain ⟨x, dx, n, mk, fs, rfl, hx, hl, hf, q⟩ := h
    refine ⟨_, pss_cons (ps_fld (pv 0) (pe_gs (T.str "IDLE" "idle")) rfl) (pss_cons (ps_asg2 pe_int (pg_fld (pv 0)) (pg_fld (pv 0))) (pss_cons (ps_asg2 pe_non (pg_fld (pv 0)) (pg_fld (pv 0)))
      (pss_cons (ps_fld (pv 0) pe_str rfl) (pss_one (ps_asg2 pe_int (pg_fld (pv 0)) (pg_fld (pv 0))))))), ?_⟩
    refine ⟨_, rfl, _, _, _, _, rfl, hx, T.cls "Asker", T.noat "Asker" "phase", (by omega), ?_⟩
    have l1 := putF_lt (f := "phase") (y := V.str "idle") hl
    refine ⟨_, rfl, _, _, _, _, rfl, upd_same, T.cls "Asker", T.noat "Asker" "waiting", (by omega), ?_⟩
    have l2 := putF_lt (f := "waiting") (y := V.int 0) l1
    refine ⟨_, rfl, _, _, _, _, rfl, upd_same, T.cls "Asker", T.noat "Asker" "sent_at", (by omega), ?_⟩
    have l3 := putF_lt (f := "sent_at") (y := V.int 0) l2
    refine ⟨_, rfl, _, _, _, _, rfl, upd_same, T.cls "Asker", T.noat "Asker" "number", (by omega), ?_⟩
    have l4 := putF_lt (f := "number") (y := V.non) l3
    refine ⟨_, rfl, _, _, _, _, rfl, upd_same, T.cls "Asker", T.noat "Asker" "end", (by omega), ?_⟩
    have l5 := putF_lt (f := "end") (y := V.non) l4
    refine ⟨_, rfl, _, _, _, _, rfl, upd_same, T.cls "Asker", T.noat "Asker" "keeper", (by omega), ?_⟩
    have l6 := putF_lt (f := "keeper") (y := V.str "") l5
    refine ⟨_, rfl, _, _, _, _, rfl, upd_same, T.cls "Asker", T.noat "Asker" "span", (by omega), ?_⟩
    have l7 := putF_lt (f := "span") (y := V.int 0) l6
    refine ⟨_, rfl, _, _, _, _, rfl, upd_same, T.cls "Asker", T.noat "Asker" "turn", (by omega), ?_⟩
    refine q _ (((((((((Kp.refl [x] H).put (by simp)).put (by simp)).put (by simp)).put (by simp)).put (by simp)).put (by simp)).put (by simp)).put (by simp)) ?_
    refine upd_same.trans ?_
    exact congrArg (fun z => some (HO.ins (aC K) dx z)) hf
theorem sc_aInit : FnScope ["self", "name"] ["self", "name"] (defScope sAInit) := ⟨rfl, rfl, rfl, by decide +kernel, rfl, by decide +kernel, by decide +kernel⟩
/-- a new asker -/
def spAInit (K : PySem.W.Frag) : Sp := fun vs H Q _ => ∃ (x dx : Addr) (n : Str), vs = [.ref x, .str n] ∧ H x = some (.ins (aC K) dx []) ∧ ∀ H', Kp [x] H H' → AskAt K H' x n (idleA 0) → Q .non H'
theorem d_aInit (T : Tx w K mg) : DefAt P w K mg base CX0 2 (aM K "__init__") ["self", "name"] [] (spAInit K) := by
  obtain ⟨fd, F⟩ := T.a2 0 "__init__" "Asker.__init__" sAInit
  refine ⟨⟨fd, [], ok0 F sc_aInit (fun vs H Q E h => ?_) (fun cdv A outer s H vs Q E hr h => ?_), F.bindsN fun _ _ _ _ _ _ us hl => match us, hl with | [_, _], _ => rfl, .nil⟩, F.kp⟩
  · obtain ⟨x, dx, n, rfl, _⟩ := h
    rfl
  · obtain ⟨x, dx, n, rfl, hx, q⟩ := h
    refine ⟨_, pss_cons (ps_fld (pv 0) (pv 1) rfl) (pss_cons (ps_fld (pv 0) pe_int rfl) (pss_one (ps_expr (pe_methD0 (pv 0) (T.cls "Asker") (T.meth "let_go") (d_letGo T) hr pass0)))), ?_⟩
    refine ⟨_, rfl, ?_⟩
    refine ⟨_, rfl, _, _, _, _, rfl, hx, T.cls "Asker", T.noat "Asker" "name", (by decide), ?_⟩
    refine ⟨_, rfl, _, _, _, _, rfl, upd_same, T.cls "Asker", T.noat "Asker" "marks", (Nat.lt_of_lt_of_le (putF_lt (Nat.zero_lt_one : ([] : List (Str × V)).length < 1)) (by decide)), ?_⟩
    have e : putF "marks" (.int 0) (putF "name" (.str n) []) = ([(("name" : Str), V.str n), (("marks" : Str), V.int 0)] : List (Str × V)) := by kernel_rfl
    have hx2 : (upd (upd H x (.ins (aC K) dx (putF "name" (.str n) []))) x (.ins (aC K) dx (putF "marks" (.int 0) (putF "name" (.str n) [])))) x = some (.ins (aC K) dx ([(("name" : Str), V.str n), (("marks" : Str), V.int 0)] : List (Str × V))) := up_put e
    refine ⟨_, rfl, x, _, _, rfl, hx2, no_meth2 "let_go" (memB (by decide +kernel)), ?_⟩
    refine ⟨x, _, _, _, _, rfl, hx2, (by decide : 2 < 900), letF_new, fun H' k1 e1 => ?_⟩
    refine q _ ((((Kp.refl [x] H).put (by simp)).put (by simp)).trans k1) ⟨dx, 0, fun _ => rfl, e1⟩

/-! ### state, held, held_to, due, settle -/
theorem sc_state : FnScope ["self", "reading"] ["self", "reading"] (defScope sState) := ⟨rfl, rfl, rfl, by decide +kernel, rfl, by decide +kernel, by decide +kernel⟩
def spState (K : PySem.W.Frag) : Sp := fun vs H Q _ => ∃ (x : Addr) (r : Int) (n : Str) (m : Ak), vs = [.ref x, .int r] ∧ AskAt K H x n m ∧ Q (.str (settled m r).st.ph) H
theorem d_state (T : Tx w K mg) : DefAt P w K mg base CX0 1 (aM K "state") ["self", "reading"] [] (spState K) := by
  obtain ⟨fd, F⟩ := T.a2 2 "state" "Asker.state" sState
  refine ⟨⟨fd, [], ok0 F sc_state (fun vs H Q E h => ?_) (fun cdv A outer s H vs Q E hr h => ?_), F.bindsN fun _ _ _ _ _ _ us hl => match us, hl with | [_, _], _ => rfl, .nil⟩, F.kp⟩
  · obtain ⟨x, r, n, m, rfl, _⟩ := h
    rfl
  · obtain ⟨x, r, n, m, rfl, ⟨dx, se, hs, hx⟩, q⟩ := h
    refine ⟨_, pss_cons (ps_if (PW.pt (pw_and (pt_cmpR op_eq (pe_fld (pv 0) rfl) (pe_gs (T.str "HOLDING" "holding")) (nomark _)) (pw_and1 (pt_cmpR op_ge (pv 1) (pe_fld (pv 0) rfl) (nomark _)))))
      (pss_one (ps_ret (pe_gs (T.str "IDLE" "idle")))) pss_nil) (pss_one (ps_ret (pe_fld (pv 0) rfl))), ?_⟩
    refine ⟨_, rfl, _, _, _, _, _, rfl, hx, T.cls "Asker", T.noat "Asker" "phase", lk_phase, ?_⟩
    refine ⟨rfl, m.st.isH, congrArg V.bl (e_ph m.st), ?_⟩
    obtain ⟨st, mk, wt, sn⟩ := m
    cases st with
    | hold num till kp span lap =>
      refine iteT ⟨_, rfl, ?_⟩
      refine ⟨_, rfl, _, _, _, _, _, rfl, hx, T.cls "Asker", T.noat "Asker" "end", lk_end, ?_⟩
      refine ⟨_, _, rfl, rfl, _, rfl, ?_⟩
      by_cases c : till ≤ r
      · have e : settled ⟨.hold num till kp span lap, mk, wt, sn⟩ r = idleA mk := if_pos c
        rw [e] at q
        rw [decide_eq_true c]
        exact iteT q
      · have e : settled ⟨.hold num till kp span lap, mk, wt, sn⟩ r = ⟨.hold num till kp span lap, mk, wt, sn⟩ := if_neg c
        rw [e] at q
        rw [decide_eq_false c]
        refine iteF ?_
        refine ⟨_, rfl, _, _, _, _, _, rfl, hx, T.cls "Asker", T.noat "Asker" "phase", lk_phase, ?_⟩
        exact q
    | idle =>
      refine iteF (iteF ?_)
      refine ⟨_, rfl, _, _, _, _, _, rfl, hx, T.cls "Asker", T.noat "Asker" "phase", lk_phase, ?_⟩
      exact q
    | asked =>
      refine iteF (iteF ?_)
      refine ⟨_, rfl, _, _, _, _, _, rfl, hx, T.cls "Asker", T.noat "Asker" "phase", lk_phase, ?_⟩
      exact q
    | wanting =>
      refine iteF (iteF ?_)
      refine ⟨_, rfl, _, _, _, _, _, rfl, hx, T.cls "Asker", T.noat "Asker" "phase", lk_phase, ?_⟩
      exact q
theorem settled_hold {m : Ak} {r : Int} (h : (settled m r).st.isH = true) : settled m r = m := by
  obtain ⟨st, mk, wt, sn⟩ := m
  cases st with
  | hold num till kp span lap =>
    by_cases c : till ≤ r
    · have e : settled ⟨.hold num till kp span lap, mk, wt, sn⟩ r = idleA mk := if_pos c
      rw [e] at h
      cases h
    · exact if_neg c
  | idle => rfl
  | asked => rfl
  | wanting => rfl
theorem num_noH {s : Hd} (h : s.isH = false) : s.num? = none := by cases s <;> first | rfl | cases h
theorem till_noH {s : Hd} (h : s.isH = false) : s.till? = none := by cases s <;> first | rfl | cases h
theorem due_noH {s : Hd} {r : Int} (h : s.isH = false) : s.dueS r = "none" := by cases s <;> first | rfl | cases h
theorem sc_held : FnScope ["self", "reading"] ["self", "reading"] (defScope sHeld) := ⟨rfl, rfl, rfl, by decide +kernel, rfl, by decide +kernel, by decide +kernel⟩
def spHeld (K : PySem.W.Frag) : Sp := fun vs H Q _ => ∃ (x : Addr) (r : Int) (n : Str) (m : Ak), vs = [.ref x, .int r] ∧ AskAt K H x n m ∧ Q (oV (settled m r).st.num?) H
theorem d_held (T : Tx w K mg) : DefAt P w K mg base CX0 2 (aM K "held") ["self", "reading"] [] (spHeld K) := by
  obtain ⟨fd, F⟩ := T.a2 3 "held" "Asker.held" sHeld
  refine ⟨⟨fd, [], ok0 F sc_held (fun vs H Q E h => ?_) (fun cdv A outer s H vs Q E hr h => ?_), F.bindsN fun _ _ _ _ _ _ us hl => match us, hl with | [_, _], _ => rfl, .nil⟩, F.kp⟩
  · obtain ⟨x, r, n, m, rfl, _⟩ := h
    rfl
  · obtain ⟨x, r, n, m, rfl, ⟨dx, se, hs, hx⟩, q⟩ := h
    refine ⟨_, pss_one (ps_ret (pe_ifExp (pt_cmpR op_eq (pe_methD (pv 0) (T.cls "Asker") (T.meth "state") (d_state T) hr pass0 (pa_cons (pv 1) pa_nil)) (pe_gs (T.str "HOLDING" "holding")) (nomark _)) (pe_fld (pv 0) rfl) pe_non)), ?_⟩
    refine ⟨_, rfl, x, _, _, rfl, hx, nm "state", _, rfl, x, r, n, m, rfl, ⟨dx, se, hs, hx⟩, ?_⟩
    refine ⟨rfl, _, congrArg V.bl (e_ph _), ?_⟩
    cases c : (settled m r).st.isH with
    | true =>
      refine iteT ?_
      refine ⟨_, rfl, _, _, _, _, _, rfl, hx, T.cls "Asker", T.noat "Asker" "number", lk_num, ?_⟩
      rw [settled_hold c] at q
      exact q
    | false =>
      refine iteF ?_
      rw [num_noH c] at q
      exact q
theorem sc_heldTo : FnScope ["self", "reading"] ["self", "reading"] (defScope sHeldTo) := ⟨rfl, rfl, rfl, by decide +kernel, rfl, by decide +kernel, by decide +kernel⟩
def spHeldTo (K : PySem.W.Frag) : Sp := fun vs H Q _ => ∃ (x : Addr) (r : Int) (n : Str) (m : Ak), vs = [.ref x, .int r] ∧ AskAt K H x n m ∧ Q (oV (settled m r).st.till?) H
theorem d_heldTo (T : Tx w K mg) : DefAt P w K mg base CX0 2 (aM K "held_to") ["self", "reading"] [] (spHeldTo K) := by
  obtain ⟨fd, F⟩ := T.a2 4 "held_to" "Asker.held_to" sHeldTo
  refine ⟨⟨fd, [], ok0 F sc_heldTo (fun vs H Q E h => ?_) (fun cdv A outer s H vs Q E hr h => ?_), F.bindsN fun _ _ _ _ _ _ us hl => match us, hl with | [_, _], _ => rfl, .nil⟩, F.kp⟩
  · obtain ⟨x, r, n, m, rfl, _⟩ := h
    rfl
  · obtain ⟨x, r, n, m, rfl, ⟨dx, se, hs, hx⟩, q⟩ := h
    refine ⟨_, pss_one (ps_ret (pe_ifExp (pt_cmpR op_eq (pe_methD (pv 0) (T.cls "Asker") (T.meth "state") (d_state T) hr pass0 (pa_cons (pv 1) pa_nil)) (pe_gs (T.str "HOLDING" "holding")) (nomark _)) (pe_fld (pv 0) rfl) pe_non)), ?_⟩
    refine ⟨_, rfl, x, _, _, rfl, hx, nm "state", _, rfl, x, r, n, m, rfl, ⟨dx, se, hs, hx⟩, ?_⟩
    refine ⟨rfl, _, congrArg V.bl (e_ph _), ?_⟩
    cases c : (settled m r).st.isH with
    | true =>
      refine iteT ?_
      refine ⟨_, rfl, _, _, _, _, _, rfl, hx, T.cls "Asker", T.noat "Asker" "end", lk_end, ?_⟩
      rw [settled_hold c] at q
      exact q
    | false =>
      refine iteF ?_
      rw [till_noH c] at q
      exact q
theorem sc_due : FnScope ["self", "reading", "left"] ["self", "reading"] (defScope sDue) := ⟨rfl, rfl, rfl, by decide +kernel, rfl, by decide +kernel, by decide +kernel⟩
def spDue (K : PySem.W.Frag) : Sp := fun vs H Q _ => ∃ (x : Addr) (r : Int) (n : Str) (m : Ak), vs = [.ref x, .int r] ∧ AskAt K H x n m ∧ Q (.str ((settled m r).st.dueS r)) H
theorem d_due (T : Tx w K mg) : DefAt P w K mg base CX0 2 (aM K "due") ["self", "reading"] [] (spDue K) := by
  obtain ⟨fd, F⟩ := T.a2 5 "due" "Asker.due" sDue
  refine ⟨⟨fd, [], ok0 F sc_due (fun vs H Q E h => ?_) (fun cdv A outer s H vs Q E hr h => ?_), F.bindsN fun _ _ _ _ _ _ us hl => match us, hl with | [_, _], _ => rfl, .nil⟩, F.kp⟩
  · obtain ⟨x, r, n, m, rfl, _⟩ := h
    rfl
  · obtain ⟨x, r, n, m, rfl, ⟨dx, se, hs, hx⟩, q⟩ := h
    refine ⟨_, pss_cons (ps_if (pt_cmpR op_ne (pe_methD (pv 0) (T.cls "Asker") (T.meth "state") (d_state T) hr pass0 (pa_cons (pv 1) pa_nil)) (pe_gs (T.str "HOLDING" "holding")) (nomark _)) (pss_one (ps_ret pe_str)) pss_nil)
      (pss_cons (ps_set (i := 2) sc_due.nd rfl (.inl rfl) (pe_op op_sub (pe_fld (pv 0) rfl) (pv 1)))
      (pss_cons (ps_if (pt_cmpR op_lt (pe_op op_mul pe_int (pv 2)) (pe_fld (pv 0) rfl) (nomark _)) (pss_one (ps_ret pe_str)) pss_nil)
      (pss_one (ps_ret (pe_ifExp (pt_cmpR op_gt (pe_op op_mul pe_int (pv 2)) (pe_fld (pv 0) rfl) (nomark _)) pe_str pe_str))))), ?_⟩
    refine ⟨_, rfl, x, _, _, rfl, hx, nm "state", _, rfl, x, r, n, m, rfl, ⟨dx, se, hs, hx⟩, ?_⟩
    refine ⟨rfl, _, congrArg (fun z => V.bl (!z)) (e_ph _), ?_⟩
    cases c : (settled m r).st.isH with
    | false =>
      refine iteT ?_
      rw [due_noH c] at q
      exact q
    | true =>
      refine iteF ?_
      rw [settled_hold c] at q c
      obtain ⟨st, mk, wt, sn⟩ := m
      cases st with
      | idle => cases c
      | asked => cases c
      | wanting => cases c
      | hold num till kp span lap =>
        refine ⟨_, rfl, _, _, _, _, _, rfl, hx, T.cls "Asker", T.noat "Asker" "end", lk_end, ?_⟩
        refine ⟨_, rfl, _, _, rfl, rfl, ?_⟩
        refine ⟨_, rfl, _, _, rfl, rfl, .inl (by decide), ?_⟩
        refine ⟨_, rfl, _, _, _, _, _, rfl, hx, T.cls "Asker", T.noat "Asker" "span", lk_span, ?_⟩
        have q' : Q (.str (if 8 * (till - r) < span then "all" else if span < 2 * (till - r) then "keep" else "renew")) H := q
        by_cases c1 : 8 * (till - r) < span
        · rw [if_pos c1] at q'
          exact ⟨_, _, rfl, rfl, true, congrArg V.bl (decide_eq_true c1), iteT q'⟩
        · rw [if_neg c1] at q'
          refine ⟨_, _, rfl, rfl, false, congrArg V.bl (decide_eq_false c1), iteF ?_⟩
          refine ⟨_, rfl, _, _, rfl, rfl, .inl (by decide), ?_⟩
          refine ⟨_, rfl, _, _, _, _, _, rfl, hx, T.cls "Asker", T.noat "Asker" "span", lk_span, ?_⟩
          by_cases c2 : span < 2 * (till - r)
          · rw [if_pos c2] at q'
            exact ⟨_, _, rfl, rfl, true, congrArg V.bl (decide_eq_true c2), iteT q'⟩
          · rw [if_neg c2] at q'
            exact ⟨_, _, rfl, rfl, false, congrArg V.bl (decide_eq_false c2), iteF q'⟩
theorem sc_settle : FnScope ["self", "reading"] ["self", "reading"] (defScope sSettle) := ⟨rfl, rfl, rfl, by decide +kernel, rfl, by decide +kernel, by decide +kernel⟩
def spSettle (K : PySem.W.Frag) : Sp := fun vs H Q _ => ∃ (x : Addr) (r : Int) (n : Str) (m : Ak), vs = [.ref x, .int r] ∧ AskAt K H x n m ∧ ∀ H', Kp [x] H H' → AskAt K H' x n (settled m r) → Q .non H'
theorem e_ih : decide (V.str "idle" = V.str "holding") = false := by decide +kernel
theorem e_self (z : Str) : decide (V.str z = V.str z) = true := decide_eq_true rfl
theorem d_settle (T : Tx w K mg) : DefAt P w K mg base CX0 2 (aM K "settle") ["self", "reading"] [] (spSettle K) := by
  obtain ⟨fd, F⟩ := T.a2 6 "settle" "Asker.settle" sSettle
  refine ⟨⟨fd, [], ok0 F sc_settle (fun vs H Q E h => ?_) (fun cdv A outer s H vs Q E hr h => ?_), F.bindsN fun _ _ _ _ _ _ us hl => match us, hl with | [_, _], _ => rfl, .nil⟩, F.kp⟩
  · obtain ⟨x, r, n, m, rfl, _⟩ := h
    rfl
  · obtain ⟨x, r, n, m, rfl, ⟨dx, se, hs, hx⟩, q⟩ := h
    refine ⟨_, pss_one (ps_if (pt_cmpR op_ne (pe_methD (pv 0) (T.cls "Asker") (T.meth "state") (d_state T) hr pass0 (pa_cons (pv 1) pa_nil)) (pe_fld (pv 0) rfl) (nomark _))
      (pss_one (ps_expr (pe_methD0 (pv 0) (T.cls "Asker") (T.meth "let_go") (d_letGo T) hr pass0))) pss_nil), ?_⟩
    refine ⟨_, rfl, x, _, _, rfl, hx, nm "state", _, rfl, x, r, n, m, rfl, ⟨dx, se, hs, hx⟩, ?_⟩
    refine ⟨_, rfl, _, _, _, _, _, rfl, hx, T.cls "Asker", T.noat "Asker" "phase", lk_phase, ?_⟩
    by_cases c : (settled m r).st.ph = m.st.ph
    · refine ⟨rfl, false, ?_, iteF ?_⟩
      · rw [c, e_self]
        rfl
      · have e : settled m r = m := by
          obtain ⟨st, mk, wt, sn⟩ := m
          cases st with
          | idle => rfl
          | asked => rfl
          | wanting => rfl
          | hold num till kp span lap =>
            by_cases c1 : till ≤ r
            · have e : settled ⟨.hold num till kp span lap, mk, wt, sn⟩ r = idleA mk := if_pos c1
              rw [e] at c
              exact absurd c (by decide +kernel : ¬ (("idle" : Str) = "holding"))
            · exact if_neg c1
        refine q H (Kp.refl _ _) ?_
        rw [e]
        exact ⟨dx, se, hs, hx⟩
    · refine ⟨rfl, true, ?_, iteT ?_⟩
      · have e : decide (V.str (settled m r).st.ph = V.str m.st.ph) = false := decide_eq_false fun z => c (V.str.inj z)
        rw [e]
        rfl
      · have e : settled m r = idleA m.marks := by
          obtain ⟨st, mk, wt, sn⟩ := m
          cases st with
          | idle => exact absurd rfl c
          | asked => exact absurd rfl c
          | wanting => exact absurd rfl c
          | hold num till kp span lap =>
            by_cases c1 : till ≤ r
            · exact if_pos c1
            · have e : settled ⟨.hold num till kp span lap, mk, wt, sn⟩ r = ⟨.hold num till kp span lap, mk, wt, sn⟩ := if_neg c1
              rw [e] at c
              exact absurd rfl c
        refine ⟨_, rfl, x, _, _, rfl, hx, nm "let_go", ?_⟩
        refine ⟨x, _, _, _, _, rfl, hx, (by decide : 10 < 900), letF_full, fun H' k1 e1 => ?_⟩
        refine q _ k1 ?_
        rw [e]
        exact ⟨dx, 0, fun _ => rfl, e1⟩
end
end K39
set_option Elab.async false
set_option linter.all false
set_option maxRecDepth 100000
set_option maxHeartbeats 4000000
/-! The asker's deeds. -/
namespace K39
open PySem PySem.Spec PyProof.Rows L2

theorem Kp.free {S : List Addr} {H H' : Hp} {p : Addr} (k : Kp S H H') (hS : ∀ s ∈ S, H' s ≠ none) (hp : H' p = none) : H p = none := by
  cases e : H p with
  | none => rfl
  | some o =>
    by_cases c : p ∈ S
    · exact absurd hp (hS p c)
    · rw [k p o c e] at hp
      cases hp
theorem Kp.free1 {x : Addr} {H H' : Hp} {p : Addr} {o : HO} (k : Kp [x] H H') (hx : H' x = some o) (hp : H' p = none) : H p = none :=
  k.free (fun s hs => by rw [List.mem_singleton.mp hs, hx]; exact fun z => by cases z) hp
theorem LetAt.kp {K : PySem.W.Frag} {H H' : Hp} {y : Addr} {l : Let} (A : LetAt K H y l) (k : Same H H') : LetAt K H' y l :=
  let ⟨dx, va, ra, h1, h2, h3⟩ := A; ⟨dx, va, ra, k _ _ h1, k.tup h2, k.tup h3⟩
theorem SqT.ne {K : PySem.W.Frag} {H : Hp} {a x : Addr} {xs : List V} {C dx : Addr} {fs : List (Str × V)} {H' : Hp} (h : SqT K H a xs) (hx : H x = some (.ins C dx fs)) (k : Kp [x] H H') : SqT K H' a xs := by
  rcases h with (h | ⟨o, h⟩) | h
  · by_cases c : a = x
    · subst c; rw [h] at hx; cases hx
    · exact .inl (.inl (k _ _ (by simpa using c) h))
  · by_cases c : a = x
    · subst c; rw [h] at hx; cases hx
    · exact .inl (.inr ⟨o, k _ _ (by simpa using c) h⟩)
  · exact .inr h
/-- a letter stands through what changes an asker alone -/
theorem LetAt.kpx {K : PySem.W.Frag} {H H' : Hp} {x y : Addr} {l : Let} {C dx : Addr} {fs : List (Str × V)} (A : LetAt K H y l) (hx : H x = some (.ins C dx fs)) (ne : y ≠ x) (k : Kp [x] H H') : LetAt K H' y l :=
  let ⟨dy, va, ra, h1, h2, h3⟩ := A; ⟨dy, va, ra, k _ _ (by simpa using ne) h1, SqT.ne h2 hx k, SqT.ne h3 hx k⟩
section
variable {l : Let} {va ra : Addr}
theorem ll_kind : List.lookup ("kind" : Str) (l.flds va ra) = some (.str l.kind) := by kernel_rfl
theorem ll_sender : List.lookup ("sender" : Str) (l.flds va ra) = some (.str l.sender) := by kernel_rfl
theorem ll_receiver : List.lookup ("receiver" : Str) (l.flds va ra) = some (.str l.receiver) := by kernel_rfl
theorem ll_mark : List.lookup ("mark" : Str) (l.flds va ra) = some (.int l.mark) := by kernel_rfl
theorem ll_number : List.lookup ("number" : Str) (l.flds va ra) = some (oV l.number) := by kernel_rfl
theorem ll_span : List.lookup ("span" : Str) (l.flds va ra) = some (.int l.span) := by kernel_rfl
theorem ll_turn : List.lookup ("turn" : Str) (l.flds va ra) = some (.int l.turn) := by kernel_rfl
end

theorem lkp {fs fs' : List (Str × V)} {f : Str} {v : V} (e : fs = fs') (l : fs'.lookup f = some v) : fs.lookup f = some v := e ▸ l
theorem lep {fs fs' : List (Str × V)} {n : Nat} (e : fs = fs') (l : fs'.length < n) : fs.length < n := e ▸ l

/-- a new letter behind its __init__ -/
theorem let_new2 {K : PySem.W.Frag} {va ra y dy : Addr} {l : Let} {H H' : Hp} (nx : H y = none) (nd : H dy = none) (ne : dy ≠ y) (hv : SqT K H va []) (hr : SqT K H ra [])
    (k : Kp [y] (upd (upd H dy (.own y)) y (.ins (He.ga K "Letter") dy [])) H') (e : H' y = some (.ins (He.ga K "Letter") dy (l.flds va ra))) : Same H H' ∧ LetAt K H' y l := by
  have s0 : Same H (upd (upd H dy (.own y)) y (.ins (He.ga K "Letter") dy [])) := ((Same.refl H).new nd).new (by rw [upd_ne (Ne.symm ne)]; exact nx)
  have s1 : Same H H' := fun a o ha => k a o (by simp only [List.mem_singleton]; exact ne_of_none ha nx) (s0 a o ha)
  exact ⟨s1, dy, va, ra, e, s1.tup hv, s1.tup hr⟩

/-! ### data -/
inductive Deed where
  | seek | renew | free | spoil
def Deed.word : Deed → Str
  | .seek => "seek"
  | .renew => "renew"
  | .free => "free"
  | .spoil => "spoil"
def backL (w n : Str) (s : Ak) : Let := ⟨w, n, s.st.kpS, 0, s.st.num?, 0, s.st.lapI, s.st.kpS, ""⟩
def doneA (n : Str) (m : Ak) (d : Deed) (r : Int) : Option Let × Ak :=
  let s := settled m r
  match d with
  | .seek => if s.st.isH = true then (none, s) else (some ⟨"find", n, "", s.marks + 1, none, 0, 0, "", ""⟩, ⟨.asked, s.marks + 1, s.marks + 1, r⟩)
  | .renew => if s.st.isH = true then (some ⟨"renew", n, if s.st.dueS r = "all" then "" else s.st.kpS, s.marks + 1, s.st.num?, 0, 0, "", ""⟩, ⟨s.st, s.marks + 1, s.marks + 1, r⟩) else (none, s)
  | .free => if s.st.isH = true then (some (backL "free" n s), idleA s.marks) else (none, s)
  | .spoil => if s.st.isH = true then (some (backL "spoil" n s), idleA s.marks) else (none, s)
structure AkOk (m : Ak) : Prop where
  marks : 0 ≤ m.marks ∧ m.marks < 900000000000
  num : oV m.st.num? = .non ∨ ∃ i : Int, oV m.st.num? = .int i ∧ 0 ≤ i ∧ i ≤ 999999
  kp : Nm m.st.kpS ∨ m.st.kpS = ""
  lap : 0 ≤ m.st.lapI ∧ m.st.lapI ≤ 999999999999
theorem AkOk.settled {m : Ak} (h : AkOk m) (r : Int) : AkOk (settled m r) := by
  obtain ⟨st, mk, wt, sn⟩ := m
  cases st with
  | idle => exact h
  | asked => exact h
  | wanting => exact h
  | hold num till kp span lap =>
    by_cases c : till ≤ r
    · have e : K39.settled ⟨.hold num till kp span lap, mk, wt, sn⟩ r = idleA mk := if_pos c
      rw [e]
      exact ⟨h.marks, .inl rfl, .inr rfl, (by decide : (0 : Int) ≤ 0), (by decide : (0 : Int) ≤ 999999999999)⟩
    · have e : K39.settled ⟨.hold num till kp span lap, mk, wt, sn⟩ r = ⟨.hold num till kp span lap, mk, wt, sn⟩ := if_neg c
      rw [e]
      exact h

/-! ### sent -/
section
variable {P : Program} {w : World} {K : PySem.W.Frag} {mg : Str → Option Value} {base : Heap}
abbrev psS : List Str := ["self", "kind", "receiver", "reading", "number", "who"]
def sentL (n kind recv : Str) (mk : Int) (number : Option Int) (who : Str) : Let := ⟨kind, n, recv, mk, number, 0, 0, who, ""⟩
def spSent (K : PySem.W.Frag) : Sp := fun vs H Q _ => ∃ (x dx : Addr) (n kind recv who : Str) (mk r : Int) (number : Option Int) (ph wt se nu en kp sp tu : V), vs = [.ref x, .str kind, .str recv, .int r, oV number, .str who] ∧
  H x = some (.ins (aC K) dx (afr (.str n) (.int mk) ph wt se nu en kp sp tu)) ∧ LetOk (sentL n kind recv (mk + 1) number who) ∧
  ∀ (H' : Hp) (a y : Addr), Kp [x] H H' → H' x = some (.ins (aC K) dx (afr (.str n) (.int (mk + 1)) ph (.int (mk + 1)) (.int r) nu en kp sp tu)) → H a = none → H' a = some (.lst [.ref y]) → LetAt K H' y (sentL n kind recv (mk + 1) number who) → Q (.ref a) H'
theorem sc_sent : FnScope psS psS (defScope sSent) := ⟨rfl, rfl, rfl, by decide +kernel, rfl, by decide +kernel, by decide +kernel⟩
abbrev FSent (K : PySem.W.Frag) (fd : FuncData) : Prop := FunD K "sent" "Asker.sent" (defArgs sSent) (defBody sSent) (defScope sSent) (dSent.dvs K) (dSent.kws K) (aM K "sent") fd
theorem ok_sent (T : Tx w K mg) {fd : FuncData} (F : FSent K fd) : FnOk P w K mg base CX0 8 (aM K "sent") fd psS (spSent K) := by
  refine ok0 F sc_sent (fun vs H Q E h => ?_) (fun cdv A outer s H vs Q E hr h => ?_)
  · obtain ⟨x, dx, n, kind, recv, who, mk, r, number, ph, wt, se, nu, en, kp, sp, tu, rfl, _⟩ := h
    rfl
  · obtain ⟨x, dx, n, kind, recv, who, mk, r, number, ph, wt, se, nu, en, kp, sp, tu, rfl, hx, L, q⟩ := h
    refine ⟨_, pss_cons (ps_fldaug (pv 0) pe_int in_add) (pss_cons (ps_asg (pe_tup (pa_cons (pe_fld (pv 0) rfl) (pa_cons (pv 3) pa_nil))) (pg_tup rfl (pgs_cons (pg_fld (pv 0)) (pgs_cons (pg_fld (pv 0)) pgs_nil))))
      (pss_one (ps_ret (pe_lst (pa_cons (pe_makeKD (T.mkr "Letter") (d_letA T) hr (by rfl) (T.glo "Letter") pass0 (pa_cons (pv 1) (pa_cons (pe_fld (pv 0) rfl) (pa_cons (pv 2) pa_nil)))
        (pk_cons (pe_fld (pv 0) rfl) (pk_cons (pv 4) (pk_cons (pv 5) pk_nil)))) pa_nil))))), ?_⟩
    refine ⟨_, rfl, x, _, dx, _, _, rfl, hx, T.cls "Asker", T.noat "Asker" "marks", lk_marks, _, _, rfl, rfl, dx, _, hx, len_afr, ?_⟩
    refine ⟨_, rfl, _, _, _, _, _, rfl, upd_same, T.cls "Asker", T.noat "Asker" "marks", (lkp pf_marks lk_marks), ?_⟩
    refine ⟨_, rfl, (by show 2 ≤ sizeLine; decide), fun p hp => ?_⟩
    have np : x ≠ p := fun c => by rw [← c, upd_same] at hp; cases hp
    refine ⟨p, _, rfl, SqT.of upd_same, rfl, _, _, rfl, ?_⟩
    refine ⟨_, rfl, _, _, _, _, rfl, ((upd_ne np).trans upd_same), T.cls "Asker", T.noat "Asker" "waiting", (lep pf_marks len_afr), ?_⟩
    refine ⟨_, _, rfl, ?_⟩
    have e3 : putF "waiting" (.int (mk + 1)) (putF "marks" (.int (mk + 1)) (afr (.str n) (.int mk) ph wt se nu en kp sp tu)) = afr (.str n) (.int (mk + 1)) ph (.int (mk + 1)) se nu en kp sp tu := by rw [pf_marks, pf_wait]
    refine ⟨_, rfl, _, _, _, _, rfl, upd_same, T.cls "Asker", T.noat "Asker" "sent_at", (lep e3 len_afr), ?_⟩
    have e4 : putF "sent_at" (.int r) (putF "waiting" (.int (mk + 1)) (putF "marks" (.int (mk + 1)) (afr (.str n) (.int mk) ph wt se nu en kp sp tu))) = afr (.str n) (.int (mk + 1)) ph (.int (mk + 1)) (.int r) nu en kp sp tu := by rw [e3, pf_sent]
    refine ⟨rfl, ?_⟩
    refine ⟨_, rfl, ?_⟩
    refine ⟨_, rfl, _, _, _, _, _, rfl, upd_same, T.cls "Asker", T.noat "Asker" "name", (lkp e4 lk_name), ?_⟩
    refine ⟨_, rfl, ?_⟩
    refine ⟨_, rfl, _, _, _, _, _, rfl, upd_same, T.cls "Asker", T.noat "Asker" "marks", (lkp e4 lk_marks), ?_⟩
    refine ⟨_, rfl, _, rfl, rfl, rfl, ?_⟩
    intro y dy ny nd ne
    refine ⟨y, dy, viaA K, rowsA K, sentL n kind recv (mk + 1) number who, rfl, L, T.via _, T.rows _, upd_same, fun H5 k e => ⟨rfl, ?_⟩⟩
    obtain ⟨s5, A5⟩ := let_new2 ny nd ne (T.via _) (T.rows _) k e
    refine ⟨(by show 1 ≤ sizeLine; decide), fun a ha => ?_⟩
    have h5 : H5 x = some (.ins (aC K) dx (afr (.str n) (.int (mk + 1)) ph (.int (mk + 1)) (.int r) nu en kp sp tu)) := by
      rw [← e4]
      exact s5 _ _ upd_same
    have k5 : Kp [x] H H5 := (((((Kp.refl [x] H).put (by simp)).new hp).put (by simp)).put (by simp)).trans (Kp.of_same s5)
    refine q _ a y (k5.new ha) ((upd_ne (ne_of_none h5 ha)).trans h5) (k5.free1 h5 ha) upd_same ?_
    exact A5.kp ((Same.refl H5).new ha)
end
end K39
set_option Elab.async false
set_option linter.all false
set_option maxRecDepth 100000
set_option maxHeartbeats 4000000
/-! The asker's deeds that may be refused. -/
namespace K39
open PySem PySem.Spec PyProof.Rows L2

section
variable {P : Program} {w : World} {K : PySem.W.Frag} {mg : Str → Option Value} {base : Heap}
theorem d_sent0 (T : Tx w K mg) : DefAt P w K mg base CX0 8 (aM K "sent") psS [.non, .str ""] (spSent K) := by
  obtain ⟨fd, F⟩ := T.def2 8 (d := dSent)
  obtain ⟨ds, r, B⟩ := FunD.binds0 (ps := psS) F 4 (by simp [dSent, He.DefD.kws]) rfl fun D doc pm an cdv ct us ks l1 l2 => by
    match us, l1 with
    | [a, b, c, d], _ =>
      match ks, l2 with
      | [k1, k2], _ => exact ⟨_, _, _, _, _, _, rfl, rfl, ⟨_, _, _, _, _, _, rfl, rfl, rfl⟩⟩
  exact ⟨⟨fd, ds, ok_sent T F, B, r⟩, F.kp⟩
def gS1 {α : Type} (us mv ws : List α) : List α := us ++ (ws ++ mv)
theorem d_sent1 (T : Tx w K mg) : DefKw P w K mg base CX0 8 (aM K "sent") psS 4 ["number"] (fun vs zs => gS1 vs ([(("who" : Str), V.str "")].map (·.2)) zs) (spSent K) := by
  obtain ⟨fd, F⟩ := T.def2 8 (d := dSent)
  obtain ⟨mv, B⟩ := FunD.kbinds0 (ps := psS) F 4 ["number"] [(("who" : Str), V.str "")] (g := gS1) (by simp [dSent, He.DefD.kws]) (fun q hq => by
    rw [List.mem_singleton.mp hq]
    simp [dSent, He.DefD.kws, He.Dv.v]) (fun r1 r2 r3 => r1.append (r3.append r2)) fun D doc pm an cdv ct us mv ws l1 l2 l3 => by
    match us, l1 with
    | [a, b, c, d], _ =>
      match mv, l2 with
      | [k1], _ =>
        match ws, l3 with
        | [k2], _ => exact ⟨_, _, _, _, _, _, rfl, rfl, rfl⟩
  exact ⟨⟨fd, _, ok_sent T F, B⟩, F.kp⟩
def gS2 {α : Type} (us _mv ws : List α) : List α := us ++ ws
theorem d_sent2 (T : Tx w K mg) : DefKw P w K mg base CX0 8 (aM K "sent") psS 4 ["number", "who"] (fun vs zs => gS2 vs (([] : List (Str × V)).map (·.2)) zs) (spSent K) := by
  obtain ⟨fd, F⟩ := T.def2 8 (d := dSent)
  obtain ⟨mv, B⟩ := FunD.kbinds0 (ps := psS) F 4 ["number", "who"] [] (g := gS2) (by simp [dSent, He.DefD.kws]) (fun _ h => nomatch h) (fun r1 r2 r3 => r1.append r3) fun D doc pm an cdv ct us mv ws l1 l2 l3 => by
    match us, l1 with
    | [a, b, c, d], _ =>
      match mv, l2 with
      | [], _ =>
        match ws, l3 with
        | [k1, k2], _ => rfl
  exact ⟨⟨fd, _, ok_sent T F, B⟩, F.kp⟩

/-! ### look_holding -/
def spLookH (K : PySem.W.Frag) : Sp := fun vs H Q E => ∃ (x : Addr) (r : Int) (z n : Str) (m : Ak), vs = [.ref x, .int r, .str z] ∧ AskAt K H x n m ∧
  ((settled m r).st.isH = true → ∀ H', Kp [x] H H' → AskAt K H' x n (settled m r) → Q .non H') ∧
  ((settled m r).st.isH = false → ∀ H' dd, Kp [x] H H' → AskAt K H' x n (settled m r) → H' dd = some (.xd [(("word" : Str), .str z)]) → E (.ref (nd K)) (some dd) H')
theorem sc_lookH : FnScope ["self", "reading", "word"] ["self", "reading", "word"] (defScope sLookHolding) := ⟨rfl, rfl, rfl, by decide +kernel, rfl, by decide +kernel, by decide +kernel⟩
theorem d_lookH (T : Tx w K mg) : DefAt P w K mg base (L2.CX P w) 3 (aM K "look_holding") ["self", "reading", "word"] [] (spLookH K) := by
  obtain ⟨fd, F⟩ := T.a2 7 "look_holding" "Asker.look_holding" sLookHolding
  refine ⟨⟨fd, [], F.ok sc_lookH (fun vs H Q E h => ?_) (fun cdv A outer s H vs Q E hr h => ?_), F.bindsN fun _ _ _ _ _ _ us hl => match us, hl with | [_, _, _], _ => rfl, .nil⟩, F.kp⟩
  · obtain ⟨x, r, z, n, m, rfl, _⟩ := h
    rfl
  · obtain ⟨x, r, z, n, m, rfl, A0, q1, q2⟩ := h
    refine ⟨_, pss_cons (ps_expr (pe_methD (E := E0) (pv 0) (T.cls "Asker") (T.meth "settle") (d_settle T) hr pass0 (pa_cons (pv 1) pa_nil)))
      (pss_one (ps_if (pt_cmpR op_ne (pe_fld (pv 0) rfl) (pe_gs (T.str "HOLDING" "holding")) (nomark _)) (pss_one (ps_raiseDeed rfl T.deed hr (takes_of rfl rfl rfl rfl) (pa_cons (pv 2) pa_nil))) pss_nil)), ?_⟩
    have A1 := A0
    obtain ⟨dx, se, hs, hx⟩ := A1
    refine ⟨_, rfl, x, _, _, rfl, hx, nm "settle", _, rfl, x, r, n, m, rfl, A0, fun H1 k1 A2 => ?_⟩
    have A3 := A2
    obtain ⟨dx1, se1, hs1, hx1⟩ := A3
    refine ⟨_, rfl, _, _, _, _, _, rfl, hx1, T.cls "Asker", T.noat "Asker" "phase", lk_phase, ?_⟩
    cases c : (settled m r).st.isH with
    | true =>
      refine ⟨rfl, false, congrArg (fun z => V.bl (!z)) ((e_ph _).trans c), iteF ?_⟩
      exact q1 c _ k1 A2
    | false =>
      refine ⟨rfl, true, congrArg (fun z => V.bl (!z)) ((e_ph _).trans c), iteT ?_⟩
      refine ⟨_, rfl, _, rfl, fun d hd => ?_⟩
      exact q2 c _ d (k1.new hd) (A2.kp (Kp.new (Kp.refl [] H1) hd) (by simp)) upd_same

/-! ### seek, renew, free, spoil -/
/-- what a deed promises: a letter in a list, or NoDeed of the deed's word -/
def spDeed (K : PySem.W.Frag) (d : Deed) : Sp := fun vs H Q E => ∃ (x : Addr) (r : Int) (n : Str) (m : Ak), vs = [.ref x, .int r] ∧ AskAt K H x n m ∧ AkOk m ∧ Nm n ∧
  (∀ s, doneA n m d r = (none, s) → ∀ H' dd, Kp [x] H H' → AskAt K H' x n s → H' dd = some (.xd [(("word" : Str), .str d.word)]) → E (.ref (nd K)) (some dd) H') ∧
  (∀ l s, doneA n m d r = (some l, s) → ∀ (H' : Hp) (a y : Addr), Kp [x] H H' → AskAt K H' x n s → H a = none → H' a = some (.lst [.ref y]) → LetAt K H' y l → Q (.ref a) H')
theorem kd_find : inV (.str "find") (kindNames.map V.str) = true := by decide +kernel
theorem kd_want : inV (.str "want") (kindNames.map V.str) = true := by decide +kernel
theorem kd_renew : inV (.str "renew") (kindNames.map V.str) = true := by decide +kernel
theorem kd_free : inV (.str "free") (kindNames.map V.str) = true := by decide +kernel
theorem kd_spoil : inV (.str "spoil") (kindNames.map V.str) = true := by decide +kernel
theorem free_upd {H : Hp} {x a : Addr} {o : HO} (h : (upd H x o) a = none) : H a = none := by
  by_cases c : a = x
  · rw [c, upd_same] at h; cases h
  · rw [upd_ne c] at h; exact h
theorem sentOk {kind n recv who : Str} {m : Ak} {number : Option Int} (h1 : inV (.str kind) (kindNames.map V.str) = true) (h2 : Nm n) (h3 : Nm recv ∨ recv = "") (h4 : AkOk m) (h5 : oV number = .non ∨ ∃ i : Int, oV number = .int i ∧ 0 ≤ i ∧ i ≤ 999999) (h6 : Nm who ∨ who = "") :
    LetOk (sentL n kind recv (m.marks + 1) number who) := by
  have a := h4.marks.1
  have b := h4.marks.2
  exact ⟨h1, h2, h3, ⟨(by omega : 0 ≤ m.marks + 1), (by omega : m.marks + 1 ≤ 999999999999)⟩, h5, ⟨(by decide : (0 : Int) ≤ 0), (by decide : (0 : Int) ≤ 999999999999)⟩, ⟨(by decide : (0 : Int) ≤ 0), (by decide : (0 : Int) ≤ 999999999999)⟩, h6, .inr rfl⟩
theorem backOk {kind n : Str} {m : Ak} (h1 : inV (.str kind) (kindNames.map V.str) = true) (h2 : Nm n) (h4 : AkOk m) : LetOk (backL kind n m) :=
  ⟨h1, h2, h4.kp, ⟨(by decide : (0 : Int) ≤ 0), (by decide : (0 : Int) ≤ 999999999999)⟩, h4.num, ⟨(by decide : (0 : Int) ≤ 0), (by decide : (0 : Int) ≤ 999999999999)⟩, h4.lap, h4.kp, .inr rfl⟩
theorem sc_seek : FnScope ["self", "reading"] ["self", "reading"] (defScope sSeek) := ⟨rfl, rfl, rfl, by decide +kernel, rfl, by decide +kernel, by decide +kernel⟩
theorem noH_num {s : Hd} (h : s.isH = false) : oV s.num? = .non ∧ oV s.till? = .non ∧ s.kpS = "" ∧ s.spn = 0 ∧ s.lapI = 0 := by cases s <;> first | exact ⟨rfl, rfl, rfl, rfl, rfl⟩ | cases h
theorem d_seek (T : Tx w K mg) : DefAt P w K mg base (L2.CX P w) 9 (aM K "seek") ["self", "reading"] [] (spDeed K .seek) := by
  obtain ⟨fd, F⟩ := T.a2 9 "seek" "Asker.seek" sSeek
  refine ⟨⟨fd, [], F.ok sc_seek (fun vs H Q E h => ?_) (fun cdv A outer s H vs Q E hr h => ?_), F.bindsN fun _ _ _ _ _ _ us hl => match us, hl with | [_, _], _ => rfl, .nil⟩, F.kp⟩
  · obtain ⟨x, r, n, m, rfl, _⟩ := h
    rfl
  · obtain ⟨x, r, n, m, rfl, A0, ok, hn, q1, q2⟩ := h
    refine ⟨_, pss_cons (ps_expr (pe_methD (E := E0) (pv 0) (T.cls "Asker") (T.meth "settle") (d_settle T) (hr.mono (by decide)) pass0 (pa_cons (pv 1) pa_nil)))
      (pss_cons (ps_if (pt_cmpR op_eq (pe_fld (pv 0) rfl) (pe_gs (T.str "HOLDING" "holding")) (nomark _)) (pss_one (ps_raiseDeed rfl T.deed hr (takes_of rfl rfl rfl rfl) (pa_cons pe_str pa_nil))) pss_nil)
      (pss_cons (ps_fld (pv 0) (pe_gs (T.str "ASKED" "asked")) rfl)
      (pss_one (ps_ret (pe_methD (E := E0) (pv 0) (T.cls "Asker") (T.meth "sent") (d_sent0 T) hr pass0 (pa_cons pe_str (pa_cons pe_str (pa_cons (pv 1) pa_nil)))))))), ?_⟩
    have A1 := A0
    obtain ⟨dx, se, hs, hx⟩ := A1
    refine ⟨_, rfl, x, _, _, rfl, hx, nm "settle", _, rfl, x, r, n, m, rfl, A0, fun H1 k1 A2 => ?_⟩
    have A3 := A2
    obtain ⟨dx1, se1, hs1, hx1⟩ := A3
    refine ⟨_, rfl, _, _, _, _, _, rfl, hx1, T.cls "Asker", T.noat "Asker" "phase", lk_phase, ?_⟩
    cases c : (settled m r).st.isH with
    | true =>
      refine ⟨rfl, true, congrArg V.bl ((e_ph _).trans c), iteT ?_⟩
      refine ⟨_, rfl, fun d hd => ?_⟩
      exact q1 _ (if_pos c) _ d (k1.new hd) (A2.kp (Kp.new (Kp.refl [] H1) hd) (by simp)) upd_same
    | false =>
      refine ⟨rfl, false, congrArg V.bl ((e_ph _).trans c), iteF ?_⟩
      have e := q2 _ _ (if_neg (by rw [c]; decide))
      refine ⟨_, rfl, _, _, _, _, rfl, hx1, T.cls "Asker", T.noat "Asker" "phase", len_afr, ?_⟩
      have o1 := ok.settled r
      refine ⟨_, rfl, x, _, _, rfl, up_put pf_phase, nm "sent", _, rfl, x, dx1, n, "find", "", "", (settled m r).marks, r, none, _, _, _, _, _, _, _, _, rfl, up_put pf_phase,
        sentOk kd_find hn (.inr rfl) o1 (.inl rfl) (.inr rfl), fun H' a y k2 hx2 fa ha L => ?_⟩
      obtain ⟨z1, z2, z3, z4, z5⟩ := noH_num c
      refine e H' a y (((k1.put (by simp)).trans k2)) ⟨dx1, r, fun _ => rfl, ?_⟩ (k1.free1 hx1 (free_upd fa)) ha L
      rw [hx2, z1, z2, z3, z4, z5]
      rfl
theorem sc_renew : FnScope ["self", "reading", "receiver"] ["self", "reading"] (defScope sRenew) := ⟨rfl, rfl, rfl, by decide +kernel, rfl, by decide +kernel, by decide +kernel⟩
theorem settled_settled (m : Ak) (r : Int) : settled (settled m r) r = settled m r := by
  obtain ⟨st, mk, wt, sn⟩ := m
  cases st with
  | idle => rfl
  | asked => rfl
  | wanting => rfl
  | hold num till kp span lap =>
    by_cases c : till ≤ r
    · have e : settled ⟨.hold num till kp span lap, mk, wt, sn⟩ r = idleA mk := if_pos c
      rw [e]
      rfl
    · have e : settled ⟨.hold num till kp span lap, mk, wt, sn⟩ r = ⟨.hold num till kp span lap, mk, wt, sn⟩ := if_neg c
      rw [e, e]
theorem d_renew (T : Tx w K mg) : DefAt P w K mg base (L2.CX P w) 9 (aM K "renew") ["self", "reading"] [] (spDeed K .renew) := by
  obtain ⟨fd, F⟩ := T.a2 10 "renew" "Asker.renew" sRenew
  refine ⟨⟨fd, [], F.ok sc_renew (fun vs H Q E h => ?_) (fun cdv A outer s H vs Q E hr h => ?_), F.bindsN fun _ _ _ _ _ _ us hl => match us, hl with | [_, _], _ => rfl, .nil⟩, F.kp⟩
  · obtain ⟨x, r, n, m, rfl, _⟩ := h
    rfl
  · obtain ⟨x, r, n, m, rfl, A0, ok, hn, q1, q2⟩ := h
    refine ⟨_, pss_cons (ps_expr (pe_methD (E := E) (CX := L2.CX P w) (pv 0) (T.cls "Asker") (T.meth "look_holding") (d_lookH T) (hr.mono (by decide)) (passes_call (takes_of rfl rfl rfl rfl) (fun _ _ _ _ h => h)) (pa_cons (pv 1) (pa_cons pe_str pa_nil))))
      (pss_cons (ps_set (i := 2) sc_renew.nd rfl (.inl rfl) (pe_ifExp (pt_cmpR op_eq (pe_methD (E := E0) (pv 0) (T.cls "Asker") (T.meth "due") (d_due T) (hr.mono (by decide)) pass0 (pa_cons (pv 1) pa_nil)) pe_str (nomark _)) pe_str (pe_fld (pv 0) rfl)))
      (pss_one (ps_ret (pe_methKD (E := E0) (pv 0) (T.cls "Asker") (T.meth "sent") (d_sent1 T) hr pass0 (pa_cons pe_str (pa_cons (pv 2) (pa_cons (pv 1) pa_nil))) (pk_cons (pe_fld (pv 0) rfl) pk_nil))))), ?_⟩
    have A1 := A0
    obtain ⟨dx, se, hs, hx⟩ := A1
    refine ⟨_, rfl, x, _, _, rfl, hx, nm "look_holding", _, rfl, x, r, "renew", n, m, rfl, A0, fun c H1 k1 A2 => ?_, fun c => q1 _ (if_neg (by rw [c]; decide))⟩
    have A3 := A2
    obtain ⟨dx1, se1, hs1, hx1⟩ := A3
    have e := q2 _ _ (if_pos c)
    have o1 := ok.settled r
    refine ⟨_, rfl, x, _, _, rfl, hx1, nm "due", _, rfl, x, r, n, settled m r, rfl, A2, ?_⟩
    rw [settled_settled]
    have go : ∀ recv : Str, recv = (if (settled m r).st.dueS r = "all" then ("" : Str) else (settled m r).st.kpS) → (tRet (tMethK (aC K) "sent" 3 1 (spSent K) (fun vs zs => gS1 vs ([(("who" : Str), V.str "")].map (·.2)) zs) E0 (tVar 0) (tCons (tC (.str "renew")) (tCons (tVar 2) (tCons (tVar 1) tNil))) (tCons (tFld K (tVar 0) "number") tNil)))
        { nx := fun _ H' => Q .non H', rt := Q } [some (.ref x), some (.int r), some (.str recv)] H1 := by
      intro recv er
      refine ⟨_, rfl, x, _, _, rfl, hx1, nm "sent", _, rfl, _, rfl, ?_⟩
      refine ⟨_, rfl, _, _, _, _, _, rfl, hx1, T.cls "Asker", T.noat "Asker" "number", lk_num, ?_⟩
      have hrec : Nm recv ∨ recv = "" := by
        rw [er]
        by_cases c2 : (settled m r).st.dueS r = "all"
        · rw [if_pos c2]; exact .inr rfl
        · rw [if_neg c2]; exact o1.kp
      refine ⟨rfl, rfl, x, dx1, n, "renew", recv, "", (settled m r).marks, r, (settled m r).st.num?, _, _, _, _, _, _, _, _, rfl, hx1, sentOk kd_renew hn hrec o1 o1.num (.inr rfl), fun H' a y k2 hx2 fa ha L => ?_⟩
      refine e H' a y (k1.trans k2) ⟨dx1, r, fun _ => rfl, hx2⟩ (k1.free1 hx1 fa) ha ?_
      rw [← er]
      exact L
    by_cases c2 : (settled m r).st.dueS r = "all"
    · refine ⟨rfl, true, congrArg V.bl (decide_eq_true (congrArg V.str c2)), iteT ?_⟩
      exact go "" (if_pos c2).symm
    · refine ⟨rfl, false, congrArg V.bl (decide_eq_false fun z => c2 (V.str.inj z)), iteF ?_⟩
      refine ⟨_, rfl, _, _, _, _, _, rfl, hx1, T.cls "Asker", T.noat "Asker" "keeper", lk_kp, ?_⟩
      exact go _ (if_neg c2).symm

/-! ### given_back, free, spoil -/
def spBack (K : PySem.W.Frag) : Sp := fun vs H Q _ => ∃ (x : Addr) (z n : Str) (m : Ak), vs = [.ref x, .str z] ∧ AskAt K H x n m ∧ LetOk (backL z n m) ∧
  ∀ (H' : Hp) (a y : Addr), Kp [x] H H' → AskAt K H' x n (idleA m.marks) → H a = none → H' a = some (.lst [.ref y]) → LetAt K H' y (backL z n m) → Q (.ref a) H'
theorem sc_back : FnScope ["self", "kind", "letter"] ["self", "kind"] (defScope sGivenBack) := ⟨rfl, rfl, rfl, by decide +kernel, rfl, by decide +kernel, by decide +kernel⟩
theorem d_back (T : Tx w K mg) : DefAt P w K mg base CX0 8 (aM K "given_back") ["self", "kind"] [] (spBack K) := by
  obtain ⟨fd, F⟩ := T.a2 11 "given_back" "Asker.given_back" sGivenBack
  refine ⟨⟨fd, [], ok0 F sc_back (fun vs H Q E h => ?_) (fun cdv A outer s H vs Q E hr h => ?_), F.bindsN fun _ _ _ _ _ _ us hl => match us, hl with | [_, _], _ => rfl, .nil⟩, F.kp⟩
  · obtain ⟨x, z, n, m, rfl, _⟩ := h
    rfl
  · obtain ⟨x, z, n, m, rfl, ⟨dx, se, hs, hx⟩, L, q⟩ := h
    refine ⟨_, pss_cons (ps_set (i := 2) sc_back.nd rfl (.inl rfl) (pe_makeKD (T.mkr "Letter") (d_letB T) hr (by rfl) (T.glo "Letter") pass0 (pa_cons (pv 1) (pa_cons (pe_fld (pv 0) rfl) (pa_cons (pe_fld (pv 0) rfl) pa_nil)))
        (pk_cons (pe_fld (pv 0) rfl) (pk_cons (pe_fld (pv 0) rfl) (pk_cons (pe_fld (pv 0) rfl) pk_nil)))))
      (pss_cons (ps_expr (pe_methD0 (pv 0) (T.cls "Asker") (T.meth "let_go") (d_letGo T) (hr.mono (by decide)) pass0)) (pss_one (ps_ret (pe_lst (pa_cons (pv 2) pa_nil))))), ?_⟩
    refine ⟨_, rfl, ?_⟩
    refine ⟨_, rfl, _, _, _, _, _, rfl, hx, T.cls "Asker", T.noat "Asker" "name", lk_name, ?_⟩
    refine ⟨_, rfl, _, _, _, _, _, rfl, hx, T.cls "Asker", T.noat "Asker" "keeper", lk_kp, ?_⟩
    refine ⟨_, rfl, _, _, _, _, _, rfl, hx, T.cls "Asker", T.noat "Asker" "number", lk_num, ?_⟩
    refine ⟨_, rfl, _, _, _, _, _, rfl, hx, T.cls "Asker", T.noat "Asker" "turn", lk_turn, ?_⟩
    refine ⟨_, rfl, _, _, _, _, _, rfl, hx, T.cls "Asker", T.noat "Asker" "keeper", lk_kp, ?_⟩
    refine ⟨rfl, rfl, ?_⟩
    intro y dy ny nd ne
    refine ⟨y, dy, viaA K, rowsA K, backL z n m, rfl, L, T.via _, T.rows _, upd_same, fun H5 k e => ⟨rfl, ?_⟩⟩
    obtain ⟨s5, A5⟩ := let_new2 ny nd ne (T.via _) (T.rows _) k e
    have h5 := s5 _ _ hx
    refine ⟨_, rfl, x, _, _, rfl, h5, nm "let_go", ?_⟩
    refine ⟨x, _, _, _, _, rfl, h5, (by decide : 10 < 900), letF_full, fun H6 k6 e6 => ?_⟩
    refine ⟨_, rfl, (by show 1 ≤ sizeLine; decide), fun a ha => ?_⟩
    have k7 : Kp [x] H H6 := (Kp.of_same s5).trans k6
    refine q _ a y (k7.new ha) ⟨dx, 0, fun _ => rfl, (upd_ne (ne_of_none e6 ha)).trans e6⟩ (k7.free1 e6 ha) upd_same ?_
    have nyx : y ≠ x := (ne_of_none hx ny).symm
    exact (A5.kpx h5 nyx k6).kp ((Same.refl H6).new ha)
theorem deed_back {fd : FuncData} (T : Tx w K mg) (d : Deed) (z : Str) (hz : d.word = z) (hk : inV (.str z) (kindNames.map V.str) = true) (hd : ∀ n m r, doneA n m d r = if (settled m r).st.isH = true then (some (backL z n (settled m r)), idleA (settled m r).marks) else (none, settled m r)) {x : Addr} {r : Int} {n : Str} {m : Ak} {H : Hp} {Q : VK} {E : XK}
    (A0 : AskAt K H x n m) (ok : AkOk m) (hn : Nm n)
    (q1 : ∀ s, doneA n m d r = (none, s) → ∀ H' dd, Kp [x] H H' → AskAt K H' x n s → H' dd = some (.xd [(("word" : Str), .str d.word)]) → E (.ref (nd K)) (some dd) H')
    (q2 : ∀ l s, doneA n m d r = (some l, s) → ∀ (H' : Hp) (a y : Addr), Kp [x] H H' → AskAt K H' x n s → H a = none → H' a = some (.lst [.ref y]) → LetAt K H' y l → Q (.ref a) H') :
    tSeq (tDrop (tMeth (aC K) "look_holding" (spLookH K) [] E (tVar 0) (tCons (tVar 1) (tCons (tC (.str z)) tNil)))) (tRet (tMeth (aC K) "given_back" (spBack K) [] E0 (tVar 0) (tCons (tC (.str z)) tNil)))
      { nx := fun _ H' => Q .non H', rt := Q } [some (.ref x), some (.int r)] H := by
  have A1 := A0
  obtain ⟨dx, se, hs, hx⟩ := A1
  refine ⟨_, rfl, x, _, _, rfl, hx, nm "look_holding", _, rfl, x, r, z, n, m, rfl, A0, fun c H1 k1 A2 => ?_, fun c => ?_⟩
  · have A3 := A2
    obtain ⟨dx1, se1, hs1, hx1⟩ := A3
    have e := q2 _ _ ((hd n m r).trans (if_pos c))
    refine ⟨_, rfl, x, _, _, rfl, hx1, nm "given_back", x, z, n, settled m r, rfl, A2, backOk hk hn (ok.settled r), fun H' a y k2 A4 fa ha L => ?_⟩
    exact e H' a y (k1.trans k2) A4 (k1.free1 hx1 fa) ha L
  · have e := q1 _ ((hd n m r).trans (if_neg (by rw [c]; decide)))
    rw [hz] at e
    exact e
theorem sc_free : FnScope ["self", "reading"] ["self", "reading"] (defScope sFree) := ⟨rfl, rfl, rfl, by decide +kernel, rfl, by decide +kernel, by decide +kernel⟩
theorem d_free (T : Tx w K mg) : DefAt P w K mg base (L2.CX P w) 9 (aM K "free") ["self", "reading"] [] (spDeed K .free) := by
  obtain ⟨fd, F⟩ := T.a2 12 "free" "Asker.free" sFree
  refine ⟨⟨fd, [], F.ok sc_free (fun vs H Q E h => ?_) (fun cdv A outer s H vs Q E hr h => ?_), F.bindsN fun _ _ _ _ _ _ us hl => match us, hl with | [_, _], _ => rfl, .nil⟩, F.kp⟩
  · obtain ⟨x, r, n, m, rfl, _⟩ := h
    rfl
  · obtain ⟨x, r, n, m, rfl, A0, ok, hn, q1, q2⟩ := h
    refine ⟨_, pss_cons (ps_expr (pe_methD (E := E) (CX := L2.CX P w) (pv 0) (T.cls "Asker") (T.meth "look_holding") (d_lookH T) (hr.mono (by decide)) (passes_call (takes_of rfl rfl rfl rfl) (fun _ _ _ _ h => h)) (pa_cons (pv 1) (pa_cons pe_str pa_nil))))
      (pss_one (ps_ret (pe_methD (E := E0) (pv 0) (T.cls "Asker") (T.meth "given_back") (d_back T) hr pass0 (pa_cons pe_str pa_nil)))), ?_⟩
    exact deed_back (fd := fd) T .free "free" rfl kd_free (fun _ _ _ => rfl) A0 ok hn q1 q2
theorem sc_spoil : FnScope ["self", "reading"] ["self", "reading"] (defScope sSpoil) := ⟨rfl, rfl, rfl, by decide +kernel, rfl, by decide +kernel, by decide +kernel⟩
theorem d_spoil (T : Tx w K mg) : DefAt P w K mg base (L2.CX P w) 9 (aM K "spoil") ["self", "reading"] [] (spDeed K .spoil) := by
  obtain ⟨fd, F⟩ := T.a2 13 "spoil" "Asker.spoil" sSpoil
  refine ⟨⟨fd, [], F.ok sc_spoil (fun vs H Q E h => ?_) (fun cdv A outer s H vs Q E hr h => ?_), F.bindsN fun _ _ _ _ _ _ us hl => match us, hl with | [_, _], _ => rfl, .nil⟩, F.kp⟩
  · obtain ⟨x, r, n, m, rfl, _⟩ := h
    rfl
  · obtain ⟨x, r, n, m, rfl, A0, ok, hn, q1, q2⟩ := h
    refine ⟨_, pss_cons (ps_expr (pe_methD (E := E) (CX := L2.CX P w) (pv 0) (T.cls "Asker") (T.meth "look_holding") (d_lookH T) (hr.mono (by decide)) (passes_call (takes_of rfl rfl rfl rfl) (fun _ _ _ _ h => h)) (pa_cons (pv 1) (pa_cons pe_str pa_nil))))
      (pss_one (ps_ret (pe_methD (E := E0) (pv 0) (T.cls "Asker") (T.meth "given_back") (d_back T) hr pass0 (pa_cons pe_str pa_nil)))), ?_⟩
    exact deed_back (fd := fd) T .spoil "spoil" rfl kd_spoil (fun _ _ _ => rfl) A0 ok hn q1 q2
end
end K39
set_option Elab.async false
set_option linter.all false
set_option maxRecDepth 100000
set_option maxHeartbeats 4000000
/-! take, take_grant. -/
namespace K39
open PySem PySem.Spec PyProof.Rows L2

/-! ### readings that leave the heap as it is -/
abbrev PvE (te : TE) (σ : L2.St) (H : Hp) (v : V) : Prop := ∀ Q : VK, Q v H → te σ H Q
abbrev PvT (t : TT) (σ : L2.St) (H : Hp) (b : Bool) : Prop := ∀ Q : Bool → Hp → Prop, Q b H → t σ H Q
section
variable {ta tb : TE} {t u : TT} {σ : L2.St} {H : Hp} {x y v : V} {b c : Bool} {i : Nat}
theorem pvV (h : σ[i]? = some (some v)) : PvE (tVar i) σ H v := fun Q q => ⟨v, h, q⟩
theorem pvC : PvE (tC v) σ H v := fun Q q => q
theorem pvEq (a : PvE ta σ H x) (k : PvE tb σ H y) (s : scal x y = true := by rfl) : PvT (tTest (tOp rEq ta tb)) σ H (decide (x = y)) := fun Q q => a _ (k _ ⟨s, _, rfl, q⟩)
theorem pvNe (a : PvE ta σ H x) (k : PvE tb σ H y) (s : scal x y = true := by rfl) : PvT (tTest (tOp rNe ta tb)) σ H (!decide (x = y)) := fun Q q => a _ (k _ ⟨s, _, rfl, q⟩)
theorem pvNotN (a : PvE ta σ H x) : PvT (tB (tNotN ta)) σ H (!decide (x = .non)) := fun Q q => a _ ⟨_, rfl, q⟩
theorem pvIsN (a : PvE ta σ H x) : PvT (tB (tIsN ta)) σ H (decide (x = .non)) := fun Q q => a _ ⟨_, rfl, q⟩
theorem pvAnd (a : PvT t σ H b) (k : b = true → PvT u σ H c) : PvT (tAnd t u) σ H (b && c) := fun Q q => a _ (by
  cases b with
  | true => exact iteT (k rfl _ q)
  | false => exact iteF q)
theorem pvOr (a : PvT t σ H b) (k : b = false → PvT u σ H c) : PvT (tOr t u) σ H (b || c) := fun Q q => a _ (by
  cases b with
  | true => exact iteT q
  | false => exact iteF (k rfl _ q))
theorem ifI {A B : TS} {D : Ends} (h : PvT t σ H b) (q : if b = true then A D σ H else B D σ H) : tIfS t A B D σ H := h _ q
theorem seqI {A B : TS} {D : Ends} (q : A { D with nx := B D } σ H) : tSeq A B D σ H := q
end
section
variable {w : World} {K : PySem.W.Frag} {mg : Str → Option Value} {σ : L2.St} {H : Hp} {i : Nat} {x dx : Addr} {fs : List (Str × V)} {f : Str} {v : V}
theorem pvA (T : Tx w K mg) (hx : H x = some (.ins (aC K) dx fs)) (l : fs.lookup f = some v) (hs : σ[i]? = some (some (.ref x)) := by rfl) (h : noatL.contains ("Asker", f) = true := by decide +kernel) : PvE (tFld K (tVar i) f) σ H v :=
  fun Q q => ⟨_, hs, x, _, dx, fs, v, rfl, hx, T.cls "Asker", T.noat "Asker" f h, l, q⟩
theorem pvL (T : Tx w K mg) (hx : H x = some (.ins (He.ga K "Letter") dx fs)) (l : fs.lookup f = some v) (hs : σ[i]? = some (some (.ref x)) := by rfl) (h : noatL.contains ("Letter", f) = true := by decide +kernel) : PvE (tFld K (tVar i) f) σ H v :=
  fun Q q => ⟨_, hs, x, _, dx, fs, v, rfl, hx, T.cls "Letter", T.noat "Letter" f h, l, q⟩
end

/-! ### data -/
def tkB1 (n : Str) (s : Ak) (l : Let) : Bool := !decide (V.str l.receiver = V.str n) || (decide (V.int s.wait = V.int 0) || !decide (V.int l.mark = V.int s.wait))
def tkB2 (s : Ak) (l : Let) : Bool := decide (V.str l.kind = V.str "offer") && (decide (V.str s.st.ph = V.str "asked") && !decide (oV l.number = V.non))
def tkB3 (s : Ak) (l : Let) : Bool := decide (V.str l.kind = V.str "grant") && !decide (V.str s.st.ph = V.str "asked")
def tkB4 (s : Ak) (l : Let) : Bool := decide (V.str l.kind = V.str "deny") && !decide (V.str s.st.ph = V.str "asked")
def grantT (s : Ak) (l : Let) : Int :=
  if (decide (V.str s.st.ph = V.str "holding") && decide (oV l.number = oV s.st.num?)) = true then (if s.st.till?.getD 0 > s.sent + l.span then s.st.till?.getD 0 else s.sent + l.span) else s.sent + l.span
def grantS (s : Ak) (l : Let) : Ak := ⟨.hold (l.number.getD 0) (grantT s l) l.sender l.span l.turn, s.marks, 0, 0⟩
def grantA (s : Ak) (l : Let) (r : Int) : Ak := if (decide (oV l.number = V.non) || decide (V.int l.span = V.int 0)) = true then s else settled (grantS s l) r
def wantL (n : Str) (s : Ak) (l : Let) : Let := sentL n "want" "" (s.marks + 1) l.number l.sender
def takenA (n : Str) (m : Ak) (l : Let) (r : Int) : Option Let × Ak :=
  let s := settled m r
  if tkB1 n s l = true then (none, s) else if tkB2 s l = true then (some (wantL n s l), ⟨.wanting, s.marks + 1, s.marks + 1, r⟩)
  else if tkB3 s l = true then (none, grantA s l r) else if tkB4 s l = true then (none, idleA s.marks) else (none, s)
/-- what was told: no letter, or one -/
def ToldAt (K : PySem.W.Frag) (H : Hp) (a : Addr) : Option Let → Prop
  | none => H a = some (.lst [])
  | some l => ∃ y, H a = some (.lst [.ref y]) ∧ LetAt K H y l

section
variable {P : Program} {w : World} {K : PySem.W.Frag} {mg : Str → Option Value} {base : Heap}
/-! ### take_grant -/
def spGrant (K : PySem.W.Frag) : Sp := fun vs H Q _ => ∃ (x y : Addr) (r : Int) (n : Str) (s : Ak) (l : Let), vs = [.ref x, .ref y, .int r] ∧ AskAt K H x n s ∧ s.wait ≠ 0 ∧ LetAt K H y l ∧ y ≠ x ∧ ∀ H', Kp [x] H H' → AskAt K H' x n (grantA s l r) → Q .non H'
theorem sc_grant : FnScope ["self", "letter", "reading", "end"] ["self", "letter", "reading"] (defScope sTakeGrant) := ⟨rfl, rfl, rfl, by decide +kernel, rfl, by decide +kernel, by decide +kernel⟩
theorem scal_int (o : Option Int) (i : Int) : scal (oV o) (.int i) = true → True := fun _ => trivial
theorem d_grant (T : Tx w K mg) : DefAt P w K mg base CX0 3 (aM K "take_grant") ["self", "letter", "reading"] [] (spGrant K) := by
  obtain ⟨fd, F⟩ := T.a2 15 "take_grant" "Asker.take_grant" sTakeGrant
  refine ⟨⟨fd, [], ok0 F sc_grant (fun vs H Q E h => ?_) (fun cdv A outer s H vs Q E hr h => ?_), F.bindsN fun _ _ _ _ _ _ us hl => match us, hl with | [_, _, _], _ => rfl, .nil⟩, F.kp⟩
  · obtain ⟨x, y, r, n, s, l, rfl, _⟩ := h
    rfl
  · obtain ⟨x, y, r, n, m, l, rfl, ⟨dx, se, hs, hx⟩, hw, ⟨dy, va, ra, hy, hva, hra⟩, ne, q⟩ := h
    obtain rfl := hs hw
    refine ⟨_, pss_cons (ps_if (PW.pt (pw_or (pt_cmp (pc_isN (pe_fld (pv 1) rfl))) (pw_or1 (pt_cmpR op_eq (pe_fld (pv 1) rfl) pe_int (nomark _))))) (pss_one ps_retN) pss_nil)
      (pss_cons (ps_set (i := 3) sc_grant.nd rfl (.inl rfl) (pe_op op_add (pe_fld (pv 0) rfl) (pe_fld (pv 1) rfl)))
      (pss_cons (ps_if (PW.pt (pw_and (pt_cmpR op_eq (pe_fld (pv 0) rfl) (pe_gs (T.str "HOLDING" "holding")) (nomark _)) (pw_and1 (pt_cmpR op_eq (pe_fld (pv 1) rfl) (pe_fld (pv 0) rfl) (nomark _)))))
        (pss_one (ps_set (i := 3) sc_grant.nd rfl (.inl rfl) (pe_callB (call_max2 rfl) (by rfl) (T.free "max") (by decide +kernel) (pa_cons (pv 3) (pa_cons (pe_fld (pv 0) rfl) pa_nil))))) pss_nil)
      (pss_cons (ps_fld (pv 0) (pe_gs (T.str "HOLDING" "holding")) rfl)
      (pss_cons (ps_fld (pv 0) pe_int rfl)
      (pss_cons (ps_asg (pe_tup (pa_cons (pe_fld (pv 1) rfl) (pa_cons (pe_fld (pv 1) rfl) pa_nil))) (pg_tup rfl (pgs_cons (pg_fld (pv 0)) (pgs_cons (pg_fld (pv 0)) pgs_nil))))
      (pss_cons (ps_asg (pe_tup (pa_cons (pe_fld (pv 1) rfl) (pa_cons (pe_fld (pv 1) rfl) (pa_cons (pv 3) pa_nil)))) (pg_tup rfl (pgs_cons (pg_fld (pv 0)) (pgs_cons (pg_fld (pv 0)) (pgs_cons (pg_fld (pv 0)) pgs_nil)))))
      (pss_one (ps_expr (pe_methD (pv 0) (T.cls "Asker") (T.meth "settle") (d_settle T) hr pass0 (pa_cons (pv 2) pa_nil)))))))))), ?_⟩
    refine seqI (ifI (pvOr (pvIsN (pvL T hy ll_number)) fun _ => pvEq (pvL T hy ll_span) pvC) ?_)
    by_cases c : (decide (oV l.number = V.non) || decide (V.int l.span = V.int 0)) = true
    · rw [c]
      refine iteT (q H (Kp.refl _ _) ⟨dx, m.sent, fun _ => ?_, ?_⟩)
      · rw [show grantA m l r = m from if_pos c]
      · rw [show grantA m l r = m from if_pos c]
        exact hx
    · rw [Bool.not_eq_true _ |>.mp c]
      refine iteF ?_
      have q' : ∀ H', Kp [x] H H' → AskAt K H' x n (settled (grantS m l) r) → Q .non H' := fun H' k a => q H' k (by rw [show grantA m l r = settled (grantS m l) r from if_neg c]; exact a)
      have cn : ∃ i, l.number = some i := by
        cases e : l.number with
        | none => rw [e] at c; exact absurd rfl c
        | some i => exact ⟨i, rfl⟩
      obtain ⟨num, en⟩ := cn
      -- the statements behind the end's own
      have go : ∀ te : Int, te = grantT m l → (tSeq (sFld K (tVar 0) (tC (.str "holding")) "phase") (tSeq (sFld K (tVar 0) (tC (.int 0)) "waiting") (tSeq (tAsg (tTup (tCons (tFld K (tVar 1) "number") (tCons (tFld K (tVar 1) "sender") tNil))) (gTup K 2 (gCons (gFld K (tVar 0) "number") (gCons (gFld K (tVar 0) "keeper") gNil))))
          (tSeq (tAsg (tTup (tCons (tFld K (tVar 1) "span") (tCons (tFld K (tVar 1) "turn") (tCons (tVar 3) tNil)))) (gTup K 3 (gCons (gFld K (tVar 0) "span") (gCons (gFld K (tVar 0) "turn") (gCons (gFld K (tVar 0) "end") gNil)))))
          (tDrop (tMeth (aC K) "settle" (spSettle K) [] E0 (tVar 0) (tCons (tVar 2) tNil))))))) { nx := fun _ H' => Q .non H', rt := Q } [some (.ref x), some (.ref y), some (.int r), some (.int te)] H := by
        intro te ete
        refine seqI ?_
        refine ⟨_, rfl, _, _, _, _, rfl, hx, T.cls "Asker", T.noat "Asker" "phase", len_afr, ?_⟩
        refine seqI ?_
        refine ⟨_, rfl, _, _, _, _, rfl, upd_same, T.cls "Asker", T.noat "Asker" "waiting", (lep pf_phase len_afr), ?_⟩
        refine seqI ?_
        have ny : y ≠ x := ne
        refine ⟨_, rfl, _, _, _, _, _, rfl, ((upd_ne ny).trans ((upd_ne ny).trans hy)), T.cls "Letter", T.noat "Letter" "number", ll_number, ?_⟩
        refine ⟨_, rfl, _, _, _, _, _, rfl, ((upd_ne ny).trans ((upd_ne ny).trans hy)), T.cls "Letter", T.noat "Letter" "sender", ll_sender, ?_⟩
        refine ⟨(by show 2 ≤ sizeLine; decide), fun p hp => ?_⟩
        have np : x ≠ p := fun z => by rw [← z, upd_same] at hp; cases hp
        have yp : y ≠ p := fun z => by rw [← z, upd_ne ny, upd_ne ny, hy] at hp; cases hp
        refine ⟨p, _, rfl, SqT.of upd_same, rfl, _, _, rfl, ?_⟩
        have e2 : putF "waiting" (.int 0) (putF "phase" (.str "holding") (af n m m.sent)) = afr (.str n) (.int m.marks) (.str "holding") (.int 0) (.int m.sent) (oV m.st.num?) (oV m.st.till?) (.str m.st.kpS) (.int m.st.spn) (.int m.st.lapI) := by
          unfold af
          rw [pf_phase, pf_wait]
        refine ⟨_, rfl, _, _, _, _, rfl, ((upd_ne np).trans upd_same), T.cls "Asker", T.noat "Asker" "number", (lep e2 len_afr), ?_⟩
        refine ⟨_, _, rfl, ?_⟩
        have e3 : putF "number" (oV l.number) (putF "waiting" (.int 0) (putF "phase" (.str "holding") (af n m m.sent))) = afr (.str n) (.int m.marks) (.str "holding") (.int 0) (.int m.sent) (oV l.number) (oV m.st.till?) (.str m.st.kpS) (.int m.st.spn) (.int m.st.lapI) := by
          rw [e2, pf_num]
        refine ⟨_, rfl, _, _, _, _, rfl, upd_same, T.cls "Asker", T.noat "Asker" "keeper", (lep e3 len_afr), ?_⟩
        refine ⟨rfl, ?_⟩
        have e4 : putF "keeper" (.str l.sender) (putF "number" (oV l.number) (putF "waiting" (.int 0) (putF "phase" (.str "holding") (af n m m.sent)))) = afr (.str n) (.int m.marks) (.str "holding") (.int 0) (.int m.sent) (oV l.number) (oV m.st.till?) (.str l.sender) (.int m.st.spn) (.int m.st.lapI) := by
          rw [e3, pf_kp]
        refine seqI ?_
        refine ⟨_, rfl, _, _, _, _, _, rfl, ((upd_ne ny).trans ((upd_ne ny).trans ((upd_ne yp).trans ((upd_ne ny).trans ((upd_ne ny).trans hy))))), T.cls "Letter", T.noat "Letter" "span", ll_span, ?_⟩
        refine ⟨_, rfl, _, _, _, _, _, rfl, ((upd_ne ny).trans ((upd_ne ny).trans ((upd_ne yp).trans ((upd_ne ny).trans ((upd_ne ny).trans hy))))), T.cls "Letter", T.noat "Letter" "turn", ll_turn, ?_⟩
        refine ⟨_, rfl, (by show 3 ≤ sizeLine; decide), fun p2 hp2 => ?_⟩
        have np2 : x ≠ p2 := fun z => by rw [← z, upd_same] at hp2; cases hp2
        refine ⟨p2, _, rfl, SqT.of upd_same, rfl, _, _, rfl, ?_⟩
        refine ⟨_, rfl, _, _, _, _, rfl, ((upd_ne np2).trans upd_same), T.cls "Asker", T.noat "Asker" "span", (lep e4 len_afr), ?_⟩
        refine ⟨_, _, rfl, ?_⟩
        have e5 : putF "span" (.int l.span) (putF "keeper" (.str l.sender) (putF "number" (oV l.number) (putF "waiting" (.int 0) (putF "phase" (.str "holding") (af n m m.sent))))) = afr (.str n) (.int m.marks) (.str "holding") (.int 0) (.int m.sent) (oV l.number) (oV m.st.till?) (.str l.sender) (.int l.span) (.int m.st.lapI) := by
          rw [e4, pf_span]
        refine ⟨_, rfl, _, _, _, _, rfl, upd_same, T.cls "Asker", T.noat "Asker" "turn", (lep e5 len_afr), ?_⟩
        refine ⟨_, _, rfl, ?_⟩
        have e6 : putF "turn" (.int l.turn) (putF "span" (.int l.span) (putF "keeper" (.str l.sender) (putF "number" (oV l.number) (putF "waiting" (.int 0) (putF "phase" (.str "holding") (af n m m.sent)))))) = afr (.str n) (.int m.marks) (.str "holding") (.int 0) (.int m.sent) (oV l.number) (oV m.st.till?) (.str l.sender) (.int l.span) (.int l.turn) := by
          rw [e5, pf_turn]
        refine ⟨_, rfl, _, _, _, _, rfl, upd_same, T.cls "Asker", T.noat "Asker" "end", (lep e6 len_afr), ?_⟩
        refine ⟨rfl, ?_⟩
        have e7 : putF "end" (.int te) (putF "turn" (.int l.turn) (putF "span" (.int l.span) (putF "keeper" (.str l.sender) (putF "number" (oV l.number) (putF "waiting" (.int 0) (putF "phase" (.str "holding") (af n m m.sent))))))) = af n (grantS m l) m.sent := by
          rw [e6, pf_end, ete, en]
          unfold af grantS
          rw [en]
          rfl
        have fin : (some (HO.ins (aC K) dx (putF "end" (.int te) (putF "turn" (.int l.turn) (putF "span" (.int l.span) (putF "keeper" (.str l.sender) (putF "number" (oV l.number) (putF "waiting" (.int 0) (putF "phase" (.str "holding") (af n m m.sent)))))))))) = some (.ins (aC K) dx (af n (grantS m l) m.sent)) := by rw [e7]
        refine ⟨_, rfl, x, _, _, rfl, upd_same.trans fin, nm "settle", _, rfl, x, r, n, grantS m l, rfl, ⟨dx, m.sent, fun z => absurd rfl z, upd_same.trans fin⟩, fun H' k A' => ?_⟩
        exact q' H' ((((((((((Kp.refl [x] H).put (by simp)).put (by simp)).new hp).put (by simp)).put (by simp)).new hp2).put (by simp)).put (by simp)).put (by simp) |>.trans k) A'
      refine seqI ?_
      refine ⟨_, rfl, _, _, _, _, _, rfl, hx, T.cls "Asker", T.noat "Asker" "sent_at", lk_sent, ?_⟩
      refine ⟨_, rfl, _, _, _, _, _, rfl, hy, T.cls "Letter", T.noat "Letter" "span", ll_span, ?_⟩
      refine ⟨_, _, rfl, rfl, ?_⟩
      have sc2 : decide (V.str m.st.ph = V.str "holding") = true → scal (oV l.number) (oV m.st.num?) = true := fun z => by
        rw [en]
        rw [e_ph] at z
        obtain ⟨st, mk, wt, sn⟩ := m
        cases st <;> first | rfl | cases z
      refine seqI (ifI (pvAnd (pvEq (pvA T hx lk_phase) pvC) fun z => pvEq (pvL T hy ll_number) (pvA T hx lk_num) (sc2 z)) ?_)
      by_cases c2 : (decide (V.str m.st.ph = V.str "holding") && decide (oV l.number = oV m.st.num?)) = true
      · rw [c2]
        refine iteT ?_
        have ci : ∃ ti, m.st.till? = some ti := by
          have z := (Bool.and_eq_true _ _ ▸ c2).1
          rw [e_ph] at z
          obtain ⟨st, mk, wt, sn⟩ := m
          cases st <;> first | exact ⟨_, rfl⟩ | cases z
        obtain ⟨ti, eti⟩ := ci
        refine ⟨_, rfl, ?_⟩
        refine ⟨_, rfl, _, _, _, _, _, rfl, hx, T.cls "Asker", T.noat "Asker" "end", lk_end, ?_⟩
        rw [eti]
        refine ⟨_, _, rfl, ?_⟩
        refine go _ ?_
        rw [grantT, if_pos c2, eti]
        rfl
      · rw [Bool.not_eq_true _ |>.mp c2]
        refine iteF ?_
        exact go _ (if_neg c2).symm
end
end K39
set_option Elab.async false
set_option linter.all false
set_option maxRecDepth 100000
set_option maxHeartbeats 4000000
/-! take. -/
namespace K39
open PySem PySem.Spec PyProof.Rows L2

section
variable {P : Program} {w : World} {K : PySem.W.Frag} {mg : Str → Option Value} {base : Heap}
def spTake (K : PySem.W.Frag) : Sp := fun vs H Q _ => ∃ (x y : Addr) (r : Int) (n : Str) (m : Ak) (l : Let), vs = [.ref x, .ref y, .int r] ∧ AskAt K H x n m ∧ LetAt K H y l ∧ y ≠ x ∧ AkOk m ∧ Nm n ∧ LetOk l ∧
  ∀ (H' : Hp) (a : Addr), Kp [x] H H' → AskAt K H' x n (takenA n m l r).2 → H a = none → ToldAt K H' a (takenA n m l r).1 → Q (.ref a) H'
theorem sc_take : FnScope ["self", "letter", "reading"] ["self", "letter", "reading"] (defScope sTake) := ⟨rfl, rfl, rfl, by decide +kernel, rfl, by decide +kernel, by decide +kernel⟩
theorem d_take (T : Tx w K mg) : DefAt P w K mg base CX0 9 (aM K "take") ["self", "letter", "reading"] [] (spTake K) := by
  obtain ⟨fd, F⟩ := T.a2 14 "take" "Asker.take" sTake
  refine ⟨⟨fd, [], ok0 F sc_take (fun vs H Q E h => ?_) (fun cdv A outer s H vs Q E hr h => ?_), F.bindsN fun _ _ _ _ _ _ us hl => match us, hl with | [_, _, _], _ => rfl, .nil⟩, F.kp⟩
  · obtain ⟨x, y, r, n, m, l, rfl, _⟩ := h
    rfl
  · obtain ⟨x, y, r, n, m, l, rfl, A0, L0, ne, ok, hn, lok, q⟩ := h
    refine ⟨_, pss_cons (ps_expr (pe_methD (pv 0) (T.cls "Asker") (T.meth "settle") (d_settle T) (hr.mono (by decide)) pass0 (pa_cons (pv 2) pa_nil)))
      (pss_cons (ps_if (PW.pt (pw_or (pt_cmpR op_ne (pe_fld (pv 1) rfl) (pe_fld (pv 0) rfl) (nomark _)) (pw_or (pt_cmpR op_eq (pe_fld (pv 0) rfl) pe_int (nomark _)) (pw_or1 (pt_cmpR op_ne (pe_fld (pv 1) rfl) (pe_fld (pv 0) rfl) (nomark _))))))
        (pss_one (ps_ret (pe_lst pa_nil))) pss_nil)
      (pss_cons (ps_if (PW.pt (pw_and (pt_cmpR op_eq (pe_fld (pv 1) rfl) pe_str (nomark _)) (pw_and (pt_cmpR op_eq (pe_fld (pv 0) rfl) (pe_gs (T.str "ASKED" "asked")) (nomark _)) (pw_and1 (pt_cmp (pc_notN (pe_fld (pv 1) rfl)))))))
        (pss_cons (ps_fld (pv 0) (pe_gs (T.str "WANTING" "wanting")) rfl)
        (pss_one (ps_ret (pe_methKD (pv 0) (T.cls "Asker") (T.meth "sent") (d_sent2 T) hr pass0 (pa_cons pe_str (pa_cons pe_str (pa_cons (pv 2) pa_nil))) (pk_cons (pe_fld (pv 1) rfl) (pk_cons (pe_fld (pv 1) rfl) pk_nil)))))) pss_nil)
      (pss_cons (ps_if (PW.pt (pw_and (pt_cmpR op_eq (pe_fld (pv 1) rfl) pe_str (nomark _)) (pw_and1 (pt_cmpR op_ne (pe_fld (pv 0) rfl) (pe_gs (T.str "ASKED" "asked")) (nomark _)))))
        (pss_one (ps_expr (pe_methD (pv 0) (T.cls "Asker") (T.meth "take_grant") (d_grant T) (hr.mono (by decide)) pass0 (pa_cons (pv 1) (pa_cons (pv 2) pa_nil)))))
        (pss_one (ps_if (PW.pt (pw_and (pt_cmpR op_eq (pe_fld (pv 1) rfl) pe_str (nomark _)) (pw_and1 (pt_cmpR op_ne (pe_fld (pv 0) rfl) (pe_gs (T.str "ASKED" "asked")) (nomark _)))))
          (pss_one (ps_expr (pe_methD0 (pv 0) (T.cls "Asker") (T.meth "let_go") (d_letGo T) (hr.mono (by decide)) pass0))) pss_nil)))
      (pss_one (ps_ret (pe_lst pa_nil)))))), ?_⟩
    have A1 := A0
    obtain ⟨dx, se, hs, hx⟩ := A1
    refine ⟨_, rfl, x, _, _, rfl, hx, nm "settle", _, rfl, x, r, n, m, rfl, A0, fun H1 k1 A2 => ?_⟩
    have L1 := L0.kpx hx ne k1
    have A3 := A2
    obtain ⟨dx1, se1, hs1, hx1⟩ := A3
    have L2 := L1
    obtain ⟨dy, va, ra, hy, hva, hra⟩ := L2
    have o1 := ok.settled r
    -- an empty list at the end
    have nil : ∀ (H2 : Hp) (s2 : Ak), takenA n m l r = (none, s2) → Kp [x] H1 H2 → AskAt K H2 x n s2 → (tRet (tLst tNil)) { nx := fun _ H' => Q .non H', rt := Q } [some (.ref x), some (.ref y), some (.int r)] H2 := by
      intro H2 s2 e k2 B
      have B1 := B
      obtain ⟨dx2, se2, hs2, hx2⟩ := B1
      refine ⟨(by show 0 ≤ sizeLine; decide), fun a ha => ?_⟩
      refine q _ a ((k1.trans k2).new ha) ?_ ((k1.trans k2).free1 hx2 ha) ?_
      · rw [e]
        exact B.kp (Kp.new (Kp.refl [] H2) ha) (by simp)
      · rw [e]
        exact upd_same
    refine seqI (ifI (pvOr (pvNe (pvL T hy ll_receiver) (pvA T hx1 lk_name)) fun _ => pvOr (pvEq (pvA T hx1 lk_wait) pvC) fun _ => pvNe (pvL T hy ll_mark) (pvA T hx1 lk_wait)) ?_)
    cases b1 : tkB1 n (settled m r) l with
    | true =>
      rw [show (!decide (V.str l.receiver = V.str n) || (decide (V.int (settled m r).wait = V.int 0) || !decide (V.int l.mark = V.int (settled m r).wait))) = true from b1]
      exact iteT (nil H1 _ (if_pos b1) (Kp.refl _ _) A2)
    | false =>
      rw [show (!decide (V.str l.receiver = V.str n) || (decide (V.int (settled m r).wait = V.int 0) || !decide (V.int l.mark = V.int (settled m r).wait))) = false from b1]
      refine iteF ?_
      have t0 : takenA n m l r = if tkB2 (settled m r) l = true then (some (wantL n (settled m r) l), ⟨.wanting, (settled m r).marks + 1, (settled m r).marks + 1, r⟩)
          else if tkB3 (settled m r) l = true then (none, grantA (settled m r) l r) else if tkB4 (settled m r) l = true then (none, idleA (settled m r).marks) else (none, settled m r) := if_neg (by rw [b1]; decide)
      have hw : (settled m r).wait ≠ 0 := fun z => by
        have e : tkB1 n (settled m r) l = true := by
          show (!decide (V.str l.receiver = V.str n) || (decide (V.int (settled m r).wait = V.int 0) || !decide (V.int l.mark = V.int (settled m r).wait))) = true
          rw [z, decide_eq_true (rfl : V.int 0 = V.int 0), Bool.true_or, Bool.or_true]
        rw [e] at b1
        cases b1
      refine seqI (ifI (pvAnd (pvEq (pvL T hy ll_kind) pvC) fun _ => pvAnd (pvEq (pvA T hx1 lk_phase) pvC) fun _ => pvNotN (pvL T hy ll_number)) ?_)
      cases b2 : tkB2 (settled m r) l with
      | true =>
        rw [show (decide (V.str l.kind = V.str "offer") && (decide (V.str (settled m r).st.ph = V.str "asked") && !decide (oV l.number = V.non))) = true from b2]
        refine iteT ?_
        have ph : (settled m r).st.isH = false := by
          have z := (Bool.and_eq_true _ _ ▸ (Bool.and_eq_true _ _ ▸ b2).2).1
          have z2 := V.str.inj (of_decide_eq_true z)
          cases e : (settled m r).st with
          | hold a b c d e' => rw [e] at z2; exact absurd z2 (by decide +kernel : ¬ (("holding" : Str) = "asked"))
          | idle => rfl
          | asked => rfl
          | wanting => rfl
        obtain ⟨z1, z2, z3, z4, z5⟩ := noH_num ph
        refine seqI ?_
        refine ⟨_, rfl, _, _, _, _, rfl, hx1, T.cls "Asker", T.noat "Asker" "phase", len_afr, ?_⟩
        refine ⟨_, rfl, x, _, _, rfl, up_put pf_phase, nm "sent", _, rfl, ?_⟩
        refine ⟨_, rfl, _, _, _, _, _, rfl, ((upd_ne ne).trans hy), T.cls "Letter", T.noat "Letter" "number", ll_number, ?_⟩
        refine ⟨_, rfl, _, _, _, _, _, rfl, ((upd_ne ne).trans hy), T.cls "Letter", T.noat "Letter" "sender", ll_sender, ?_⟩
        refine ⟨rfl, rfl, x, dx1, n, "want", "", l.sender, (settled m r).marks, r, l.number, _, _, _, _, _, _, _, _, rfl, up_put pf_phase, sentOk kd_want hn (.inr rfl) o1 lok.number (.inl lok.sender), fun H' a y' k2 hx2 fa ha L => ?_⟩
        refine q H' a (k1.trans ((Kp.refl [x] H1).put (by simp) |>.trans k2)) ?_ (k1.free1 hx1 (free_upd fa)) ?_
        · rw [t0, if_pos b2]
          refine ⟨dx1, r, fun _ => rfl, ?_⟩
          rw [hx2, z1, z2, z3, z4, z5]
          rfl
        · rw [t0, if_pos b2]
          exact ⟨y', ha, L⟩
      | false =>
        rw [show (decide (V.str l.kind = V.str "offer") && (decide (V.str (settled m r).st.ph = V.str "asked") && !decide (oV l.number = V.non))) = false from b2]
        refine iteF ?_
        rw [if_neg (by rw [b2]; decide)] at t0
        refine seqI (ifI (pvAnd (pvEq (pvL T hy ll_kind) pvC) fun _ => pvNe (pvA T hx1 lk_phase) pvC) ?_)
        cases b3 : tkB3 (settled m r) l with
        | true =>
          rw [show (decide (V.str l.kind = V.str "grant") && !decide (V.str (settled m r).st.ph = V.str "asked")) = true from b3]
          refine iteT ?_
          refine ⟨_, rfl, x, _, _, rfl, hx1, nm "take_grant", _, rfl, _, rfl, x, y, r, n, settled m r, l, rfl, A2, hw, L1, ne, fun H2 k2 A4 => ?_⟩
          exact nil H2 _ (t0.trans (if_pos b3)) k2 A4
        | false =>
          rw [show (decide (V.str l.kind = V.str "grant") && !decide (V.str (settled m r).st.ph = V.str "asked")) = false from b3]
          refine iteF ?_
          rw [if_neg (by rw [b3]; decide)] at t0
          refine ifI (pvAnd (pvEq (pvL T hy ll_kind) pvC) fun _ => pvNe (pvA T hx1 lk_phase) pvC) ?_
          cases b4 : tkB4 (settled m r) l with
          | true =>
            rw [show (decide (V.str l.kind = V.str "deny") && !decide (V.str (settled m r).st.ph = V.str "asked")) = true from b4]
            refine iteT ?_
            refine ⟨_, rfl, x, _, _, rfl, hx1, nm "let_go", x, _, _, _, _, rfl, hx1, (by decide : 10 < 900), letF_full, fun H2 k2 e2 => ?_⟩
            exact nil H2 _ (t0.trans (if_pos b4)) k2 ⟨dx1, 0, fun _ => rfl, e2⟩
          | false =>
            rw [show (decide (V.str l.kind = V.str "deny") && !decide (V.str (settled m r).st.ph = V.str "asked")) = false from b4]
            refine iteF ?_
            exact nil H1 _ (t0.trans (if_neg (by rw [b4]; decide))) (Kp.refl _ _) A2
end
end K39
set_option Elab.async false
set_option linter.all false
set_option maxRecDepth 100000
set_option maxHeartbeats 4000000
/-! The law's own defs: the plain asker's list, plain letters. -/
namespace K39
open PySem PySem.Spec PyProof.Rows L2

/-! ### data -/
def meV (m : Ak) : List V := [.str m.st.ph, .int m.marks, .int m.wait, .int m.sent, oV m.st.num?, .str m.st.kpS, .int m.st.spn, .int m.st.lapI, oV m.st.till?]
abbrev MeAt (H : Hp) (p : Addr) (m : Ak) : Prop := H p = some (.lst (meV m))
def PLet (K : PySem.W.Frag) (H : Hp) (p : Addr) (l : Let) : Prop := ∃ va ra, H p = some (.lst (l.vals va ra)) ∧ SqT K H va [] ∧ SqT K H ra []
theorem PLet.same {K : PySem.W.Frag} {H H' : Hp} {p : Addr} {l : Let} (h : PLet K H p l) (k : Same H H') : PLet K H' p l := let ⟨va, ra, h1, h2, h3⟩ := h; ⟨va, ra, k _ _ h1, k.tup h2, k.tup h3⟩
def FoundAt (K : PySem.W.Frag) (H : Hp) (f : Addr) : Option Let → Prop
  | none => H f = some (.lst [])
  | some l => ∃ p, H f = some (.lst [.ref p]) ∧ PLet K H p l
section
variable {K : PySem.W.Frag} {σ : L2.St} {H : Hp} {i : Nat} {p : Addr} {xs : List V} {j : Int} {v : V}
theorem pvIx (h : H p = some (.lst xs)) (hs : σ[i]? = some (some (.ref p)) := by rfl) (e : atI xs j = some v := by rfl) : PvE (tOp (rIxL K) (tVar i) (tC (.int j))) σ H v :=
  fun Q q => ⟨_, hs, p, xs, j, v, rfl, rfl, SqL.of h, e, q⟩
end
section
variable {P : Program} {w : World} {K : PySem.W.Frag} {mg : Str → Option Value} {base : Heap}
/-! ### _law_idle, _law_settled -/
def spIdle : Sp := fun vs H Q _ => ∃ k : Int, vs = [.int k] ∧ ∀ (H' : Hp) (p : Addr), Same H H' → H p = none → MeAt H' p (idleA k) → Q (.ref p) H'
theorem sc_idle : FnScope ["_law_marks"] ["_law_marks"] (defScope sIdle) := ⟨rfl, rfl, rfl, by decide +kernel, rfl, by decide +kernel, by decide +kernel⟩
theorem d_idle (T : Tx w K mg) : DefAt P w K mg base CX0 1 (He.ga K "_law_idle") ["_law_marks"] [] spIdle := by
  obtain ⟨fd, F⟩ := T.g3 7 "_law_idle" sIdle
  refine ⟨⟨fd, [], ok0 F sc_idle (fun vs H Q E h => ?_) (fun cdv A outer s H vs Q E hr h => ?_), F.bindsN fun _ _ _ _ _ _ us hl => match us, hl with | [_], _ => rfl, .nil⟩, F.kp⟩
  · obtain ⟨k, rfl, _⟩ := h
    rfl
  · obtain ⟨k, rfl, q⟩ := h
    refine ⟨_, pss_one (ps_ret (pe_lst (pa_cons pe_str (pa_cons (pv 0) (pa_cons pe_int (pa_cons pe_int (pa_cons pe_non (pa_cons pe_str (pa_cons pe_int (pa_cons pe_int (pa_cons pe_non pa_nil))))))))))), ?_⟩
    exact ⟨_, rfl, (by show 9 ≤ sizeLine; decide), fun p hp => q _ p ((Same.refl H).new hp) hp upd_same⟩
def spSettled : Sp := fun vs H Q _ => ∃ (p : Addr) (r : Int) (m : Ak), vs = [.ref p, .int r] ∧ MeAt H p m ∧ ∀ (H' : Hp) (p' : Addr), Same H H' → H p' = none → MeAt H' p' (settled m r) → Q (.ref p') H'
theorem sc_settled : FnScope ["_law_me", "_law_reading"] ["_law_me", "_law_reading"] (defScope sSettled) := ⟨rfl, rfl, rfl, by decide +kernel, rfl, by decide +kernel, by decide +kernel⟩
theorem d_settled (T : Tx w K mg) : DefAt P w K mg base CX0 2 (He.ga K "_law_settled") ["_law_me", "_law_reading"] [] spSettled := by
  obtain ⟨fd, F⟩ := T.g3 8 "_law_settled" sSettled
  refine ⟨⟨fd, [], ok0 F sc_settled (fun vs H Q E h => ?_) (fun cdv A outer s H vs Q E hr h => ?_), F.bindsN fun _ _ _ _ _ _ us hl => match us, hl with | [_, _], _ => rfl, .nil⟩, F.kp⟩
  · obtain ⟨p, r, m, rfl, _⟩ := h
    rfl
  · obtain ⟨p, r, m, rfl, hp, q⟩ := h
    refine ⟨_, pss_cons (ps_if (PW.pt (pw_and (pt_cmpR op_eq (pe_ix ix_list (pv 0) pe_int (fun _ _ => rfl)) pe_str (nomark _)) (pw_and1 (pt_cmpR op_ge (pv 1) (pe_ix ix_list (pv 0) pe_int (fun _ _ => rfl)) (nomark _)))))
      (pss_one (ps_ret (pe_callD (d_idle T) hr (by rfl) (T.glo "_law_idle") pass0 (pa_cons (pe_ix ix_list (pv 0) pe_int (fun _ _ => rfl)) pa_nil)))) pss_nil)
      (pss_one (ps_ret (pe_callTy call_list_of (by rfl) (T.free "list") (by decide +kernel) (pa_cons (pv 0) pa_nil)))), ?_⟩
    have keep : settled m r = m → (tRet (tCB (fun xs H Q => ∃ p ys, xs = [V.ref p] ∧ (SqL K H p ys ∨ SqT K H p ys) ∧ ∀ l, H l = none → Q (.ref l) (upd H l (.lst ys))) (tCons (tVar 0) tNil))) { nx := fun _ H' => Q .non H', rt := Q } [some (.ref p), some (.int r)] H := by
      intro e
      refine ⟨_, rfl, p, _, rfl, .inl (SqL.of hp), fun l hl => ?_⟩
      refine q _ l ((Same.refl H).new hl) hl ?_
      rw [e]
      exact upd_same
    have e1 : PvT (tTest (tOp rEq (tOp (rIxL K) (tVar 0) (tC (.int 0))) (tC (.str "holding")))) [some (.ref p), some (.int r)] H m.st.isH := e_ph m.st ▸ pvEq (pvIx hp) pvC
    refine seqI (e1 _ ?_)
    obtain ⟨st, mk, wt, sn⟩ := m
    cases st with
    | idle => exact iteF (iteF (keep rfl))
    | asked => exact iteF (iteF (keep rfl))
    | wanting => exact iteF (iteF (keep rfl))
    | hold num till kp span lap =>
      refine iteT ⟨_, rfl, ?_⟩
      refine pvIx hp (v := .int till) rfl rfl _ ?_
      by_cases c : till ≤ r
      · have e : settled ⟨.hold num till kp span lap, mk, wt, sn⟩ r = idleA mk := if_pos c
        rw [e] at q
        refine ⟨_, _, rfl, rfl, true, congrArg V.bl (decide_eq_true c), iteT ?_⟩
        refine pvIx hp (v := .int mk) rfl rfl _ ?_
        exact ⟨mk, rfl, q⟩
      · refine ⟨_, _, rfl, rfl, false, congrArg V.bl (decide_eq_false c), iteF ?_⟩
        exact keep (if_neg c)

/-! ### _law_letter -/
abbrev psP : List Str := ["_law_kind", "_law_sender", "_law_receiver", "_law_tag", "_law_num", "_law_room", "_law_lap", "_law_gives", "_law_till", "_law_whom", "_law_lane"]
def spLetterP (K : PySem.W.Frag) : Sp := fun vs H Q _ => ∃ l : Let, vs = [.str l.kind, .str l.sender, .str l.receiver, .int l.mark, oV l.number, .int l.span, .int l.turn, .int 0, .non, .str l.who, .str l.link] ∧
  ∀ (H' : Hp) (p : Addr), Same H H' → H p = none → PLet K H' p l → Q (.ref p) H'
theorem sc_letterP : FnScope psP psP (defScope sLetter) := ⟨rfl, rfl, rfl, by decide +kernel, rfl, by decide +kernel, by decide +kernel⟩
abbrev FLetterP (K : PySem.W.Frag) (fd : FuncData) : Prop := FunD K "_law_letter" "_law_letter" (defArgs sLetter) (defBody sLetter) (defScope sLetter) (dLetter.dvs K) (dLetter.kws K) (He.ga K "_law_letter") fd
theorem ok_letterP (T : Tx w K mg) {fd : FuncData} (F : FLetterP K fd) : FnOk P w K mg base CX0 1 (He.ga K "_law_letter") fd psP (spLetterP K) := by
  refine ok0 F sc_letterP (fun vs H Q E h => ?_) (fun cdv A outer s H vs Q E hr h => ?_)
  · obtain ⟨l, rfl, _⟩ := h
    rfl
  · obtain ⟨l, rfl, q⟩ := h
    refine ⟨_, pss_one (ps_ret (pe_lst (pa_cons (pv 0) (pa_cons (pv 1) (pa_cons (pv 2) (pa_cons (pv 3) (pa_cons (pv 4) (pa_cons (pv 5) (pa_cons (pv 6) (pa_cons (pv 7) (pa_cons (pv 8) (pa_cons (pv 9) (pa_cons (pv 10) (pa_cons (pe_tup pa_nil) (pa_cons (pe_tup pa_nil) pa_nil))))))))))))))), ?_⟩
    refine ⟨_, rfl, _, rfl, _, rfl, _, rfl, _, rfl, _, rfl, _, rfl, _, rfl, _, rfl, _, rfl, _, rfl, (by show 0 ≤ sizeLine; decide), fun va hva => ⟨(by show 0 ≤ sizeLine; decide), fun ra hra => ⟨(by show 13 ≤ sizeLine; decide), fun p hp => ?_⟩⟩⟩
    have s2 : Same H (upd (upd H va (.tup [])) ra (.tup [])) := ((Same.refl H).new hva).new hra
    refine q _ p (s2.new hp) ((Kp.of_same (S := []) s2).free (fun _ z => nomatch z) hp) ⟨va, ra, upd_same, ?_, ?_⟩
    · exact SqT.of ((upd_ne (ne_of_none ((upd_ne (ne_of_none upd_same hra)).trans upd_same) hp)).trans ((upd_ne (ne_of_none upd_same hra)).trans upd_same))
    · exact SqT.of ((upd_ne (ne_of_none upd_same hp)).trans upd_same)
theorem d_letP (T : Tx w K mg) (n j : Nat) (hn : n + (8 - j) = 11)
    (h : ∀ (T : Addr) (kV doc pm : Value) (an : Option Addr) (cdv ct : Value) (us its : List Value), us.length = n → its.length = 8 →
      ∃ k, bindArgs (PySem.W.fnOf "_law_letter" "_law_letter" (defArgs sLetter) (defBody sLetter) (defScope sLetter) (.ref T) kV doc pm an cdv ct) ⟨us, []⟩ = seqItems? (.ref T) >>= k ∧ k (some its.toArray) = pure (psP.zip (us ++ its.drop j))) :
    DefAt P w K mg base CX0 1 (He.ga K "_law_letter") psP ((dLetter.dvs K).drop j) (spLetterP K) := by
  obtain ⟨fd, F⟩ := T.def3 3 (d := dLetter)
  obtain ⟨ds, r, B⟩ := FunD.binds1 (ps := psP) F n j (by simp [dLetter, He.DefD.dvs]) hn fun T kV doc pm an cdv ct us its l1 l2 => h T kV doc pm an cdv ct us its l1 l2
  exact ⟨⟨fd, ds, ok_letterP T F, B, r⟩, F.kp⟩
theorem d_let4 (T : Tx w K mg) : DefAt P w K mg base CX0 1 (He.ga K "_law_letter") psP ((dLetter.dvs K).drop 1) (spLetterP K) := d_letP T 4 1 rfl fun T kV doc pm an cdv ct us its l1 l2 => by
  match us, l1 with
  | [a, b, c, d], _ =>
    match its, l2 with
    | [i1, i2, i3, i4, i5, i6, i7, i8], _ => exact ⟨_, rfl, rfl⟩
theorem d_let5 (T : Tx w K mg) : DefAt P w K mg base CX0 1 (He.ga K "_law_letter") psP ((dLetter.dvs K).drop 2) (spLetterP K) := d_letP T 5 2 rfl fun T kV doc pm an cdv ct us its l1 l2 => by
  match us, l1 with
  | [a, b, c, d, e], _ =>
    match its, l2 with
    | [i1, i2, i3, i4, i5, i6, i7, i8], _ => exact ⟨_, rfl, rfl⟩
theorem d_let10 (T : Tx w K mg) : DefAt P w K mg base CX0 1 (He.ga K "_law_letter") psP ((dLetter.dvs K).drop 7) (spLetterP K) := d_letP T 10 7 rfl fun T kV doc pm an cdv ct us its l1 l2 => by
  match us, l1 with
  | [a, b, c, d, e, f, g, h, i, j], _ =>
    match its, l2 with
    | [i1, i2, i3, i4, i5, i6, i7, i8], _ => exact ⟨_, rfl, rfl⟩
theorem d_let11 (T : Tx w K mg) : DefAt P w K mg base CX0 1 (He.ga K "_law_letter") psP ((dLetter.dvs K).drop 8) (spLetterP K) := d_letP T 11 8 rfl fun T kV doc pm an cdv ct us its l1 l2 => by
  match us, l1 with
  | [a, b, c, d, e, f, g, h, i, j, k], _ =>
    match its, l2 with
    | [i1, i2, i3, i4, i5, i6, i7, i8], _ => exact ⟨_, rfl, rfl⟩
end
end K39
set_option Elab.async false
set_option linter.all false
set_option maxRecDepth 100000
set_option maxHeartbeats 4000000
/-! _law_plain, _law_written, _law_fields. -/
namespace K39
open PySem PySem.Spec PyProof.Rows L2

section
variable {P : Program} {w : World} {K : PySem.W.Frag} {mg : Str → Option Value} {base : Heap}
theorem ll_count {l : Let} {va ra : Addr} : List.lookup ("count" : Str) (l.flds va ra) = some (.int 0) := by kernel_rfl
theorem ll_end {l : Let} {va ra : Addr} : List.lookup ("end" : Str) (l.flds va ra) = some .non := by kernel_rfl
theorem ll_who {l : Let} {va ra : Addr} : List.lookup ("who" : Str) (l.flds va ra) = some (.str l.who) := by kernel_rfl
theorem ll_link {l : Let} {va ra : Addr} : List.lookup ("link" : Str) (l.flds va ra) = some (.str l.link) := by kernel_rfl
theorem ll_via {l : Let} {va ra : Addr} : List.lookup ("via" : Str) (l.flds va ra) = some (.ref va) := by kernel_rfl
theorem ll_rows {l : Let} {va ra : Addr} : List.lookup ("rows" : Str) (l.flds va ra) = some (.ref ra) := by kernel_rfl
def spPlain (K : PySem.W.Frag) : Sp := fun vs H Q _ => ∃ (y : Addr) (l : Let), vs = [.ref y] ∧ LetAt K H y l ∧ ∀ (H' : Hp) (p : Addr), Same H H' → H p = none → PLet K H' p l → Q (.ref p) H'
theorem sc_plain : FnScope ["_law_letter_here", "_law_one"] ["_law_letter_here"] (defScope sPlain) := ⟨rfl, rfl, rfl, by decide +kernel, rfl, by decide +kernel, by decide +kernel⟩
theorem d_plain (T : Tx w K mg) : DefAt P w K mg base CX0 1 (He.ga K "_law_plain") ["_law_letter_here"] [] (spPlain K) := by
  obtain ⟨fd, F⟩ := T.g3 4 "_law_plain" sPlain
  refine ⟨⟨fd, [], ok0 F sc_plain (fun vs H Q E h => ?_) (fun cdv A outer s H vs Q E hr h => ?_), F.bindsN fun _ _ _ _ _ _ us hl => match us, hl with | [_], _ => rfl, .nil⟩, F.kp⟩
  · obtain ⟨y, l, rfl, _⟩ := h
    rfl
  · obtain ⟨y, l, rfl, ⟨dy, va, ra, hy, hva, hra⟩, q⟩ := h
    refine ⟨_, pss_cons (ps_set (i := 1) sc_plain.nd rfl (.inl rfl) (pe_lst (pa_cons (pe_fld (pv 0) rfl) (pa_cons (pe_fld (pv 0) rfl) (pa_cons (pe_fld (pv 0) rfl) (pa_cons (pe_fld (pv 0) rfl) (pa_cons (pe_fld (pv 0) rfl) (pa_cons (pe_fld (pv 0) rfl) (pa_cons (pe_fld (pv 0) rfl) pa_nil)))))))))
      (pss_one (ps_ret (pe_op op_cat (pv 1) (pe_lst (pa_cons (pe_fld (pv 0) rfl) (pa_cons (pe_fld (pv 0) rfl) (pa_cons (pe_fld (pv 0) rfl) (pa_cons (pe_fld (pv 0) rfl) (pa_cons (pe_fld (pv 0) rfl) (pa_cons (pe_fld (pv 0) rfl) pa_nil)))))))))), ?_⟩
    refine seqI ?_
    refine ⟨_, rfl, _, _, _, _, _, rfl, hy, T.cls "Letter", T.noat "Letter" "kind", ll_kind, ?_⟩
    refine ⟨_, rfl, _, _, _, _, _, rfl, hy, T.cls "Letter", T.noat "Letter" "sender", ll_sender, ?_⟩
    refine ⟨_, rfl, _, _, _, _, _, rfl, hy, T.cls "Letter", T.noat "Letter" "receiver", ll_receiver, ?_⟩
    refine ⟨_, rfl, _, _, _, _, _, rfl, hy, T.cls "Letter", T.noat "Letter" "mark", ll_mark, ?_⟩
    refine ⟨_, rfl, _, _, _, _, _, rfl, hy, T.cls "Letter", T.noat "Letter" "number", ll_number, ?_⟩
    refine ⟨_, rfl, _, _, _, _, _, rfl, hy, T.cls "Letter", T.noat "Letter" "span", ll_span, ?_⟩
    refine ⟨_, rfl, _, _, _, _, _, rfl, hy, T.cls "Letter", T.noat "Letter" "turn", ll_turn, ?_⟩
    refine ⟨(by show 7 ≤ sizeLine; decide), fun p1 hp1 => ?_⟩
    have s1 := (Same.refl H).new (o := .lst [.str l.kind, .str l.sender, .str l.receiver, .int l.mark, oV l.number, .int l.span, .int l.turn]) hp1
    have hy1 := s1 _ _ hy
    refine ⟨_, rfl, ?_⟩
    refine ⟨_, rfl, _, _, _, _, _, rfl, hy1, T.cls "Letter", T.noat "Letter" "count", ll_count, ?_⟩
    refine ⟨_, rfl, _, _, _, _, _, rfl, hy1, T.cls "Letter", T.noat "Letter" "end", ll_end, ?_⟩
    refine ⟨_, rfl, _, _, _, _, _, rfl, hy1, T.cls "Letter", T.noat "Letter" "who", ll_who, ?_⟩
    refine ⟨_, rfl, _, _, _, _, _, rfl, hy1, T.cls "Letter", T.noat "Letter" "link", ll_link, ?_⟩
    refine ⟨_, rfl, _, _, _, _, _, rfl, hy1, T.cls "Letter", T.noat "Letter" "via", ll_via, ?_⟩
    refine ⟨_, rfl, _, _, _, _, _, rfl, hy1, T.cls "Letter", T.noat "Letter" "rows", ll_rows, ?_⟩
    refine ⟨(by show 6 ≤ sizeLine; decide), fun p2 hp2 => ?_⟩
    refine ⟨p1, p2, _, _, rfl, rfl, (upd_ne (ne_of_none upd_same hp2)).trans upd_same, upd_same, (by show 13 ≤ sizeLine; decide), fun p hp => ?_⟩
    have s3 := (s1.new (o := .lst [.int 0, .non, .str l.who, .str l.link, .ref va, .ref ra]) hp2)
    refine q _ p (s3.new hp) ((Kp.of_same (S := []) s3).free (fun _ z => nomatch z) hp) ⟨va, ra, upd_same, (s3.new hp).tup hva, (s3.new hp).tup hra⟩

/-! ### _law_written -/
def spWritten (K : PySem.W.Frag) : Sp := fun vs H Q _ => ∃ (p : Addr) (l : Let), vs = [.ref p] ∧ PLet K H p l ∧ LetOk l ∧ ∀ (H' : Hp) (y : Addr), Same H H' → H y = none → LetAt K H' y l → Q (.ref y) H'
abbrev nW : List Str := ["_law_fields_here", "_law_one", "_law_two", "_law_three", "_law_four", "_law_five", "_law_six", "_law_seven", "_law_eight", "_law_nine", "_law_ten"]
theorem sc_written : FnScope nW ["_law_fields_here"] (defScope sWritten) := ⟨rfl, rfl, rfl, by decide +kernel, rfl, by decide +kernel, by decide +kernel⟩
theorem cut1 (l : Let) (va ra : Addr) : cutV (l.vals va ra) none (some 4) = [.str l.kind, .str l.sender, .str l.receiver, .int l.mark] := by kernel_rfl
theorem cut2 (l : Let) (va ra : Addr) : cutV (l.vals va ra) (some 4) (some 7) = [oV l.number, .int l.span, .int l.turn] := by kernel_rfl
theorem cut3 (l : Let) (va ra : Addr) : cutV (l.vals va ra) (some 7) (some 10) = [.int 0, .non, .str l.who] := by kernel_rfl
theorem lst_at {H : Hp} {p : Addr} {xs ys : List V} (e : xs = ys) : (upd H p (.lst xs)) p = some (.lst ys) := by
  rw [e]
  exact upd_same
theorem d_written (T : Tx w K mg) : DefAt P w K mg base CX0 8 (He.ga K "_law_written") ["_law_fields_here"] [] (spWritten K) := by
  obtain ⟨fd, F⟩ := T.g3 5 "_law_written" sWritten
  refine ⟨⟨fd, [], ok0 F sc_written (fun vs H Q E h => ?_) (fun cdv A outer s H vs Q E hr h => ?_), F.bindsN fun _ _ _ _ _ _ us hl => match us, hl with | [_], _ => rfl, .nil⟩, F.kp⟩
  · obtain ⟨y, l, rfl, _⟩ := h
    rfl
  · obtain ⟨p, l, rfl, ⟨va, ra, hp, hva, hra⟩, L, q⟩ := h
    refine ⟨_, pss_cons (ps_asg (pe_slice sl_list (pv 0) po_none (po_some pe_int)) (pg_unl rfl (pgs_cons (pg_name (i := 1) sc_written.nd rfl (.inl rfl)) (pgs_cons (pg_name (i := 2) sc_written.nd rfl (.inl rfl)) (pgs_cons (pg_name (i := 3) sc_written.nd rfl (.inl rfl)) (pgs_cons (pg_name (i := 4) sc_written.nd rfl (.inl rfl)) pgs_nil))))))
      (pss_cons (ps_asg (pe_slice sl_list (pv 0) (po_some pe_int) (po_some pe_int)) (pg_unl rfl (pgs_cons (pg_name (i := 5) sc_written.nd rfl (.inl rfl)) (pgs_cons (pg_name (i := 6) sc_written.nd rfl (.inl rfl)) (pgs_cons (pg_name (i := 7) sc_written.nd rfl (.inl rfl)) pgs_nil)))))
      (pss_cons (ps_asg (pe_slice sl_list (pv 0) (po_some pe_int) (po_some pe_int)) (pg_unl rfl (pgs_cons (pg_name (i := 8) sc_written.nd rfl (.inl rfl)) (pgs_cons (pg_name (i := 9) sc_written.nd rfl (.inl rfl)) (pgs_cons (pg_name (i := 10) sc_written.nd rfl (.inl rfl)) pgs_nil)))))
      (pss_one (ps_ret (pe_makeKD (T.mkr "Letter") (d_letC T) hr (by rfl) (T.glo "Letter") pass0 (pa_cons (pv 1) (pa_cons (pv 2) (pa_cons (pv 3) pa_nil)))
        (pk_cons (pv 4) (pk_cons (pv 5) (pk_cons (pv 6) (pk_cons (pv 7) (pk_cons (pv 8) (pk_cons (pv 9) (pk_cons (pv 10) (pk_cons (pe_ix ix_list (pv 0) pe_int (fun _ _ => rfl)) (pk_cons (pe_ix ix_list (pv 0) pe_int (fun _ _ => rfl)) (pk_cons (pe_ix ix_list (pv 0) pe_int (fun _ _ => rfl)) pk_nil))))))))))))))), ?_⟩
    refine seqI ?_
    refine ⟨_, rfl, 4, rfl, p, _, rfl, SqL.of hp, fun p1 hp1 => ?_⟩
    have s1 : Same H (upd H p1 (.lst (cutV (l.vals va ra) none (some 4)))) := (Same.refl H).new hp1
    refine ⟨p1, _, rfl, SqL.of (lst_at (cut1 l va ra)), rfl, _, _, rfl, _, _, rfl, _, _, rfl, _, _, rfl, rfl, ?_⟩
    refine seqI ?_
    refine ⟨_, rfl, 4, rfl, 7, rfl, p, _, rfl, SqL.of (s1 _ _ hp), fun p2 hp2 => ?_⟩
    have s2 := s1.new (o := .lst (cutV (l.vals va ra) (some 4) (some 7))) hp2
    refine ⟨p2, _, rfl, SqL.of (lst_at (cut2 l va ra)), rfl, _, _, rfl, _, _, rfl, _, _, rfl, rfl, ?_⟩
    refine seqI ?_
    refine ⟨_, rfl, 7, rfl, 10, rfl, p, _, rfl, SqL.of (s2 _ _ hp), fun p3 hp3 => ?_⟩
    have s3 := s2.new (o := .lst (cutV (l.vals va ra) (some 7) (some 10))) hp3
    refine ⟨p3, _, rfl, SqL.of (lst_at (cut3 l va ra)), rfl, _, _, rfl, _, _, rfl, _, _, rfl, rfl, ?_⟩
    have hp4 := s3 _ _ hp
    refine ⟨_, rfl, _, rfl, _, rfl, _, rfl, _, rfl, _, rfl, _, rfl, _, rfl, _, rfl, _, rfl, ?_⟩
    refine ⟨_, rfl, p, _, 10, .str l.link, rfl, rfl, SqL.of hp4, rfl, ?_⟩
    refine ⟨_, rfl, p, _, 11, .ref va, rfl, rfl, SqL.of hp4, rfl, ?_⟩
    refine ⟨_, rfl, p, _, 12, .ref ra, rfl, rfl, SqL.of hp4, rfl, ?_⟩
    refine ⟨rfl, rfl, ?_⟩
    intro y dy ny nd ne
    refine ⟨y, dy, va, ra, l, rfl, L, ?_, ?_, upd_same, fun H5 k e => ⟨rfl, ?_⟩⟩
    · exact ((Same.refl _).new nd |>.new (by rw [upd_ne (Ne.symm ne)]; exact ny)).tup (s3.tup hva)
    · exact ((Same.refl _).new nd |>.new (by rw [upd_ne (Ne.symm ne)]; exact ny)).tup (s3.tup hra)
    obtain ⟨s5, A5⟩ := let_new2 ny nd ne (s3.tup hva) (s3.tup hra) k e
    exact q _ y (s3.trans s5) ((Kp.of_same (S := []) s3).free (fun _ z => nomatch z) ny) A5

/-! ### _law_fields -/
def spFields (K : PySem.W.Frag) : Sp := fun vs H Q _ => ∃ (a : Addr) (o : Option Let), vs = [.ref a] ∧ ToldAt K H a o ∧ ∀ (H' : Hp) (f : Addr), Kp [a] H H' → H f = none → FoundAt K H' f o → Q (.ref f) H'
abbrev nF : List Str := ["_law_told", "_law_found", "_law_letter_here"]
theorem sc_fields : FnScope nF ["_law_told"] (defScope sFields) := ⟨rfl, rfl, rfl, by decide +kernel, rfl, by decide +kernel, by decide +kernel⟩
theorem d_fields (T : Tx w K mg) : DefAt P w K mg base CX0 2 (He.ga K "_law_fields") ["_law_told"] [] (spFields K) := by
  obtain ⟨fd, F⟩ := T.g3 6 "_law_fields" sFields
  refine ⟨⟨fd, [], ok0 F sc_fields (fun vs H Q E h => ?_) (fun cdv A outer s H vs Q E hr h => ?_), F.bindsN fun _ _ _ _ _ _ us hl => match us, hl with | [_], _ => rfl, .nil⟩, F.kp⟩
  · obtain ⟨a, o, rfl, _⟩ := h
    rfl
  · obtain ⟨a, o, rfl, ht, q⟩ := h
    refine ⟨_, pss_cons (ps_if (pt_not (pt_val (pe_callB call_isi (by rfl) (T.free "isinstance") (by decide +kernel) (pa_cons (pv 0) (pa_cons (pe_bty (n := "list") (T.free "list")) pa_nil))))) pss_never pss_nil)
      (pss_cons (ps_setLc (i := 1) (own := [("_law_letter_here", 2)]) (g := gName 2) (tt := tYes) (by rfl) sc_fields.nd rfl rfl (sw_true rfl rfl rfl (by decide +kernel)) (pi_list (pv 0)) (blkOk_by (own := [("_law_letter_here", 2)]) (N := nF) (sc := defScope sFields) (by decide +kernel))
          (fun _ _ _ _ _ => pg_name (i := 2) sc_fields.nd rfl (Or.inl rfl)) (fun _ _ _ _ _ => pts_nil) (fun _ _ _ _ _ => pe_callD (d_plain T) hr (by rfl) (T.glo "_law_plain") pass0 (pa_cons (pv 2) pa_nil)))
      (pss_cons (ps_expr (pe_bm PySem.F.plainAttrs_list PySem.F.slot_list_append PySem.F.type_list_append mt_append (pv 0) (pa_cons pe_non pa_nil)))
      (pss_one (ps_ret (pv 1))))), ?_⟩
    obtain ⟨xs, hx, hxl⟩ : ∃ xs, H a = some (.lst xs) ∧ xs.length ≤ 1 := by
      cases o with
      | none => exact ⟨[], ht, by decide⟩
      | some l => obtain ⟨y, h1, h2⟩ := ht; exact ⟨_, h1, by simp⟩
    refine ⟨_, rfl, _, _, _, _, true, rfl, .ty _, .base (.lst hx), kit_ty (by decide +kernel), true, rfl, iteF ?_⟩
    refine ⟨_, rfl, a, rfl, ⟨_, SqL.of hx⟩, fun D hD => ?_⟩
    have s0 : Same H (upd H D (.lst [])) := (Same.refl H).new hD
    have na : a ≠ D := ne_of_none hx hD
    have hsz : xs.length < sizeLine := Nat.lt_of_le_of_lt hxl (by decide)
    have fin : ∀ H1, Same H H1 → FoundAt K H1 D o → (∃ ys, H1 D = some (.lst ys)) → (tSeq (tDrop (tBM K "list" rAppend (tVar 0) (tCons (tC .non) tNil))) (tRet (tVar 1))) { nx := fun _ H' => Q .non H', rt := Q } [some (.ref a), some (.ref D), none] H1 := by
      rintro H1 s1 hf ⟨ys, hys⟩
      refine seqI ⟨_, rfl, .inl ⟨rfl, _, SqL.of (s1 _ _ hx)⟩, a, _, _, rfl, rfl, s1 _ _ hx, hsz, ?_⟩
      refine ⟨_, rfl, ?_⟩
      refine q _ D ((Kp.of_same s1).put (by simp)) hD ?_
      cases o with
      | none => exact (upd_ne (Ne.symm na)).trans hf
      | some l =>
        obtain ⟨p, h1, va, ra, h2, h3, h4⟩ := hf
        obtain ⟨y, h5, h6⟩ := ht
        have npa : p ≠ a := fun c => by
          rw [c, s1 _ _ h5] at h2
          cases h2
        have k : Kp [a] H1 (upd H1 a (.lst (xs ++ [.non]))) := (Kp.refl _ _).put (by simp)
        have tp : ∀ {t : Addr}, SqT K H1 t [] → SqT K (upd H1 a (.lst (xs ++ [.non]))) t [] := fun {t} z => by
          rcases z with (z | ⟨ob, z⟩) | z
          · by_cases c : t = a
            · subst c; rw [s1 _ _ hx] at z; cases z
            · exact .inl (.inl ((upd_ne c).trans z))
          · by_cases c : t = a
            · subst c; rw [s1 _ _ hx] at z; cases z
            · exact .inl (.inr ⟨ob, (upd_ne c).trans z⟩)
          · exact .inr z
        exact ⟨p, (upd_ne (Ne.symm na)).trans h1, va, ra, (upd_ne npa).trans h2, tp h3, tp h4⟩
    cases o with
    | none =>
      have hx0 : H a = some (.lst []) := ht
      refine lc_list (K := K) (a := a) (xs := []) (fun i H' => H' D = some (.lst []) ∧ Same H H') ⟨upd_same, s0⟩ (fun i H1 _ h1 => SqL.of (h1.2 _ _ hx0)) (fun i x H1 hxi => by simp at hxi) ?_
      rintro H1 ⟨h1, h2⟩
      exact fin H1 h2 h1 ⟨_, h1⟩
    | some l =>
      obtain ⟨y, h5, h6⟩ := ht
      refine lc_list (K := K) (a := a) (xs := [.ref y]) (fun i H' => Same H H' ∧ ((i = 0 ∧ H' D = some (.lst [])) ∨ (i = 1 ∧ FoundAt K H' D (some l)))) ⟨s0, .inl ⟨rfl, upd_same⟩⟩ (fun i H1 _ h1 => SqL.of (h1.1 _ _ h5)) ?_ ?_
      · rintro i x H1 hxi ⟨s1, h7⟩
        rcases h7 with ⟨rfl, h7⟩ | ⟨rfl, h7⟩
        · obtain rfl := Option.some.inj hxi
          refine ⟨rfl, ?_⟩
          refine ⟨_, rfl, y, l, rfl, h6.kp s1, fun H2 p s2 hp P2 => ?_⟩
          refine ⟨[], s2 _ _ h7, (by show 0 < sizeLine; decide), (s1.trans s2).own hD, .inr ⟨rfl, p, upd_same, ?_⟩⟩
          obtain ⟨va, ra, g1, g2, g3⟩ := P2
          have npD : p ≠ D := (ne_of_none h7 hp).symm
          have tp : ∀ {t : Addr}, SqT K H2 t [] → SqT K (upd H2 D (.lst ([] ++ [.ref p]))) t [] := fun {t} z => by
            rcases z with (z | ⟨ob, z⟩) | z
            · by_cases c : t = D
              · subst c; rw [s2 _ _ h7] at z; cases z
              · exact .inl (.inl ((upd_ne c).trans z))
            · by_cases c : t = D
              · subst c; rw [s2 _ _ h7] at z; cases z
              · exact .inl (.inr ⟨ob, (upd_ne c).trans z⟩)
            · exact .inr z
          exact ⟨va, ra, (upd_ne npD).trans g1, tp g2, tp g3⟩
        · simp at hxi
      · rintro H1 ⟨s1, h7⟩
        rcases h7 with ⟨h8, _⟩ | ⟨_, h7⟩
        · simp at h8
        · obtain ⟨p, g1, g2⟩ := h7
          exact fin H1 s1 ⟨p, g1, g2⟩ ⟨_, g1⟩
end
end K39
set_option Elab.async false
set_option linter.all false
set_option maxRecDepth 100000
set_option maxHeartbeats 4000000
/-! _law_done, _law_taken. -/
namespace K39
open PySem PySem.Spec PyProof.Rows L2

/-! ### tests that may make a list on their way -/
abbrev PvS (t : TT) (σ : L2.St) (H : Hp) (b : Bool) : Prop := ∀ Q : Bool → Hp → Prop, (∀ H', Same H H' → Q b H') → t σ H Q
section
variable {t u : TT} {σ : L2.St} {H : Hp} {b c : Bool}
theorem pvS (a : PvT t σ H b) : PvS t σ H b := fun Q q => a Q (q H (Same.refl H))
theorem pvAndS (a : PvS t σ H b) (k : b = true → ∀ H', Same H H' → PvS u σ H' c) : PvS (tAnd t u) σ H (b && c) := fun Q q => a _ fun H1 s1 => by
  cases b with
  | true => exact iteT (k rfl H1 s1 _ fun H2 s2 => q H2 (s1.trans s2))
  | false => exact iteF (q H1 s1)
theorem ifS {A B : TS} {D : Ends} (h : PvS t σ H b) (q : ∀ H', Same H H' → if b = true then A D σ H' else B D σ H') : tIfS t A B D σ H := h _ q
end
def Hd.isWH : Hd → Bool
  | .wanting => true
  | .hold .. => true
  | _ => false
theorem inWH (s : Hd) : inV (.str s.ph) [.str "wanting", .str "holding"] = s.isWH := by
  cases s
  · exact (by decide +kernel : inV (.str ("idle" : Str)) [.str "wanting", .str "holding"] = false)
  · exact (by decide +kernel : inV (.str ("asked" : Str)) [.str "wanting", .str "holding"] = false)
  · exact (by decide +kernel : inV (.str ("wanting" : Str)) [.str "wanting", .str "holding"] = true)
  · exact (by decide +kernel : inV (.str ("holding" : Str)) [.str "wanting", .str "holding"] = true)
theorem pvIn {K : PySem.W.Frag} {σ : L2.St} {H : Hp} {p : Addr} {s : Ak} (h : MeAt H p s) (hs : σ[1]? = some (some (.ref p)) := by rfl) :
    PvS (tTest (tOp (rIn K false) (tOp (rIxL K) (tVar 1) (tC (.int 0))) (tLst (tCons (tC (.str "wanting")) (tCons (tC (.str "holding")) tNil))))) σ H s.st.isWH := by
  intro Q q
  refine ⟨_, hs, p, _, 0, .str s.st.ph, rfl, rfl, SqL.of h, rfl, (by show 2 ≤ sizeLine; decide), fun l hl => ?_⟩
  refine ⟨l, _, rfl, .inl (SqL.of upd_same), rfl, by decide +kernel, _, congrArg V.bl (inWH s.st), ?_⟩
  exact q _ ((Same.refl H).new hl)

theorem pvEqB {ta tb : TE} {σ : L2.St} {H : Hp} {x y : V} {b : Bool} (a : PvE ta σ H x) (k : PvE tb σ H y) (s : scal x y = true) (e : decide (x = y) = b) : PvT (tTest (tOp rEq ta tb)) σ H b := e ▸ pvEq a k s
/-! ### data -/
def doneS (n : Str) (s : Ak) (d : Deed) (r : Int) : Option Let × Ak :=
  match d with
  | .seek => if s.st.isH = true then (none, s) else (some ⟨"find", n, "", s.marks + 1, none, 0, 0, "", ""⟩, ⟨.asked, s.marks + 1, s.marks + 1, r⟩)
  | .renew => if s.st.isH = true then (some ⟨"renew", n, if s.st.dueS r = "all" then "" else s.st.kpS, s.marks + 1, s.st.num?, 0, 0, "", ""⟩, ⟨s.st, s.marks + 1, s.marks + 1, r⟩) else (none, s)
  | .free => if s.st.isH = true then (some (backL "free" n s), idleA s.marks) else (none, s)
  | .spoil => if s.st.isH = true then (some (backL "spoil" n s), idleA s.marks) else (none, s)
theorem doneA_eq (n : Str) (m : Ak) (d : Deed) (r : Int) : doneA n m d r = doneS n (settled m r) d r := by cases d <;> rfl
def takenS (n : Str) (s : Ak) (l : Let) (r : Int) : Option Let × Ak :=
  if tkB1 n s l = true then (none, s) else if tkB2 s l = true then (some (wantL n s l), ⟨.wanting, s.marks + 1, s.marks + 1, r⟩)
  else if tkB3 s l = true then (none, grantA s l r) else if tkB4 s l = true then (none, idleA s.marks) else (none, s)
theorem takenA_eq (n : Str) (m : Ak) (l : Let) (r : Int) : takenA n m l r = takenS n (settled m r) l r := rfl
def DueAt (K : PySem.W.Frag) (H : Hp) (v : V) : Option Let → Prop
  | none => v = .non
  | some l => ∃ f, v = .ref f ∧ FoundAt K H f (some l)
theorem cutM (m : Ak) : cutV (meV m) (some 4) none = [oV m.st.num?, .str m.st.kpS, .int m.st.spn, .int m.st.lapI, oV m.st.till?] := by kernel_rfl
theorem w_rs : decide (V.str "renew" = V.str "seek") = false := by decide +kernel
theorem w_fs : decide (V.str "free" = V.str "seek") = false := by decide +kernel
theorem w_ss : decide (V.str "spoil" = V.str "seek") = false := by decide +kernel
theorem w_fr : decide (V.str "free" = V.str "renew") = false := by decide +kernel
theorem w_sr : decide (V.str "spoil" = V.str "renew") = false := by decide +kernel
theorem e_all1 {t r s : Int} {n : Int} {k : Str} {l : Int} (c : 8 * (t - r) < s) : (Hd.hold n t k s l).dueS r = "all" := if_pos c
theorem e_all2 {t r s : Int} {n : Int} {k : Str} {l : Int} (c : ¬ 8 * (t - r) < s) : (Hd.hold n t k s l).dueS r ≠ "all" := by
  have e : (Hd.hold n t k s l).dueS r = if s < 2 * (t - r) then ("keep" : Str) else ("renew" : Str) := if_neg c
  rw [e]
  by_cases c2 : s < 2 * (t - r)
  · rw [if_pos c2]; decide +kernel
  · rw [if_neg c2]; decide +kernel

section
variable {P : Program} {w : World} {K : PySem.W.Frag} {mg : Str → Option Value} {base : Heap}
theorem PLet.new {H : Hp} {p q : Addr} {o : HO} {l : Let} (h : PLet K H p l) (hq : H q = none) : PLet K (upd H q o) p l := h.same ((Same.refl H).new hq)
def spDone (K : PySem.W.Frag) : Sp := fun vs H Q _ => ∃ (p : Addr) (r : Int) (n : Str) (m : Ak) (d : Deed), vs = [.str n, .ref p, .str d.word, .int r] ∧ MeAt H p m ∧
  ∀ (H' : Hp) (t pb : Addr) (dv : V), Same H H' → H' t = some (.tup [dv, .ref pb]) → MeAt H' pb (doneA n m d r).2 → DueAt K H' dv (doneA n m d r).1 → Q (.ref t) H'
abbrev nD : List Str := ["_law_name", "_law_me", "_law_deed", "_law_reading", "_law_tag", "_law_receiver"]
theorem sc_done : FnScope nD ["_law_name", "_law_me", "_law_deed", "_law_reading"] (defScope sDone) := ⟨rfl, rfl, rfl, by decide +kernel, rfl, by decide +kernel, by decide +kernel⟩
theorem d_done (T : Tx w K mg) : DefAt P w K mg base CX0 3 (He.ga K "_law_done") ["_law_name", "_law_me", "_law_deed", "_law_reading"] [] (spDone K) := by
  obtain ⟨fd, F⟩ := T.g3 9 "_law_done" sDone
  refine ⟨⟨fd, [], ok0 F sc_done (fun vs H Q E h => ?_) (fun cdv A outer s H vs Q E hr h => ?_), F.bindsN fun _ _ _ _ _ _ us hl => match us, hl with | [_, _, _, _], _ => rfl, .nil⟩, F.kp⟩
  · obtain ⟨p, r, n, m, d, rfl, _⟩ := h
    rfl
  · obtain ⟨p, r, n, m, d, rfl, hp, q⟩ := h
    refine ⟨_, pss_cons (ps_set (i := 1) sc_done.nd rfl (.inl rfl) (pe_callD (d_settled T) hr (by rfl) (T.glo "_law_settled") pass0 (pa_cons (pv 1) (pa_cons (pv 3) pa_nil))))
      (pss_cons (ps_if (pt_cmpR op_eq (pv 2) pe_str (nomark _))
        (pss_cons (ps_if (pt_cmpR op_eq (pe_ix ix_list (pv 1) pe_int (fun _ _ => rfl)) pe_str (nomark _)) (pss_one (ps_ret (pe_tup (pa_cons pe_non (pa_cons (pv 1) pa_nil))))) pss_nil)
        (pss_cons (ps_set (i := 4) sc_done.nd rfl (.inl rfl) (pe_op op_add (pe_ix ix_list (pv 1) pe_int (fun _ _ => rfl)) pe_int))
        (pss_one (ps_ret (pe_tup (pa_cons (pe_lst (pa_cons (pe_callD (d_let4 T) (hr.mono (by decide)) (by rfl) (T.glo "_law_letter") pass0 (pa_cons pe_str (pa_cons (pv 0) (pa_cons pe_str (pa_cons (pv 4) pa_nil))))) pa_nil))
          (pa_cons (pe_lst (pa_cons pe_str (pa_cons (pv 4) (pa_cons (pv 4) (pa_cons (pv 3) (pa_cons pe_non (pa_cons pe_str (pa_cons pe_int (pa_cons pe_int (pa_cons pe_non pa_nil)))))))))) pa_nil))))))) pss_nil)
      (pss_cons (ps_if (pt_cmpR op_ne (pe_ix ix_list (pv 1) pe_int (fun _ _ => rfl)) pe_str (nomark _)) (pss_one (ps_ret (pe_tup (pa_cons pe_non (pa_cons (pv 1) pa_nil))))) pss_nil)
      (pss_cons (ps_if (pt_cmpR op_eq (pv 2) pe_str (nomark _))
        (pss_cons (ps_set (i := 5) sc_done.nd rfl (.inl rfl) (pe_ifExp (pt_cmpR op_lt (pe_op op_mul pe_int (pe_op op_sub (pe_ix ix_list (pv 1) pe_int (fun _ _ => rfl)) (pv 3))) (pe_ix ix_list (pv 1) pe_int (fun _ _ => rfl)) (nomark _)) pe_str (pe_ix ix_list (pv 1) pe_int (fun _ _ => rfl))))
        (pss_cons (ps_set (i := 1) sc_done.nd rfl (.inl rfl) (pe_op op_cat (pe_lst (pa_cons (pe_ix ix_list (pv 1) pe_int (fun _ _ => rfl)) (pa_cons (pe_op op_add (pe_ix ix_list (pv 1) pe_int (fun _ _ => rfl)) pe_int) (pa_cons (pe_op op_add (pe_ix ix_list (pv 1) pe_int (fun _ _ => rfl)) pe_int) (pa_cons (pv 3) pa_nil)))))
          (pe_slice sl_list (pv 1) (po_some pe_int) po_none)))
        (pss_one (ps_ret (pe_tup (pa_cons (pe_lst (pa_cons (pe_callD (d_let5 T) (hr.mono (by decide)) (by rfl) (T.glo "_law_letter") pass0 (pa_cons pe_str (pa_cons (pv 0) (pa_cons (pv 5) (pa_cons (pe_ix ix_list (pv 1) pe_int (fun _ _ => rfl)) (pa_cons (pe_ix ix_list (pv 1) pe_int (fun _ _ => rfl)) pa_nil)))))) pa_nil)) (pa_cons (pv 1) pa_nil))))))) pss_nil)
      (pss_one (ps_ret (pe_tup (pa_cons (pe_lst (pa_cons (pe_callD (d_let10 T) (hr.mono (by decide)) (by rfl) (T.glo "_law_letter") pass0 (pa_cons (pv 2) (pa_cons (pv 0) (pa_cons (pe_ix ix_list (pv 1) pe_int (fun _ _ => rfl)) (pa_cons pe_int (pa_cons (pe_ix ix_list (pv 1) pe_int (fun _ _ => rfl)) (pa_cons pe_int (pa_cons (pe_ix ix_list (pv 1) pe_int (fun _ _ => rfl)) (pa_cons pe_int (pa_cons pe_non (pa_cons (pe_ix ix_list (pv 1) pe_int (fun _ _ => rfl)) pa_nil))))))))))) pa_nil))
        (pa_cons (pe_callD (d_idle T) (hr.mono (by decide)) (by rfl) (T.glo "_law_idle") pass0 (pa_cons (pe_ix ix_list (pv 1) pe_int (fun _ _ => rfl)) pa_nil)) pa_nil)))))))), ?_⟩
    refine seqI ⟨_, rfl, _, rfl, p, r, m, rfl, hp, fun H1 p1 s1 f1 hp1 => ?_⟩
    rw [doneA_eq] at q
    generalize settled m r = s at q hp1
    -- nothing is done
    have no : ∀ (σ : L2.St), σ[1]? = some (some (.ref p1)) → doneS n s d r = (none, s) → (tRet (tTup (tCons (tC .non) (tCons (tVar 1) tNil)))) { nx := fun _ H' => Q .non H', rt := Q } σ H1 := by
      intro σ hσ e
      refine ⟨_, hσ, (by show 2 ≤ sizeLine; decide), fun t ht => ?_⟩
      refine q _ t p1 .non (s1.new ht) upd_same ?_ ?_
      · rw [e]; exact (upd_ne (ne_of_none hp1 ht)).trans hp1
      · rw [e]; rfl
    have ph : ∀ (σ : L2.St), σ[1]? = some (some (.ref p1)) → PvT (tTest (tOp rEq (tOp (rIxL K) (tVar 1) (tC (.int 0))) (tC (.str "holding")))) σ H1 s.st.isH := fun σ hσ => e_ph s.st ▸ pvEq (pvIx hp1 hσ) pvC
    have ph2 : ∀ (σ : L2.St), σ[1]? = some (some (.ref p1)) → PvT (tTest (tOp rNe (tOp (rIxL K) (tVar 1) (tC (.int 0))) (tC (.str "holding")))) σ H1 (!s.st.isH) := fun σ hσ => e_ph s.st ▸ pvNe (pvIx hp1 hσ) pvC
    -- free, spoil
    have back : ∀ z : Str, doneS n s d r = (if s.st.isH = true then (some (backL z n s), idleA s.marks) else (none, s)) → s.st.isH = true →
        (tRet (tTup (tCons (tLst (tCons (tCall (spLetterP K) ((dLetter.dvs K).drop 7) E0 (tCons (tVar 2) (tCons (tVar 0) (tCons (tOp (rIxL K) (tVar 1) (tC (.int 5))) (tCons (tC (.int 0)) (tCons (tOp (rIxL K) (tVar 1) (tC (.int 4))) (tCons (tC (.int 0)) (tCons (tOp (rIxL K) (tVar 1) (tC (.int 7))) (tCons (tC (.int 0)) (tCons (tC .non) (tCons (tOp (rIxL K) (tVar 1) (tC (.int 5))) tNil))))))))))) tNil))
          (tCons (tCall spIdle [] E0 (tCons (tOp (rIxL K) (tVar 1) (tC (.int 1))) tNil)) tNil)))) { nx := fun _ H' => Q .non H', rt := Q } [some (.str n), some (.ref p1), some (.str z), some (.int r), none, none] H1 := by
      intro z e c
      rw [e, if_pos c] at q
      refine ⟨_, rfl, _, rfl, ?_⟩
      refine pvIx hp1 (v := .str s.st.kpS) rfl rfl _ ?_
      refine pvIx hp1 (v := oV s.st.num?) rfl rfl _ ?_
      refine pvIx hp1 (v := .int s.st.lapI) rfl rfl _ ?_
      refine pvIx hp1 (v := .str s.st.kpS) rfl rfl _ ?_
      refine ⟨backL z n s, rfl, fun H2 p2 s2 f2 P2 => ?_⟩
      refine ⟨(by show 1 ≤ sizeLine; decide), fun f hf => ?_⟩
      have hp2 : MeAt (upd H2 f (.lst [.ref p2])) p1 s := (s2.new hf) _ _ hp1
      refine pvIx hp2 (v := .int s.marks) rfl rfl _ ?_
      refine ⟨s.marks, rfl, fun H3 pb s3 f3 hpb => ?_⟩
      refine ⟨(by show 2 ≤ sizeLine; decide), fun t ht => ?_⟩
      have s4 := ((s1.trans (s2.new hf)).trans s3).new (o := .tup [.ref f, .ref pb]) ht
      refine q _ t pb (.ref f) s4 upd_same ((upd_ne (ne_of_none hpb ht)).trans hpb) ⟨f, rfl, p2, ?_, ?_⟩
      · exact ((Same.refl H3).new ht) _ _ (s3 _ _ upd_same)
      · exact ((P2.new hf).same s3).new ht
    cases d with
    | seek =>
      refine seqI (ifI (b := true) (pvEqB (pvV rfl) pvC rfl (e_self _)) (iteT ?_))
      cases c : s.st.isH with
      | true =>
        refine seqI (ifI (ph _ rfl) ?_)
        rw [c]
        exact iteT (no _ rfl (if_pos c))
      | false =>
        refine seqI (ifI (ph _ rfl) ?_)
        rw [c]
        refine iteF (seqI ?_)
        refine pvIx hp1 (v := .int s.marks) rfl rfl _ ?_
        refine ⟨_, _, rfl, rfl, ?_⟩
        have e : doneS n s .seek r = (some ⟨"find", n, "", s.marks + 1, none, 0, 0, "", ""⟩, ⟨.asked, s.marks + 1, s.marks + 1, r⟩) := if_neg (by rw [c]; decide)
        rw [e] at q
        refine ⟨_, rfl, _, rfl, ⟨"find", n, "", s.marks + 1, none, 0, 0, "", ""⟩, rfl, fun H2 p2 s2 f2 P2 => ?_⟩
        refine ⟨(by show 1 ≤ sizeLine; decide), fun f hf => ?_⟩
        refine ⟨_, rfl, _, rfl, _, rfl, (by show 9 ≤ sizeLine; decide), fun pb hpb => ?_⟩
        refine ⟨(by show 2 ≤ sizeLine; decide), fun t ht => ?_⟩
        have s4 := (((s1.trans s2).new (o := .lst [.ref p2]) hf).new hpb).new (o := .tup [.ref f, .ref pb]) ht
        refine q _ t pb (.ref f) s4 upd_same ((upd_ne (ne_of_none upd_same ht)).trans upd_same) ⟨f, rfl, p2, ?_, ?_⟩
        · exact (upd_ne (ne_of_none ((upd_ne (ne_of_none upd_same hpb)).trans upd_same) ht)).trans ((upd_ne (ne_of_none upd_same hpb)).trans upd_same)
        · exact ((P2.new hf).new hpb).new ht
    | renew =>
      refine seqI (ifI (b := false) (pvEqB (pvV rfl) pvC rfl w_rs) (iteF ?_))
      refine seqI (ifI (ph2 _ rfl) ?_)
      cases c : s.st.isH with
      | false => exact iteT (no _ rfl (if_neg (by rw [c]; decide)))
      | true =>
        refine iteF ?_
        refine seqI (ifI (b := true) (pvEqB (pvV rfl) pvC rfl (e_self _)) (iteT ?_))
        have e : doneS n s .renew r = (some ⟨"renew", n, if s.st.dueS r = "all" then "" else s.st.kpS, s.marks + 1, s.st.num?, 0, 0, "", ""⟩, ⟨s.st, s.marks + 1, s.marks + 1, r⟩) := if_pos c
        rw [e] at q
        obtain ⟨st, mk, wt, sn⟩ := s
        cases st with
        | idle => cases c
        | asked => cases c
        | wanting => cases c
        | hold num till kp span lap =>
          have go : ∀ z : Str, z = (if (Hd.hold num till kp span lap).dueS r = "all" then ("" : Str) else kp) → (tSeq (tAsg (tOp rCat (tLst (tCons (tOp (rIxL K) (tVar 1) (tC (.int 0))) (tCons (tOp (rI0 fun i j => .int (i + j)) (tOp (rIxL K) (tVar 1) (tC (.int 1))) (tC (.int 1))) (tCons (tOp (rI0 fun i j => .int (i + j)) (tOp (rIxL K) (tVar 1) (tC (.int 1))) (tC (.int 1))) (tCons (tVar 3) tNil)))))
              (tSl (rSlL K) (tVar 1) (tPart (tC (.int 4))) tNoPart)) (gName 1))
              (tRet (tTup (tCons (tLst (tCons (tCall (spLetterP K) ((dLetter.dvs K).drop 2) E0 (tCons (tC (.str "renew")) (tCons (tVar 0) (tCons (tVar 5) (tCons (tOp (rIxL K) (tVar 1) (tC (.int 1))) (tCons (tOp (rIxL K) (tVar 1) (tC (.int 4))) tNil)))))) tNil)) (tCons (tVar 1) tNil))))) { nx := fun _ H' => Q .non H', rt := Q } [some (.str n), some (.ref p1), some (.str "renew"), some (.int r), none, some (.str z)] H1 := by
            intro z ez
            refine seqI ?_
            refine pvIx hp1 (v := .str "holding") rfl rfl _ ?_
            refine pvIx hp1 (v := .int mk) rfl rfl _ ?_
            refine ⟨_, _, rfl, rfl, ?_⟩
            refine pvIx hp1 (v := .int mk) rfl rfl _ ?_
            refine ⟨_, _, rfl, rfl, _, rfl, (by show 4 ≤ sizeLine; decide), fun l1 hl1 => ?_⟩
            have hp2 : MeAt (upd H1 l1 (.lst [.str "holding", .int (mk + 1), .int (mk + 1), .int r])) p1 ⟨.hold num till kp span lap, mk, wt, sn⟩ := (upd_ne (ne_of_none hp1 hl1)).trans hp1
            refine ⟨_, rfl, 4, rfl, p1, _, rfl, SqL.of hp2, fun l2 hl2 => ?_⟩
            refine ⟨l1, l2, _, _, rfl, rfl, (upd_ne (ne_of_none upd_same hl2)).trans upd_same, lst_at (cutM _), (by show 9 ≤ sizeLine; decide), fun pb hpb => ?_⟩
            have s3 := ((s1.new (o := .lst [.str "holding", .int (mk + 1), .int (mk + 1), .int r]) hl1).new (o := .lst (cutV (meV ⟨.hold num till kp span lap, mk, wt, sn⟩) (some 4) none)) hl2).new (o := .lst (meV ⟨.hold num till kp span lap, mk + 1, mk + 1, r⟩)) hpb
            have hpb' : MeAt (upd (upd (upd H1 l1 (.lst [.str "holding", .int (mk + 1), .int (mk + 1), .int r])) l2 (.lst (cutV (meV ⟨.hold num till kp span lap, mk, wt, sn⟩) (some 4) none))) pb (.lst (meV ⟨.hold num till kp span lap, mk + 1, mk + 1, r⟩))) pb ⟨.hold num till kp span lap, mk + 1, mk + 1, r⟩ := upd_same
            refine ⟨_, rfl, _, rfl, ?_⟩
            refine pvIx hpb' (v := .int (mk + 1)) rfl rfl _ ?_
            refine pvIx hpb' (v := .int num) rfl rfl _ ?_
            refine ⟨⟨"renew", n, z, mk + 1, some num, 0, 0, "", ""⟩, rfl, fun H2 p2 s2 f2 P2 => ?_⟩
            refine ⟨(by show 1 ≤ sizeLine; decide), fun f hf => ?_⟩
            refine ⟨_, rfl, (by show 2 ≤ sizeLine; decide), fun t ht => ?_⟩
            have s5 := (s2.new (o := .lst [.ref p2]) hf).new (o := .tup [.ref f, .ref pb]) ht
            refine q _ t pb (.ref f) (s3.trans s5) upd_same (s5 _ _ hpb') ⟨f, rfl, p2, (upd_ne (ne_of_none upd_same ht)).trans upd_same, ?_⟩
            have P3 := (P2.new hf (o := .lst [.ref p2])).new ht (o := .tup [.ref f, .ref pb])
            rw [ez] at P3
            exact P3
          refine seqI ?_
          refine pvIx hp1 (v := .int till) rfl rfl _ ?_
          refine ⟨_, rfl, _, _, rfl, rfl, _, _, rfl, rfl, .inl (by decide), ?_⟩
          refine pvIx hp1 (v := .int span) rfl rfl _ ?_
          by_cases c2 : 8 * (till - r) < span
          · refine ⟨_, _, rfl, rfl, true, congrArg V.bl (decide_eq_true c2), iteT ?_⟩
            exact go "" (if_pos (e_all1 c2)).symm
          · refine ⟨_, _, rfl, rfl, false, congrArg V.bl (decide_eq_false c2), iteF ?_⟩
            refine pvIx hp1 (v := .str kp) rfl rfl _ ?_
            exact go kp (if_neg (e_all2 c2)).symm
    | free =>
      refine seqI (ifI (b := false) (pvEqB (pvV rfl) pvC rfl w_fs) (iteF ?_))
      refine seqI (ifI (ph2 _ rfl) ?_)
      cases c : s.st.isH with
      | false => exact iteT (no _ rfl (if_neg (by rw [c]; decide)))
      | true =>
        refine iteF ?_
        refine seqI (ifI (b := false) (pvEqB (pvV rfl) pvC rfl w_fr) (iteF ?_))
        exact back "free" rfl c
    | spoil =>
      refine seqI (ifI (b := false) (pvEqB (pvV rfl) pvC rfl w_ss) (iteF ?_))
      refine seqI (ifI (ph2 _ rfl) ?_)
      cases c : s.st.isH with
      | false => exact iteT (no _ rfl (if_neg (by rw [c]; decide)))
      | true =>
        refine iteF ?_
        refine seqI (ifI (b := false) (pvEqB (pvV rfl) pvC rfl w_sr) (iteF ?_))
        exact back "spoil" rfl c
end
end K39
set_option Elab.async false
set_option linter.all false
set_option maxRecDepth 100000
set_option maxHeartbeats 4000000
/-! _law_taken. -/
namespace K39
open PySem PySem.Spec PyProof.Rows L2

theorem wh_of {s : Hd} (h : s ≠ .idle) : s.isWH = !decide (V.str s.ph = V.str "asked") := by
  cases s with
  | idle => exact absurd rfl h
  | asked => exact (by decide +kernel : false = !decide (V.str ("asked" : Str) = V.str "asked"))
  | wanting => exact (by decide +kernel : true = !decide (V.str ("wanting" : Str) = V.str "asked"))
  | hold a b c d e => exact (by decide +kernel : true = !decide (V.str ("holding" : Str) = V.str "asked"))
theorem pvGt0 {ta : TE} {σ : L2.St} {H : Hp} {i j : Int} (a : PvE ta σ H (.int i)) : PvT (tTest (tOp (rI0 fun i j => .bl (decide (j < i))) ta (tC (.int j)))) σ H (decide (j < i)) := fun Q q => a _ ⟨i, j, rfl, rfl, _, rfl, q⟩
section
variable {P : Program} {w : World} {K : PySem.W.Frag} {mg : Str → Option Value} {base : Heap}
def spTaken (K : PySem.W.Frag) : Sp := fun vs H Q _ => ∃ (p f : Addr) (r : Int) (n : Str) (m : Ak) (l : Let), vs = [.str n, .ref p, .ref f, .int r] ∧ MeAt H p m ∧ PLet K H f l ∧ 0 ≤ l.span ∧ ((settled m r).st = .idle → (settled m r).wait = 0) ∧
  ∀ (H' : Hp) (t g pb : Addr), Same H H' → H' t = some (.tup [.ref g, .ref pb]) → FoundAt K H' g (takenA n m l r).1 → MeAt H' pb (takenA n m l r).2 → Q (.ref t) H'
abbrev nT : List Str := ["_law_name", "_law_me", "_law_fields_here", "_law_reading", "_law_kind", "_law_sender", "_law_receiver", "_law_tag", "_law_num", "_law_room", "_law_lap", "_law_due", "_law_till"]
theorem sc_taken : FnScope nT ["_law_name", "_law_me", "_law_fields_here", "_law_reading"] (defScope sTaken) := ⟨rfl, rfl, rfl, by decide +kernel, rfl, by decide +kernel, by decide +kernel⟩
theorem d_taken (T : Tx w K mg) : DefAt P w K mg base CX0 3 (He.ga K "_law_taken") ["_law_name", "_law_me", "_law_fields_here", "_law_reading"] [] (spTaken K) := by
  obtain ⟨fd, F⟩ := T.g3 10 "_law_taken" sTaken
  refine ⟨⟨fd, [], ok0 F sc_taken (fun vs H Q E h => ?_) (fun cdv A outer s H vs Q E hr h => ?_), F.bindsN fun _ _ _ _ _ _ us hl => match us, hl with | [_, _, _, _], _ => rfl, .nil⟩, F.kp⟩
  · obtain ⟨p, f, r, n, m, l, rfl, _⟩ := h
    rfl
  · obtain ⟨p, f, r, n, m, l, rfl, hp, PL, hsp, h0, q⟩ := h
    refine ⟨_, pss_cons (ps_set (i := 1) sc_taken.nd rfl (.inl rfl) (pe_callD (d_settled T) hr (by rfl) (T.glo "_law_settled") pass0 (pa_cons (pv 1) (pa_cons (pv 3) pa_nil))))
      (pss_cons (ps_asg (pe_slice sl_list (pv 2) po_none (po_some pe_int)) (pg_unl rfl (pgs_cons (pg_name (i := 4) sc_taken.nd rfl (.inl rfl)) (pgs_cons (pg_name (i := 5) sc_taken.nd rfl (.inl rfl)) (pgs_cons (pg_name (i := 6) sc_taken.nd rfl (.inl rfl)) (pgs_cons (pg_name (i := 7) sc_taken.nd rfl (.inl rfl)) pgs_nil))))))
      (pss_cons (ps_asg (pe_slice sl_list (pv 2) (po_some pe_int) (po_some pe_int)) (pg_unl rfl (pgs_cons (pg_name (i := 8) sc_taken.nd rfl (.inl rfl)) (pgs_cons (pg_name (i := 9) sc_taken.nd rfl (.inl rfl)) (pgs_cons (pg_name (i := 10) sc_taken.nd rfl (.inl rfl)) pgs_nil)))))
      (pss_cons (ps_if (PW.pt (pw_or (pt_cmpR op_ne (pv 6) (pv 0) (nomark _)) (pw_or (pt_cmpR op_eq (pe_ix ix_list (pv 1) pe_int (fun _ _ => rfl)) pe_int (nomark _)) (pw_or1 (pt_cmpR op_ne (pv 7) (pe_ix ix_list (pv 1) pe_int (fun _ _ => rfl)) (nomark _))))))
        (pss_one (ps_ret (pe_tup (pa_cons (pe_lst pa_nil) (pa_cons (pv 1) pa_nil))))) pss_nil)
      (pss_cons (ps_if (PW.pt (pw_and (pt_cmpR op_eq (pv 4) pe_str (nomark _)) (pw_and (pt_cmpR op_eq (pe_ix ix_list (pv 1) pe_int (fun _ _ => rfl)) pe_str (nomark _)) (pw_and1 (pt_cmp (pc_notN (pv 8)))))))
        (pss_cons (ps_set (i := 7) sc_taken.nd rfl (.inl rfl) (pe_op op_add (pe_ix ix_list (pv 1) pe_int (fun _ _ => rfl)) pe_int))
        (pss_cons (ps_set (i := 11) sc_taken.nd rfl (.inl rfl) (pe_callD (d_let10 T) (hr.mono (by decide)) (by rfl) (T.glo "_law_letter") pass0 (pa_cons pe_str (pa_cons (pv 0) (pa_cons pe_str (pa_cons (pv 7) (pa_cons (pv 8) (pa_cons pe_int (pa_cons pe_int (pa_cons pe_int (pa_cons pe_non (pa_cons (pv 5) pa_nil))))))))))))
        (pss_one (ps_ret (pe_tup (pa_cons (pe_lst (pa_cons (pv 11) pa_nil)) (pa_cons (pe_lst (pa_cons pe_str (pa_cons (pv 7) (pa_cons (pv 7) (pa_cons (pv 3) (pa_cons pe_non (pa_cons pe_str (pa_cons pe_int (pa_cons pe_int (pa_cons pe_non pa_nil)))))))))) pa_nil))))))) pss_nil)
      (pss_cons (ps_if (PW.pt (pw_and (pt_cmpR op_eq (pv 4) pe_str (nomark _)) (pw_and (pt_cmpR op_in_seq (pe_ix ix_list (pv 1) pe_int (fun _ _ => rfl)) (pe_lst (pa_cons pe_str (pa_cons pe_str pa_nil))) (by rfl)) (pw_and (pt_cmp (pc_notN (pv 8))) (pw_and1 (pt_cmpR op_gt (pv 9) pe_int (nomark _)))))))
        (pss_cons (ps_set (i := 12) sc_taken.nd rfl (.inl rfl) (pe_op op_add (pe_ix ix_list (pv 1) pe_int (fun _ _ => rfl)) (pv 9)))
        (pss_cons (ps_if (PW.pt (pw_and (pt_cmpR op_eq (pe_ix ix_list (pv 1) pe_int (fun _ _ => rfl)) pe_str (nomark _)) (pw_and1 (pt_cmpR op_eq (pv 8) (pe_ix ix_list (pv 1) pe_int (fun _ _ => rfl)) (nomark _)))))
          (pss_one (ps_set (i := 12) sc_taken.nd rfl (.inl rfl) (pe_callB (call_max2 rfl) (by rfl) (T.free "max") (by decide +kernel) (pa_cons (pv 12) (pa_cons (pe_ix ix_list (pv 1) pe_int (fun _ _ => rfl)) pa_nil))))) pss_nil)
        (pss_cons (ps_set (i := 1) sc_taken.nd rfl (.inl rfl) (pe_lst (pa_cons pe_str (pa_cons (pe_ix ix_list (pv 1) pe_int (fun _ _ => rfl)) (pa_cons pe_int (pa_cons pe_int (pa_cons (pv 8) (pa_cons (pv 5) (pa_cons (pv 9) (pa_cons (pv 10) (pa_cons (pv 12) pa_nil)))))))))))
        (pss_one (ps_ret (pe_tup (pa_cons (pe_lst pa_nil) (pa_cons (pe_callD (d_settled T) hr (by rfl) (T.glo "_law_settled") pass0 (pa_cons (pv 1) (pa_cons (pv 3) pa_nil))) pa_nil)))))))) pss_nil)
      (pss_cons (ps_if (PW.pt (pw_and (pt_cmpR op_eq (pv 4) pe_str (nomark _)) (pw_and1 (pt_cmpR op_in_seq (pe_ix ix_list (pv 1) pe_int (fun _ _ => rfl)) (pe_lst (pa_cons pe_str (pa_cons pe_str pa_nil))) (by rfl)))))
        (pss_one (ps_ret (pe_tup (pa_cons (pe_lst pa_nil) (pa_cons (pe_callD (d_idle T) (hr.mono (by decide)) (by rfl) (T.glo "_law_idle") pass0 (pa_cons (pe_ix ix_list (pv 1) pe_int (fun _ _ => rfl)) pa_nil)) pa_nil))))) pss_nil)
      (pss_one (ps_ret (pe_tup (pa_cons (pe_lst pa_nil) (pa_cons (pv 1) pa_nil))))))))))), ?_⟩
    refine seqI ⟨_, rfl, _, rfl, p, r, m, rfl, hp, fun H1 p1 s1 f1 hp1 => ?_⟩
    rw [takenA_eq] at q
    generalize settled m r = s at q hp1 h0
    obtain ⟨va, ra, hf, hva, hra⟩ := PL
    refine seqI ?_
    refine ⟨_, rfl, 4, rfl, f, _, rfl, SqL.of (s1 _ _ hf), fun c1 hc1 => ?_⟩
    have s2 := s1.new (o := .lst (cutV (l.vals va ra) none (some 4))) hc1
    refine ⟨c1, _, rfl, SqL.of (lst_at (cut1 l va ra)), rfl, _, _, rfl, _, _, rfl, _, _, rfl, _, _, rfl, rfl, ?_⟩
    refine seqI ?_
    refine ⟨_, rfl, 4, rfl, 7, rfl, f, _, rfl, SqL.of (s2 _ _ hf), fun c2 hc2 => ?_⟩
    have s3 := s2.new (o := .lst (cutV (l.vals va ra) (some 4) (some 7))) hc2
    have hp3 : MeAt (upd (upd H1 c1 (.lst (cutV (l.vals va ra) none (some 4)))) c2 (.lst (cutV (l.vals va ra) (some 4) (some 7)))) p1 s := ((Same.refl H1).new hc1 |>.new hc2) _ _ hp1
    refine ⟨c2, _, rfl, SqL.of (lst_at (cut2 l va ra)), rfl, _, _, rfl, _, _, rfl, _, _, rfl, rfl, ?_⟩
    generalize upd (upd H1 c1 (.lst (cutV (l.vals va ra) none (some 4)))) c2 (.lst (cutV (l.vals va ra) (some 4) (some 7))) = H3 at s3 hp3
    -- no letter, me as it is
    have nil : ∀ (H4 : Hp), Same H3 H4 → takenS n s l r = (none, s) → (tRet (tTup (tCons (tLst tNil) (tCons (tVar 1) tNil)))) { nx := fun _ H' => Q .non H', rt := Q } [some (.str n), some (.ref p1), some (.ref f), some (.int r), some (.str l.kind), some (.str l.sender), some (.str l.receiver), some (.int l.mark), some (oV l.number), some (.int l.span), some (.int l.turn), none, none] H4 := by
      intro H4 s4 e
      refine ⟨(by show 0 ≤ sizeLine; decide), fun g hg => ?_⟩
      refine ⟨_, rfl, (by show 2 ≤ sizeLine; decide), fun t ht => ?_⟩
      have hp4 := s4 _ _ hp3
      refine q _ t g p1 (((s3.trans s4).new (o := .lst []) hg).new (o := .tup [.ref g, .ref p1]) ht) upd_same ?_ ?_
      · rw [e]; exact (upd_ne (ne_of_none upd_same ht)).trans upd_same
      · rw [e]; exact ((Same.refl H4).new hg |>.new ht) _ _ hp4
    refine seqI (ifI (pvOr (pvNe (pvV rfl) (pvV rfl)) fun _ => pvOr (pvEq (pvIx hp3 (v := .int s.wait)) pvC) fun _ => pvNe (pvV rfl) (pvIx hp3 (v := .int s.wait))) ?_)
    cases b1 : tkB1 n s l with
    | true =>
      rw [show (!decide (V.str l.receiver = V.str n) || (decide (V.int s.wait = V.int 0) || !decide (V.int l.mark = V.int s.wait))) = true from b1]
      exact iteT (nil H3 (Same.refl _) (if_pos b1))
    | false =>
      rw [show (!decide (V.str l.receiver = V.str n) || (decide (V.int s.wait = V.int 0) || !decide (V.int l.mark = V.int s.wait))) = false from b1]
      refine iteF ?_
      have t0 : takenS n s l r = if tkB2 s l = true then (some (wantL n s l), ⟨.wanting, s.marks + 1, s.marks + 1, r⟩)
          else if tkB3 s l = true then (none, grantA s l r) else if tkB4 s l = true then (none, idleA s.marks) else (none, s) := if_neg (by rw [b1]; decide)
      have hw : s.wait ≠ 0 := fun z => by
        have e : tkB1 n s l = true := by
          show (!decide (V.str l.receiver = V.str n) || (decide (V.int s.wait = V.int 0) || !decide (V.int l.mark = V.int s.wait))) = true
          rw [z, decide_eq_true (rfl : V.int 0 = V.int 0), Bool.true_or, Bool.or_true]
        rw [e] at b1
        cases b1
      have ni : s.st ≠ .idle := fun z => hw (h0 z)
      have ewh := wh_of ni
      refine seqI (ifI (pvAnd (pvEq (pvV rfl) pvC) fun _ => pvAnd (pvEq (pvIx hp3 (v := .str s.st.ph)) pvC) fun _ => pvNotN (pvV rfl)) ?_)
      cases b2 : tkB2 s l with
      | true =>
        rw [show (decide (V.str l.kind = V.str "offer") && (decide (V.str s.st.ph = V.str "asked") && !decide (oV l.number = V.non))) = true from b2]
        refine iteT ?_
        rw [if_pos b2] at t0
        rw [t0] at q
        refine seqI ?_
        refine pvIx hp3 (v := .int s.marks) rfl rfl _ ?_
        refine ⟨_, _, rfl, rfl, ?_⟩
        refine seqI ?_
        refine ⟨_, rfl, _, rfl, _, rfl, _, rfl, wantL n s l, rfl, fun H5 p2 s5 f5 P2 => ?_⟩
        refine ⟨_, rfl, (by show 1 ≤ sizeLine; decide), fun g hg => ?_⟩
        refine ⟨_, rfl, _, rfl, _, rfl, (by show 9 ≤ sizeLine; decide), fun pb hpb => ?_⟩
        refine ⟨(by show 2 ≤ sizeLine; decide), fun t ht => ?_⟩
        have s6 := (((s3.trans s5).new (o := .lst [.ref p2]) hg).new hpb).new (o := .tup [.ref g, .ref pb]) ht
        refine q _ t g pb s6 upd_same ⟨p2, ?_, ?_⟩ ((upd_ne (ne_of_none upd_same ht)).trans upd_same)
        · exact (upd_ne (ne_of_none ((upd_ne (ne_of_none upd_same hpb)).trans upd_same) ht)).trans ((upd_ne (ne_of_none upd_same hpb)).trans upd_same)
        · exact ((P2.new hg).new hpb).new ht
      | false =>
        rw [show (decide (V.str l.kind = V.str "offer") && (decide (V.str s.st.ph = V.str "asked") && !decide (oV l.number = V.non))) = false from b2]
        refine iteF ?_
        rw [if_neg (by rw [b2]; decide)] at t0
        refine seqI (ifS (pvAndS (pvS (pvEq (pvV rfl) pvC)) fun _ H4 s4 => pvAndS (pvIn (s4 _ _ hp3)) fun _ H5 s5 => pvAndS (pvS (pvNotN (pvV rfl))) fun _ H6 s6 => pvS (pvGt0 (pvV rfl))) fun H4 s4 => ?_)
        have hp4 : MeAt H4 p1 s := s4 _ _ hp3
        cases b5 : (decide (V.str l.kind = V.str "grant") && (s.st.isWH && ((!decide (oV l.number = V.non)) && decide (0 < l.span)))) with
        | true =>
          refine iteT ?_
          simp only [Bool.and_eq_true] at b5
          obtain ⟨k1, k2, k3, k4⟩ := b5
          have b3 : tkB3 s l = true := by
            show (decide (V.str l.kind = V.str "grant") && !decide (V.str s.st.ph = V.str "asked")) = true
            rw [k1, ← ewh, k2]
            rfl
          rw [if_pos b3] at t0
          have nn : decide (oV l.number = V.non) = false := by
            cases z : decide (oV l.number = V.non) with
            | true => rw [z] at k3; cases k3
            | false => rfl
          have sp0 : decide (V.int l.span = V.int 0) = false := decide_eq_false fun z => by
            have z1 := V.int.inj z
            have z2 := of_decide_eq_true k4
            omega
          have eg : grantA s l r = settled (grantS s l) r := if_neg (by rw [nn, sp0]; decide)
          rw [t0, eg] at q
          obtain ⟨num, en⟩ : ∃ i, l.number = some i := by
            cases e : l.number with
            | none => rw [e] at nn; exact absurd nn (by decide)
            | some i => exact ⟨i, rfl⟩
          -- behind the end's own number
          have go : ∀ te : Int, te = grantT s l → (tSeq (tAsg (tLst (tCons (tC (.str "holding")) (tCons (tOp (rIxL K) (tVar 1) (tC (.int 1))) (tCons (tC (.int 0)) (tCons (tC (.int 0)) (tCons (tVar 8) (tCons (tVar 5) (tCons (tVar 9) (tCons (tVar 10) (tCons (tVar 12) tNil)))))))))) (gName 1))
              (tRet (tTup (tCons (tLst tNil) (tCons (tCall spSettled [] E0 (tCons (tVar 1) (tCons (tVar 3) tNil))) tNil))))) { nx := fun _ H' => Q .non H', rt := Q } [some (.str n), some (.ref p1), some (.ref f), some (.int r), some (.str l.kind), some (.str l.sender), some (.str l.receiver), some (.int l.mark), some (oV l.number), some (.int l.span), some (.int l.turn), none, some (.int te)] H4 := by
            intro te ete
            refine seqI ?_
            refine pvIx hp4 (v := .int s.marks) rfl rfl _ ?_
            refine ⟨_, rfl, _, rfl, _, rfl, _, rfl, _, rfl, (by show 9 ≤ sizeLine; decide), fun pm hpm => ?_⟩
            have hm : (upd H4 pm (.lst [.str "holding", .int s.marks, .int 0, .int 0, oV l.number, .str l.sender, .int l.span, .int l.turn, .int te])) pm = some (.lst (meV (grantS s l))) := lst_at (by
              rw [ete, en]
              unfold meV grantS
              rw [en]
              rfl)
            refine ⟨(by show 0 ≤ sizeLine; decide), fun g hg => ?_⟩
            have hm2 := ((Same.refl _).new (o := .lst []) hg) _ _ hm
            refine ⟨_, rfl, _, rfl, pm, r, grantS s l, rfl, hm2, fun H7 pb s7 f7 hpb => ?_⟩
            refine ⟨(by show 2 ≤ sizeLine; decide), fun t ht => ?_⟩
            have s8 := ((((s3.trans s4).new (o := .lst [.str "holding", .int s.marks, .int 0, .int 0, oV l.number, .str l.sender, .int l.span, .int l.turn, .int te]) hpm).new (o := .lst []) hg).trans s7).new (o := .tup [.ref g, .ref pb]) ht
            refine q _ t g pb s8 upd_same ?_ ((upd_ne (ne_of_none hpb ht)).trans hpb)
            exact ((Same.refl H7).new ht) _ _ (s7 _ _ upd_same)
          refine seqI ?_
          refine pvIx hp4 (v := .int s.sent) rfl rfl _ ?_
          refine ⟨_, rfl, _, _, rfl, rfl, ?_⟩
          have sc2 : decide (V.str s.st.ph = V.str "holding") = true → scal (oV l.number) (oV s.st.num?) = true := fun z => by
            rw [en]
            rw [e_ph] at z
            obtain ⟨st, mk, wt, sn⟩ := s
            cases st <;> first | rfl | cases z
          refine seqI (ifI (pvAnd (pvEq (pvIx hp4 (v := .str s.st.ph)) pvC) fun z => pvEq (pvV rfl) (pvIx hp4 (v := oV s.st.num?)) (sc2 z)) ?_)
          by_cases c2 : (decide (V.str s.st.ph = V.str "holding") && decide (oV l.number = oV s.st.num?)) = true
          · rw [c2]
            refine iteT ?_
            have ci : ∃ ti, s.st.till? = some ti := by
              have z := (Bool.and_eq_true _ _ ▸ c2).1
              rw [e_ph] at z
              obtain ⟨st, mk, wt, sn⟩ := s
              cases st <;> first | exact ⟨_, rfl⟩ | cases z
            obtain ⟨ti, eti⟩ := ci
            refine ⟨_, rfl, ?_⟩
            refine pvIx hp4 (v := oV s.st.till?) rfl rfl _ ?_
            rw [eti]
            refine ⟨_, _, rfl, ?_⟩
            refine go _ ?_
            rw [grantT, if_pos c2, eti]
            rfl
          · rw [Bool.not_eq_true _ |>.mp c2]
            refine iteF ?_
            exact go _ (if_neg c2).symm
        | false =>
          refine iteF ?_
          refine seqI (ifS (pvAndS (pvS (pvEq (pvV rfl) pvC)) fun _ H5 s5 => pvIn (s5 _ _ hp4)) fun H5 s5 => ?_)
          have hp5 : MeAt H5 p1 s := s5 _ _ hp4
          have e4 : (decide (V.str l.kind = V.str "deny") && s.st.isWH) = tkB4 s l := by
            rw [ewh]
            rfl
          rw [e4]
          cases b3 : tkB3 s l with
          | true =>
            have b3' : (decide (V.str l.kind = V.str "grant") && !decide (V.str s.st.ph = V.str "asked")) = true := b3
            rw [← ewh] at b3'
            have k1 := (Bool.and_eq_true _ _ ▸ b3').1
            have k2 := (Bool.and_eq_true _ _ ▸ b3').2
            have b4 : tkB4 s l = false := by
              have z : l.kind = "grant" := V.str.inj (of_decide_eq_true k1)
              show (decide (V.str l.kind = V.str "deny") && !decide (V.str s.st.ph = V.str "asked")) = false
              rw [z, show decide (V.str "grant" = V.str "deny") = false by decide +kernel]
              rfl
            rw [b4]
            refine iteF ?_
            rw [k1, k2] at b5
            have b6 : ((!decide (oV l.number = V.non)) && decide (0 < l.span)) = false := b5
            have eg : grantA s l r = s := if_pos (by
              cases z : decide (oV l.number = V.non) with
              | true => rfl
              | false =>
                rw [z] at b6
                have z2 : decide (0 < l.span) = false := b6
                have z3 := of_decide_eq_false z2
                have z4 : l.span = 0 := by omega
                rw [z4]
                decide)
            refine nil H5 (s4.trans s5) ?_
            rw [t0, if_pos b3, eg]
          | false =>
            rw [if_neg (by rw [b3]; decide)] at t0
            cases b4 : tkB4 s l with
            | true =>
              rw [if_pos b4] at t0
              rw [t0] at q
              refine iteT ?_
              refine ⟨(by show 0 ≤ sizeLine; decide), fun g hg => ?_⟩
              have hp6 : MeAt (upd H5 g (.lst [])) p1 s := ((Same.refl H5).new hg) _ _ hp5
              refine pvIx hp6 (v := .int s.marks) rfl rfl _ ?_
              refine ⟨s.marks, rfl, fun H7 pb s7 f7 hpb => ?_⟩
              refine ⟨(by show 2 ≤ sizeLine; decide), fun t ht => ?_⟩
              have s8 := ((((s3.trans s4).trans s5).new (o := .lst []) hg).trans s7).new (o := .tup [.ref g, .ref pb]) ht
              refine q _ t g pb s8 upd_same ?_ ((upd_ne (ne_of_none hpb ht)).trans hpb)
              exact ((Same.refl H7).new ht) _ _ (s7 _ _ upd_same)
            | false =>
              refine iteF ?_
              exact nil H5 (s4.trans s5) (t0.trans (if_neg (by rw [b4]; decide)))
end
end K39
set_option Elab.async false
set_option linter.all false
set_option maxRecDepth 100000
set_option maxHeartbeats 4000000
/-! _law_bag, _law_take, _law_step, _law_elder. -/
namespace K39
open PySem PySem.Spec PyProof.Rows L2

/-! ### the bag -/
def BagAt (H : Hp) (b : Addr) (z : Int) : Prop := ∃ A B C : Int, H b = some (.lst [.int A, .int B, .int C]) ∧ 0 ≤ A ∧ 0 ≤ B ∧ B ≤ 8589934592 ∧ 0 ≤ C ∧ C ≤ z
theorem BagAt.mono {H : Hp} {b : Addr} {z z' : Int} (h : BagAt H b z) (k : z ≤ z') : BagAt H b z' := let ⟨A, B, C, h1, h2, h3, h4, h5, h6⟩ := h; ⟨A, B, C, h1, h2, h3, h4, h5, Int.le_trans h6 k⟩
theorem BagAt.same {H H' : Hp} {b : Addr} {z : Int} (h : BagAt H b z) (k : Same H H') : BagAt H' b z := let ⟨A, B, C, h1, h2⟩ := h; ⟨A, B, C, k _ _ h1, h2⟩
theorem BagAt.ne {H H' : Hp} {b x : Addr} {z : Int} {o : HO} (h : BagAt H b z) (k : Kp [x] H H') (hx : H x = some o) (ho : ∀ A B C, o ≠ .lst [.int A, .int B, .int C]) : BagAt H' b z := by
  obtain ⟨A, B, C, h1, h2⟩ := h
  refine ⟨A, B, C, k _ _ ?_ h1, h2⟩
  intro c
  rw [List.mem_singleton.mp c, hx] at h1
  exact ho _ _ _ (Option.some.inj h1)
def primeL : List V := [.int 2147483647, .int 2147483629, .int 2147483587, .int 2147483579, .int 2147483563, .int 2147483549, .int 2147483543, .int 2147483497]
theorem prime_at {k : Int} (h0 : 0 ≤ k) (h8 : k < 8) : ∃ p : Int, atI primeL k = some (.int p) ∧ 0 < p ∧ p ≤ 2147483647 := by
  have c : k = 0 ∨ k = 1 ∨ k = 2 ∨ k = 3 ∨ k = 4 ∨ k = 5 ∨ k = 6 ∨ k = 7 := by omega
  rcases c with rfl | rfl | rfl | rfl | rfl | rfl | rfl | rfl <;> exact ⟨_, rfl, by decide, by decide⟩
theorem lt64 {x p : Int} (h0 : 0 ≤ x) (h1 : x < p) (h2 : p ≤ 2147483647) : -(2 ^ 64) < x ∧ x < 2 ^ 64 := by omega
theorem base_small {B C : Int} (b0 : 0 ≤ B) (b1 : B ≤ 8589934592) (c0 : 0 ≤ C) (c1 : C ≤ 100001) : ((B + 1) * (2 * C + 3) + 6007 * C * C).natAbs < 2 ^ 64 := by
  have h1 : (B + 1) * (2 * C + 3) ≤ 8589934593 * 200005 := Int.mul_le_mul (by omega) (by omega) (by omega) (by decide)
  have h2 : 6007 * C * C ≤ 600706007 * 100001 := Int.mul_le_mul (by omega) (by omega) (by omega) (by decide)
  have h3 : 0 ≤ (B + 1) * (2 * C + 3) := Int.mul_nonneg (by omega) (by omega)
  have h4 : 0 ≤ 6007 * C * C := Int.mul_nonneg (by omega) (by omega)
  generalize (B + 1) * (2 * C + 3) = u at *
  generalize 6007 * C * C = v at *
  omega
section
variable {P : Program} {w : World} {K : PySem.W.Frag} {mg : Str → Option Value} {base : Heap}
def spTk : Sp := fun vs H Q _ => ∃ (b : Addr) (k z : Int), vs = [.ref b, .int k] ∧ 0 < k ∧ k ≤ 1000000000000 ∧ BagAt H b z ∧ z ≤ 100000 ∧ ∀ (H' : Hp) (r : Int), Kp [b] H H' → BagAt H' b (z + 1) → 0 ≤ r → r < k → Q (.int r) H'
abbrev nTk : List Str := ["_law_bag_here", "_law_many", "_law_digit", "_law_primes", "_law_step_here", "_law_base", "_law_here"]
theorem sc_tk : FnScope nTk ["_law_bag_here", "_law_many"] (defScope sTk) := ⟨rfl, rfl, rfl, by decide +kernel, rfl, by decide +kernel, by decide +kernel⟩
theorem d_tk (T : Tx w K mg) : DefAt P w K mg base CX0 1 (He.ga K "_law_take") ["_law_bag_here", "_law_many"] [] spTk := by
  obtain ⟨fd, F⟩ := T.g3 1 "_law_take" sTk
  refine ⟨⟨fd, [], ok0 F sc_tk (fun vs H Q E h => ?_) (fun cdv A outer s H vs Q E hr h => ?_), F.bindsN fun _ _ _ _ _ _ us hl => match us, hl with | [_, _], _ => rfl, .nil⟩, F.kp⟩
  · obtain ⟨b, k, z, rfl, _⟩ := h
    rfl
  · obtain ⟨b, k, z, rfl, k0, k1, ⟨A, B, C, hb, a0, b0, b1, c0, c1⟩, hz, q⟩ := h
    refine ⟨_, pss_cons (ps_if (pt_cmpR op_gt (pe_ix ix_list (pv 0) pe_int (fun _ _ => rfl)) pe_int (nomark _))
        (pss_cons (ps_set (i := 2) sc_tk.nd rfl (.inl rfl) (pe_op op_mod (pe_ix ix_list (pv 0) pe_int (fun _ _ => rfl)) (pv 1)))
        (pss_cons (ps_asg (pe_op op_fdivW (pe_ix ix_list (pv 0) pe_int (fun _ _ => rfl)) (pv 1)) (pg_sub (pv 0) pe_int set_list))
        (pss_one (ps_ret (pv 2))))) pss_nil)
      (pss_cons (ps_set (i := 3) sc_tk.nd rfl (.inl rfl) (pe_tup (pa_cons pe_int (pa_cons pe_int (pa_cons pe_int (pa_cons pe_int (pa_cons pe_int (pa_cons pe_int (pa_cons pe_int (pa_cons pe_int pa_nil))))))))))
      (pss_cons (ps_asg (pe_op op_add (pe_ix ix_list (pv 0) pe_int (fun _ _ => rfl)) pe_int) (pg_sub (pv 0) pe_int set_list))
      (pss_cons (ps_set (i := 4) sc_tk.nd rfl (.inl rfl) (pe_ix ix_list (pv 0) pe_int (fun _ _ => rfl)))
      (pss_cons (ps_set (i := 5) sc_tk.nd rfl (.inl rfl) (pe_op op_add (pe_op op_mul (pe_op op_add (pe_ix ix_list (pv 0) pe_int (fun _ _ => rfl)) pe_int) (pe_op op_add (pe_op op_mul pe_int (pv 4)) pe_int)) (pe_op op_mul (pe_op op_mul pe_int (pv 4)) (pv 4))))
      (pss_cons (ps_set (i := 6) sc_tk.nd rfl (.inl rfl) (pe_op op_mod (pe_op op_pow (pv 5) pe_int) (pe_ix ix_tup (pv 3) (pe_op op_mod (pv 4) pe_int) (fun _ _ => rfl))))
      (pss_one (ps_ret (pe_op op_mod (pe_op op_fdiv (pe_op op_mod (pe_op op_mul (pv 6) (pe_op op_add (pe_op op_fdiv (pv 6) pe_int) pe_int)) (pe_ix ix_tup (pv 3) (pe_op op_mod (pe_op op_add (pv 4) pe_int) pe_int) (fun _ _ => rfl))) pe_int) (pv 1))))))))), ?_⟩
    refine seqI ?_
    refine pvIx hb (v := .int A) rfl rfl _ ?_
    by_cases c : 0 < A
    · refine ⟨_, _, rfl, rfl, true, congrArg V.bl (decide_eq_true c), iteT ?_⟩
      refine seqI ?_
      refine pvIx hb (v := .int A) rfl rfl _ ?_
      refine ⟨_, rfl, _, _, rfl, rfl, k0, ?_⟩
      refine seqI ?_
      refine pvIx hb (v := .int A) rfl rfl _ ?_
      refine ⟨_, rfl, _, _, rfl, rfl, wide_div (b := 41) k0 (by omega) (by decide) (by decide), ?_⟩
      refine ⟨_, rfl, b, _, 0, 0, rfl, rfl, hb, rfl, ?_⟩
      refine ⟨_, rfl, ?_⟩
      refine q _ _ ((Kp.refl [b] H).put (by simp)) ⟨A / k, B, C, upd_same, Int.ediv_nonneg a0 (by omega), b0, b1, c0, by omega⟩ (Int.emod_nonneg A (by omega)) (Int.emod_lt_of_pos A k0)
    · refine ⟨_, _, rfl, rfl, false, congrArg V.bl (decide_eq_false c), iteF ?_⟩
      refine seqI ⟨(by show 8 ≤ sizeLine; decide), fun t ht => ?_⟩
      have hb1 : (upd H t (.tup primeL)) b = some (.lst [.int A, .int B, .int C]) := (upd_ne (ne_of_none hb ht)).trans hb
      have nbt : t ≠ b := (ne_of_none hb ht).symm
      refine seqI ?_
      refine pvIx hb1 (v := .int C) rfl rfl _ ?_
      refine ⟨_, _, rfl, rfl, ?_⟩
      refine ⟨_, rfl, b, _, 2, 2, rfl, rfl, hb1, rfl, ?_⟩
      have hb2 : (upd (upd H t (.tup primeL)) b (.lst [.int A, .int B, .int (C + 1)])) b = some (.lst [.int A, .int B, .int (C + 1)]) := upd_same
      have ht2 : SqT K (upd (upd H t (.tup primeL)) b (.lst [.int A, .int B, .int (C + 1)])) t primeL := SqT.of ((upd_ne nbt).trans upd_same)
      have k2 : Kp [b] H (upd (upd H t (.tup primeL)) b (.lst [.int A, .int B, .int (C + 1)])) := ((Kp.refl [b] H).new ht).put (by simp)
      refine seqI ?_
      refine pvIx hb2 (v := .int (C + 1)) rfl rfl _ ?_
      refine seqI ?_
      refine pvIx hb2 (v := .int B) rfl rfl _ ?_
      refine ⟨_, _, rfl, rfl, ?_⟩
      refine ⟨_, rfl, _, _, rfl, rfl, .inl (by decide), _, _, rfl, rfl, ?_⟩
      refine ⟨_, _, rfl, rfl, .inl (by omega), ?_⟩
      refine ⟨_, rfl, _, _, rfl, rfl, .inl (by decide), _, rfl, _, _, rfl, rfl, .inl (by omega), ?_⟩
      refine ⟨_, _, rfl, rfl, ?_⟩
      have sm := base_small b0 b1 (by omega : 0 ≤ C + 1) (by omega : C + 1 ≤ 100001)
      refine seqI ?_
      refine ⟨_, rfl, _, _, rfl, rfl, ⟨by decide, by decide, sm⟩, ?_⟩
      obtain ⟨p1, e1, p1a, p1b⟩ := prime_at (k := (C + 1) % 8) (Int.emod_nonneg _ (by decide)) (Int.emod_lt_of_pos _ (by decide))
      refine ⟨_, rfl, _, rfl, _, _, rfl, rfl, (by show (0 : Int) < 8; decide), t, primeL, _, _, rfl, rfl, ht2, e1, ?_⟩
      refine ⟨_, _, rfl, rfl, p1a, ?_⟩
      refine ⟨_, rfl, _, rfl, _, _, rfl, rfl, ⟨by decide, by decide⟩, _, _, rfl, rfl, ?_⟩
      refine ⟨_, _, rfl, rfl, .inl (lt64 (Int.emod_nonneg _ (by omega)) (Int.emod_lt_of_pos _ p1a) p1b), ?_⟩
      obtain ⟨p2, e2, p2a, p2b⟩ := prime_at (k := (C + 1 + 3) % 8) (Int.emod_nonneg _ (by decide)) (Int.emod_lt_of_pos _ (by decide))
      refine ⟨_, rfl, _, rfl, _, _, rfl, rfl, _, _, rfl, rfl, (by show (0 : Int) < 8; decide), t, primeL, _, _, rfl, rfl, ht2, e2, ?_⟩
      refine ⟨_, _, rfl, rfl, p2a, _, _, rfl, rfl, ⟨by decide, by decide⟩, ?_⟩
      refine ⟨_, rfl, _, _, rfl, rfl, k0, ?_⟩
      exact q _ _ k2 ⟨A, B, C + 1, hb2, a0, b0, b1, by omega, by omega⟩ (Int.emod_nonneg _ (by omega)) (Int.emod_lt_of_pos _ k0)
/-- a digit is taken -/
theorem takeI {σ : L2.St} {H : Hp} {Q : VK} {b : Addr} {i : Nat} {k z : Int} (hb : BagAt H b z) (hz : z ≤ 100000) (k0 : 0 < k) (k1 : k ≤ 1000000000000) (q : ∀ (H' : Hp) (r : Int), Kp [b] H H' → BagAt H' b (z + 1) → 0 ≤ r → r < k → Q (.int r) H') (hs : σ[i]? = some (some (.ref b)) := by rfl) :
    tCall spTk [] E0 (tCons (tVar i) (tCons (tC (.int k)) tNil)) σ H Q := ⟨_, hs, b, k, z, rfl, k0, k1, hb, hz, q⟩
/-- an item of a written list, by a digit -/
theorem at_some {xs : List V} {r : Int} {n : Nat} (h0 : 0 ≤ r) (h1 : r < n) (hn : xs.length = n) : ∃ v, atI xs r = some v ∧ v ∈ xs := by
  have hj : r.toNat < xs.length := by omega
  refine ⟨xs[r.toNat], ?_, List.getElem_mem hj⟩
  have e : ((r.toNat : Nat) : Int) = r := by omega
  have h := atI_nat (xs := xs) (j := r.toNat) (v := xs[r.toNat]) (by simp [hj])
  rw [e] at h
  exact h
/-- an item by a digit, of a list that a display has made -/
theorem ixI {H : Hp} {Q : VK} {l : Addr} {xs : List V} {r : Int} {n : Nat} (hl : H l = some (.lst xs)) (h0 : 0 ≤ r) (h1 : r < n) (hn : xs.length = n) (q : ∀ v ∈ xs, Q v H) : rIxL K (.ref l) (.int r) H Q := by
  obtain ⟨v, e, m⟩ := at_some h0 h1 hn
  exact ⟨l, xs, r, v, rfl, rfl, SqL.of hl, e, q v m⟩

theorem _root_.L2.SqT.kl {H H' : Hp} {a b : Addr} {xs ys : List V} (h : SqT K H a xs) (hb : H b = some (.lst ys)) (k : Kp [b] H H') : SqT K H' a xs := by
  rcases h with (h | ⟨o, h⟩) | h
  · by_cases c : a = b
    · subst c; rw [h] at hb; cases hb
    · exact .inl (.inl (k _ _ (by simpa using c) h))
  · by_cases c : a = b
    · subst c; rw [h] at hb; cases hb
    · exact .inl (.inr ⟨o, k _ _ (by simpa using c) h⟩)
  · exact .inr h
/-- a list that isn't the bag stands through the bag's turns -/
theorem lst_kb {H H' : Hp} {p b : Addr} {xs : List V} {z : Int} (h : H p = some (.lst xs)) (hb : BagAt H b z) (k : Kp [b] H H') (n : xs.length ≠ 3) : H' p = some (.lst xs) := by
  obtain ⟨A, B, C, h1, _⟩ := hb
  refine k _ _ ?_ h
  intro c
  rw [List.mem_singleton.mp c, h1] at h
  exact n (by rw [← HO.lst.inj (Option.some.inj h)]; rfl)
theorem PLet.kb {H H' : Hp} {f b : Addr} {l : Let} {z : Int} (h : PLet K H f l) (hb : BagAt H b z) (k : Kp [b] H H') : PLet K H' f l := by
  obtain ⟨va, ra, h1, h2, h3⟩ := h
  have h4 := lst_kb h1 hb k (by simp [Let.vals])
  obtain ⟨A, B, C, hb1, _⟩ := hb
  exact ⟨va, ra, h4, h2.kl hb1 k, h3.kl hb1 k⟩

/-! ### _law_step, _law_elder, _law_bag -/
def spStep : Sp := fun vs H Q _ => ∃ (b : Addr) (z : Int), vs = [.ref b] ∧ BagAt H b z ∧ z ≤ 99990 ∧ ∀ (H' : Hp) (r : Int), Kp [b] H H' → BagAt H' b (z + 3) → 0 ≤ r → r < 300 → Q (.int r) H'
theorem sc_step : FnScope ["_law_bag_here"] ["_law_bag_here"] (defScope sStep) := ⟨rfl, rfl, rfl, by decide +kernel, rfl, by decide +kernel, by decide +kernel⟩
theorem d_step (T : Tx w K mg) : DefAt P w K mg base CX0 2 (He.ga K "_law_step") ["_law_bag_here"] [] spStep := by
  obtain ⟨fd, F⟩ := T.g3 15 "_law_step" sStep
  refine ⟨⟨fd, [], ok0 F sc_step (fun vs H Q E h => ?_) (fun cdv A outer s H vs Q E hr h => ?_), F.bindsN fun _ _ _ _ _ _ us hl => match us, hl with | [_], _ => rfl, .nil⟩, F.kp⟩
  · obtain ⟨b, z, rfl, _⟩ := h
    rfl
  · obtain ⟨b, z, rfl, hb, hz, q⟩ := h
    refine ⟨_, pss_one (ps_ret (pe_ix ix_list (pe_lst (pa_cons pe_int (pa_cons pe_int (pa_cons (pe_callD (d_tk T) hr (by rfl) (T.glo "_law_take") pass0 (pa_cons (pv 0) (pa_cons pe_int pa_nil))) (pa_cons (pe_callD (d_tk T) hr (by rfl) (T.glo "_law_take") pass0 (pa_cons (pv 0) (pa_cons pe_int pa_nil))) pa_nil)))))
      (pe_callD (d_tk T) hr (by rfl) (T.glo "_law_take") pass0 (pa_cons (pv 0) (pa_cons pe_int pa_nil))) (fun _ _ => rfl))), ?_⟩
    refine takeI hb (by omega) (by decide) (by decide) (fun H1 r1 k1 hb1 a1 c1 => ?_) rfl
    refine takeI hb1 (by omega) (by decide) (by decide) (fun H2 r2 k2 hb2 a2 c2 => ?_) rfl
    refine ⟨(by show 4 ≤ sizeLine; decide), fun l hl => ?_⟩
    have hb3 := hb2.same ((Same.refl H2).new (o := .lst [.int 0, .int 1, .int r1, .int r2]) hl)
    have hbl : b ≠ l := by
      obtain ⟨A, B, C, h1, _⟩ := hb2
      exact ne_of_none h1 hl
    refine takeI hb3 (by omega) (by decide) (by decide) (fun H4 r4 k4 hb4 a4 c4 => ?_) rfl
    refine ixI (n := 4) (k4 _ _ (by simpa using Ne.symm hbl) upd_same) a4 c4 rfl fun v hv => ?_
    have k5 : Kp [b] H H4 := ((k1.trans k2).new hl).trans k4
    simp only [List.mem_cons, List.not_mem_nil, or_false] at hv
    rcases hv with rfl | rfl | rfl | rfl
    · exact q _ _ k5 (hb4.mono (by omega)) (by omega) (by omega)
    · exact q _ _ k5 (hb4.mono (by omega)) (by omega) (by omega)
    · exact q _ _ k5 (hb4.mono (by omega)) (by omega) (by omega)
    · exact q _ _ k5 (hb4.mono (by omega)) (by omega) (by omega)
def spElder (K : PySem.W.Frag) : Sp := fun vs H Q _ => ∃ (b f : Addr) (z : Int) (l : Let), vs = [.ref b, .ref f] ∧ BagAt H b z ∧ z ≤ 100000 ∧ PLet K H f l ∧ LetOk l ∧
  ∀ (H' : Hp) (e : Addr) (k : Int), Kp [b] H H' → BagAt H' b (z + 1) → H e = none → 0 ≤ k → k ≤ l.mark → PLet K H' e { l with mark := k } → Q (.ref e) H'
theorem sc_elder : FnScope ["_law_bag_here", "_law_fields_here", "_law_elder_here"] ["_law_bag_here", "_law_fields_here"] (defScope sElder) := ⟨rfl, rfl, rfl, by decide +kernel, rfl, by decide +kernel, by decide +kernel⟩
theorem d_elder (T : Tx w K mg) : DefAt P w K mg base CX0 2 (He.ga K "_law_elder") ["_law_bag_here", "_law_fields_here"] [] (spElder K) := by
  obtain ⟨fd, F⟩ := T.g3 16 "_law_elder" sElder
  refine ⟨⟨fd, [], ok0 F sc_elder (fun vs H Q E h => ?_) (fun cdv A outer s H vs Q E hr h => ?_), F.bindsN fun _ _ _ _ _ _ us hl => match us, hl with | [_, _], _ => rfl, .nil⟩, F.kp⟩
  · obtain ⟨b, f, z, l, rfl, _⟩ := h
    rfl
  · obtain ⟨b, f, z, l, rfl, hb, hz, ⟨va, ra, hf, hva, hra⟩, L, q⟩ := h
    refine ⟨_, pss_cons (ps_set (i := 2) sc_elder.nd rfl (.inl rfl) (pe_callTy call_list_of (by rfl) (T.free "list") (by decide +kernel) (pa_cons (pv 1) pa_nil)))
      (pss_cons (ps_asg (pe_callD (d_tk T) hr (by rfl) (T.glo "_law_take") pass0 (pa_cons (pv 0) (pa_cons (pe_op op_add (pe_ix ix_list (pv 1) pe_int (fun _ _ => rfl)) pe_int) pa_nil))) (pg_sub (pv 2) pe_int set_list)) (pss_one (ps_ret (pv 2)))), ?_⟩
    refine seqI ⟨_, rfl, f, _, rfl, .inl (SqL.of hf), fun e he => ?_⟩
    have s1 := (Same.refl H).new (o := .lst (l.vals va ra)) he
    have hf1 := s1 _ _ hf
    have hb1 := hb.same s1
    obtain ⟨m0, m1⟩ := L.mark
    refine seqI ⟨_, rfl, ?_⟩
    refine pvIx hf1 (v := .int l.mark) rfl rfl _ ?_
    refine ⟨_, _, rfl, rfl, ?_⟩
    refine ⟨b, l.mark + 1, z, rfl, by omega, by omega, hb1, hz, fun H2 r k2 hb2 a2 c2 => ?_⟩
    have hbe : e ≠ b := by
      obtain ⟨A, B, C, h1, _⟩ := hb
      exact (ne_of_none h1 he).symm
    have he2 : H2 e = some (.lst (l.vals va ra)) := k2 _ _ (by simpa using hbe) upd_same
    refine ⟨_, rfl, e, _, 3, 3, rfl, rfl, he2, rfl, ?_⟩
    refine ⟨_, rfl, ?_⟩
    have k3 : Kp [b] H H2 := ((Kp.refl [b] H).new he).trans k2
    have hbL : ∃ ys, H b = some (.lst ys) := by
      obtain ⟨A, B, C, h1, _⟩ := hb
      exact ⟨_, h1⟩
    obtain ⟨ys, hys⟩ := hbL
    have k4 : Kp [b] H (upd H2 e (.lst ((l.vals va ra).set 3 (.int r)))) := k3.own he
    refine q _ e r k4 (hb2.ne (x := e) ((Kp.refl _ _).put (by simp)) he2 fun A B C z => by cases z) he a2 (by omega) ⟨va, ra, upd_same, hva.kl hys k4, hra.kl hys k4⟩
end
end K39
set_option Elab.async false
set_option linter.all false
set_option maxRecDepth 100000
set_option maxHeartbeats 4000000
/-! _law_bag, _law_answer. -/
namespace K39
open PySem PySem.Spec PyProof.Rows L2

theorem _root_.L2.Same.sql {K : PySem.W.Frag} {H H' : Hp} {a : Addr} {xs : List V} (e : Same H H') (h : SqL K H a xs) : SqL K H' a xs := by
  rcases h with (h | ⟨o, h⟩) | h
  · exact .inl (.inl (e _ _ h))
  · exact .inl (.inr ⟨o, e _ _ h⟩)
  · exact .inr h
section
variable {P : Program} {w : World} {K : PySem.W.Frag} {mg : Str → Option Value} {base : Heap}
theorem b01 (c : Bool) : -(2 ^ 64) < (if c = true then (1 : Int) else 0) ∧ (if c = true then (1 : Int) else 0) < 2 ^ 64 := by cases c <;> decide
theorem b01n (c : Bool) : 0 ≤ (if c = true then (1 : Int) else 0) := by cases c <;> decide
def spBag (K : PySem.W.Frag) : Sp := fun vs H Q _ => ∃ (s : Addr) (at_ : Int) (ns : List Int), vs = [.ref s, .int at_] ∧ SqL K H s (ns.map V.int) ∧ 0 ≤ at_ ∧ at_ ≤ 2 ∧ ∀ (H' : Hp) (b : Addr), Same H H' → H b = none → BagAt H' b 0 → Q (.ref b) H'
theorem sc_bag : FnScope ["_law_script", "_law_at", "_law_cell"] ["_law_script", "_law_at"] (defScope sBag) := ⟨rfl, rfl, rfl, by decide +kernel, rfl, by decide +kernel, by decide +kernel⟩
theorem d_bag (T : Tx w K mg) : DefAt P w K mg base CX0 1 (He.ga K "_law_bag") ["_law_script", "_law_at"] [] (spBag K) := by
  obtain ⟨fd, F⟩ := T.g3 0 "_law_bag" sBag
  refine ⟨⟨fd, [], ok0 F sc_bag (fun vs H Q E h => ?_) (fun cdv A outer s H vs Q E hr h => ?_), F.bindsN fun _ _ _ _ _ _ us hl => match us, hl with | [_, _], _ => rfl, .nil⟩, F.kp⟩
  · obtain ⟨a, i, ns, rfl, _⟩ := h
    rfl
  · obtain ⟨a, i, ns, rfl, ha, i0, i1, q⟩ := h
    refine ⟨_, pss_cons (ps_set (i := 2) sc_bag.nd rfl (.inl rfl) (pe_op op_add (pe_op op_mul pe_int (pv 1)) pe_int))
      (pss_cons (ps_if (pt_cmpR op_lt (pv 1) (pe_callB call_len_seq (by rfl) (T.free "len") PySem.boot_len (pa_cons (pv 0) pa_nil)) (nomark _)) (pss_one (ps_set (i := 2) sc_bag.nd rfl (.inl rfl) (pe_ix ix_list (pv 0) (pv 1) (fun _ _ => rfl)))) pss_nil)
      (pss_one (ps_ret (pe_lst (pa_cons (pe_op op_mul (pe_callB call_abs (by rfl) (T.free "abs") (by decide +kernel) (pa_cons (pv 2) pa_nil)) (pe_callTy call_int1 (by rfl) (T.free "int") (by decide +kernel) (pa_cons (pe_cmpR op_ge (pe_callB call_abs (by rfl) (T.free "abs") (by decide +kernel) (pa_cons (pv 2) pa_nil)) (pe_op op_pow pe_int pe_int) (nomark _)) pa_nil)))
        (pa_cons (pe_op op_add (pe_op op_mod (pv 2) pe_int) (pe_op op_mul pe_int (pv 1))) (pa_cons pe_int pa_nil))))))), ?_⟩
    have go : ∀ c : Int, (tRet (tLst (tCons (tOp (rI CMul fun i j => .int (i * j)) (tCB (fun xs H Q => ∃ i, xs = [.int i] ∧ Q (.int (if i < 0 then -i else i)) H) (tCons (tVar 2) tNil))
          (tCB (fun xs H Q => (∃ i, xs = [.int i] ∧ Q (.int i) H) ∨ ∃ k, xs = [.bl k] ∧ Q (.int (if k then 1 else 0)) H) (tCons (tOp (rI0 fun i j => .bl (decide (j ≤ i))) (tCB (fun xs H Q => ∃ i, xs = [.int i] ∧ Q (.int (if i < 0 then -i else i)) H) (tCons (tVar 2) tNil)) (tOp (rI CPow fun i j => .int (i ^ j.toNat)) (tC (.int 10)) (tC (.int 18)))) tNil)))
        (tCons (tOp (rI0 fun i j => .int (i + j)) (tOp (rI (fun _ j => 0 < j) fun i j => .int (i % j)) (tVar 2) (tC (.int 2147483587))) (tOp (rI CMul fun i j => .int (i * j)) (tC (.int 40009)) (tVar 1))) (tCons (tC (.int 0)) tNil))))) { nx := fun _ H' => Q .non H', rt := Q } [some (.ref a), some (.int i), some (.int c)] H := by
      intro c
      refine ⟨_, rfl, c, rfl, _, rfl, c, rfl, _, _, rfl, rfl, ⟨by decide, by decide, by decide⟩, _, _, rfl, rfl, .inr ⟨_, rfl, ?_⟩⟩
      have m0 : 0 ≤ c % 2147483587 := Int.emod_nonneg _ (by decide)
      have m1 : c % 2147483587 < 2147483587 := Int.emod_lt_of_pos _ (by decide)
      refine ⟨_, _, rfl, rfl, .inr (b01 _), _, rfl, _, _, rfl, rfl, (by show (0 : Int) < 2147483587; decide), _, rfl, _, _, rfl, rfl, .inl (by decide), _, _, rfl, rfl, (by show 3 ≤ sizeLine; decide), fun b hb => ?_⟩
      refine q _ b ((Same.refl H).new hb) hb ⟨_, _, _, upd_same, ?_, ?_, ?_, Int.le_refl _, Int.le_refl _⟩
      · refine Int.mul_nonneg ?_ ?_
        · split <;> omega
        · exact b01n _
      · show 0 ≤ c % 2147483587 + 40009 * i
        omega
      · show c % 2147483587 + 40009 * i ≤ 8589934592
        omega
    refine seqI ⟨_, rfl, _, _, rfl, rfl, .inl (by decide), _, _, rfl, rfl, ?_⟩
    refine seqI ⟨_, rfl, _, rfl, a, _, rfl, .inl ha, _, _, rfl, rfl, ?_⟩
    by_cases c : i < (((ns.map V.int).length : Nat) : Int)
    · refine ⟨true, congrArg V.bl (decide_eq_true c), iteT ?_⟩
      obtain ⟨v, e, m⟩ := at_some i0 c rfl
      obtain ⟨z, hz, rfl⟩ := List.mem_map.mp m
      refine ⟨_, rfl, _, rfl, a, _, _, _, rfl, rfl, ha, e, ?_⟩
      exact go z
    · refine ⟨false, congrArg V.bl (decide_eq_false c), iteF ?_⟩
      exact go _

/-! ### _law_answer -/
structure AnsOk (l : Let) : Prop where
  ok : LetOk l
  span : l.span ≤ 1000000
  turn : l.turn ≤ 50
def spAnswer (K : PySem.W.Frag) : Sp := fun vs H Q _ => ∃ (b p : Addr) (z : Int) (n : Str) (m : Ak), vs = [.ref b, .str n, .ref p] ∧ BagAt H b z ∧ z ≤ 99980 ∧ MeAt H p m ∧ Nm n ∧ (0 ≤ m.wait ∧ m.wait ≤ 999999999999) ∧ (oV m.st.num? = .non ∨ ∃ i : Int, oV m.st.num? = .int i ∧ 0 ≤ i ∧ i ≤ 999999) ∧
  ∀ (H' : Hp) (f : Addr) (l : Let), Kp [b] H H' → BagAt H' b (z + 11) → H f = none → PLet K H' f l → AnsOk l → Q (.ref f) H'
abbrev nA : List Str := ["_law_bag_here", "_law_name", "_law_me", "_law_keeper", "_law_num", "_law_room", "_law_lap", "_law_kind"]
theorem sc_answer : FnScope nA ["_law_bag_here", "_law_name", "_law_me"] (defScope sAnswer) := ⟨rfl, rfl, rfl, by decide +kernel, rfl, by decide +kernel, by decide +kernel⟩
theorem nm_one : Nm "one" := by unfold Nm; decide +kernel
theorem nm_two : Nm "two" := by unfold Nm; decide +kernel
theorem nm_l : Nm "l" := by unfold Nm; decide +kernel
theorem kd_grant : inV (.str "grant") (kindNames.map V.str) = true := by decide +kernel
theorem kd_deny : inV (.str "deny") (kindNames.map V.str) = true := by decide +kernel
theorem kd_offer : inV (.str "offer") (kindNames.map V.str) = true := by decide +kernel
theorem BagAt.lst {H : Hp} {b : Addr} {z : Int} (h : BagAt H b z) : ∃ ys, H b = some (.lst ys) := let ⟨_, _, _, h1, _⟩ := h; ⟨_, h1⟩
theorem BagAt.nl {H : Hp} {b l : Addr} {z : Int} (h : BagAt H b z) (hl : H l = none) : l ≠ b := by
  obtain ⟨ys, h1⟩ := h.lst
  exact (ne_of_none h1 hl).symm
theorem d_answer (T : Tx w K mg) : DefAt P w K mg base CX0 2 (He.ga K "_law_answer") ["_law_bag_here", "_law_name", "_law_me"] [] (spAnswer K) := by
  obtain ⟨fd, F⟩ := T.g3 14 "_law_answer" sAnswer
  refine ⟨⟨fd, [], ok0 F sc_answer (fun vs H Q E h => ?_) (fun cdv A outer s H vs Q E hr h => ?_), F.bindsN fun _ _ _ _ _ _ us hl => match us, hl with | [_, _, _], _ => rfl, .nil⟩, F.kp⟩
  · obtain ⟨b, p, z, n, m, rfl, _⟩ := h
    rfl
  · obtain ⟨b, p, z, n, m, rfl, hb, hz, hp, hn, hw, hnum, q⟩ := h
    refine ⟨_, pss_cons (ps_set (i := 3) sc_answer.nd rfl (.inl rfl) (pe_ix ix_list (pe_lst (pa_cons pe_str (pa_cons pe_str pa_nil))) (pe_callD (d_tk T) hr (by rfl) (T.glo "_law_take") pass0 (pa_cons (pv 0) (pa_cons pe_int pa_nil))) (fun _ _ => rfl)))
      (pss_cons (ps_set (i := 4) sc_answer.nd rfl (.inl rfl) (pe_ix ix_list (pe_lst (pa_cons pe_int (pa_cons pe_int (pa_cons (pe_callD (d_tk T) hr (by rfl) (T.glo "_law_take") pass0 (pa_cons (pv 0) (pa_cons pe_int pa_nil))) (pa_cons (pe_callD (d_tk T) hr (by rfl) (T.glo "_law_take") pass0 (pa_cons (pv 0) (pa_cons pe_int pa_nil))) pa_nil)))))
        (pe_callD (d_tk T) hr (by rfl) (T.glo "_law_take") pass0 (pa_cons (pv 0) (pa_cons pe_int pa_nil))) (fun _ _ => rfl)))
      (pss_cons (ps_set (i := 5) sc_answer.nd rfl (.inl rfl) (pe_ix ix_list (pe_lst (pa_cons pe_int (pa_cons (pe_op op_add pe_int (pe_callD (d_tk T) hr (by rfl) (T.glo "_law_take") pass0 (pa_cons (pv 0) (pa_cons pe_int pa_nil)))) (pa_cons (pe_op op_add pe_int (pe_callD (d_tk T) hr (by rfl) (T.glo "_law_take") pass0 (pa_cons (pv 0) (pa_cons pe_int pa_nil))))
          (pa_cons (pe_op op_add pe_int (pe_callD (d_tk T) hr (by rfl) (T.glo "_law_take") pass0 (pa_cons (pv 0) (pa_cons pe_int pa_nil)))) pa_nil)))))
        (pe_callD (d_tk T) hr (by rfl) (T.glo "_law_take") pass0 (pa_cons (pv 0) (pa_cons pe_int pa_nil))) (fun _ _ => rfl)))
      (pss_cons (ps_set (i := 6) sc_answer.nd rfl (.inl rfl) (pe_op op_add pe_int (pe_callD (d_tk T) hr (by rfl) (T.glo "_law_take") pass0 (pa_cons (pv 0) (pa_cons pe_int pa_nil)))))
      (pss_cons (ps_set (i := 7) sc_answer.nd rfl (.inl rfl) (pe_ix ix_list (pe_lst (pa_cons pe_str (pa_cons pe_str (pa_cons pe_str (pa_cons pe_str pa_nil))))) (pe_callD (d_tk T) hr (by rfl) (T.glo "_law_take") pass0 (pa_cons (pv 0) (pa_cons pe_int pa_nil))) (fun _ _ => rfl)))
      (pss_cons (ps_if (PW.pt (pw_and (pt_cmpR op_eq (pe_ix ix_list (pv 2) pe_int (fun _ _ => rfl)) pe_str (nomark _)) (pw_and1 (pt_cmpR op_gt (pe_callD (d_tk T) hr (by rfl) (T.glo "_law_take") pass0 (pa_cons (pv 0) (pa_cons pe_int pa_nil))) pe_int (nomark _)))))
        (pss_one (ps_set (i := 4) sc_answer.nd rfl (.inl rfl) (pe_ix ix_list (pv 2) pe_int (fun _ _ => rfl)))) pss_nil)
      (pss_cons (ps_if (pt_cmpR op_eq (pe_ix ix_list (pv 2) pe_int (fun _ _ => rfl)) pe_str (nomark _)) (pss_one (ps_set (i := 7) sc_answer.nd rfl (.inl rfl) pe_str)) pss_nil)
      (pss_cons (ps_if (pt_cmpR op_ne (pv 7) pe_str (nomark _)) (pss_one (ps_asg (pe_tup (pa_cons pe_int (pa_cons pe_int pa_nil))) (pg_tup rfl (pgs_cons (pg_name (i := 5) sc_answer.nd rfl (.inl rfl)) (pgs_cons (pg_name (i := 6) sc_answer.nd rfl (.inl rfl)) pgs_nil))))) pss_nil)
      (pss_one (ps_ret (pe_callD (d_let11 T) hr (by rfl) (T.glo "_law_letter") pass0 (pa_cons (pv 7) (pa_cons (pv 3) (pa_cons (pv 1) (pa_cons (pe_ix ix_list (pv 2) pe_int (fun _ _ => rfl)) (pa_cons (pv 4) (pa_cons (pv 5) (pa_cons (pv 6) (pa_cons pe_int (pa_cons pe_non (pa_cons pe_str (pa_cons pe_str pa_nil))))))))))))))))))))), ?_⟩
    have len9 : (meV m).length ≠ 3 := by show 9 ≠ 3; decide
    -- keeper
    refine seqI ⟨(by show 2 ≤ sizeLine; decide), fun l1 hl1 => ?_⟩
    have sA := (Same.refl H).new (o := .lst [.str "one", .str "two"]) hl1
    refine takeI (hb.same sA) (by omega) (by decide) (by decide) (fun H1 r1 k1 hb1 a1 c1 => ?_) rfl
    have kA : Kp [b] H H1 := ((Kp.refl [b] H).new hl1).trans k1
    have hp1 : MeAt H1 p m := lst_kb hp hb kA len9
    refine ixI (n := 2) (k1 _ _ (by simpa using hb.nl hl1) upd_same) a1 c1 rfl fun v hv => ?_
    have hkp : ∃ kp : Str, v = .str kp ∧ Nm kp := by
      simp only [List.mem_cons, List.not_mem_nil, or_false] at hv
      rcases hv with rfl | rfl
      · exact ⟨_, rfl, nm_one⟩
      · exact ⟨_, rfl, nm_two⟩
    obtain ⟨kp, rfl, nkp⟩ := hkp
    -- number
    refine seqI ?_
    refine takeI hb1 (by omega) (by decide) (by decide) (fun H2 r2 k2 hb2 a2 c2 => ?_) rfl
    refine takeI hb2 (by omega) (by decide) (by decide) (fun H3 r3 k3 hb3 a3 c3 => ?_) rfl
    refine ⟨(by show 4 ≤ sizeLine; decide), fun l2 hl2 => ?_⟩
    have sB := (Same.refl H3).new (o := .lst [.int 0, .int 999999, .int r2, .int r3]) hl2
    refine takeI (hb3.same sB) (by omega) (by decide) (by decide) (fun H4 r4 k4 hb4 a4 c4 => ?_) rfl
    have kB : Kp [b] H H4 := (((kA.trans k2).trans k3).new hl2).trans k4
    refine ixI (n := 4) (k4 _ _ (by simpa using hb3.nl hl2) upd_same) a4 c4 rfl fun v hv => ?_
    have hnm : ∃ nu : Int, v = .int nu ∧ 0 ≤ nu ∧ nu ≤ 999999 := by
      simp only [List.mem_cons, List.not_mem_nil, or_false] at hv
      rcases hv with rfl | rfl | rfl | rfl
      · exact ⟨_, rfl, by omega, by omega⟩
      · exact ⟨_, rfl, by omega, by omega⟩
      · exact ⟨_, rfl, by omega, by omega⟩
      · exact ⟨_, rfl, by omega, by omega⟩
    obtain ⟨nu, rfl, nu0, nu1⟩ := hnm
    -- room
    refine seqI ?_
    refine takeI hb4 (by omega) (by decide) (by decide) (fun H5 r5 k5 hb5 a5 c5 => ?_) rfl
    refine ⟨_, _, rfl, rfl, ?_⟩
    refine takeI hb5 (by omega) (by decide) (by decide) (fun H6 r6 k6 hb6 a6 c6 => ?_) rfl
    refine ⟨_, _, rfl, rfl, ?_⟩
    refine takeI hb6 (by omega) (by decide) (by decide) (fun H7 r7 k7 hb7 a7 c7 => ?_) rfl
    refine ⟨_, _, rfl, rfl, (by show 4 ≤ sizeLine; decide), fun l3 hl3 => ?_⟩
    have sC := (Same.refl H7).new (o := .lst [.int 1, .int (1 + r5), .int (1 + r6), .int (1 + r7)]) hl3
    refine takeI (hb7.same sC) (by omega) (by decide) (by decide) (fun H8 r8 k8 hb8 a8 c8 => ?_) rfl
    have kC : Kp [b] H H8 := ((((kB.trans k5).trans k6).trans k7).new hl3).trans k8
    refine ixI (n := 4) (k8 _ _ (by simpa using hb7.nl hl3) upd_same) a8 c8 rfl fun v hv => ?_
    have hro : ∃ ro : Int, v = .int ro ∧ 0 ≤ ro ∧ ro ≤ 1000000 := by
      simp only [List.mem_cons, List.not_mem_nil, or_false] at hv
      rcases hv with rfl | rfl | rfl | rfl
      · exact ⟨_, rfl, by omega, by omega⟩
      · exact ⟨_, rfl, by omega, by omega⟩
      · exact ⟨_, rfl, by omega, by omega⟩
      · exact ⟨_, rfl, by omega, by omega⟩
    obtain ⟨ro, rfl, ro0, ro1⟩ := hro
    -- lap
    refine seqI ?_
    refine takeI hb8 (by omega) (by decide) (by decide) (fun H9 r9 k9 hb9 a9 c9 => ?_) rfl
    refine ⟨_, _, rfl, rfl, ?_⟩
    have la0 : 0 ≤ 1 + r9 := by omega
    have la1 : 1 + r9 ≤ 50 := by omega
    -- kind
    refine seqI ⟨(by show 4 ≤ sizeLine; decide), fun l4 hl4 => ?_⟩
    have sD := (Same.refl H9).new (o := .lst [.str "grant", .str "grant", .str "grant", .str "deny"]) hl4
    refine takeI (hb9.same sD) (by omega) (by decide) (by decide) (fun H10 r10 k10 hb10 a10 c10 => ?_) rfl
    have kD : Kp [b] H H10 := ((kC.trans k9).new hl4).trans k10
    refine ixI (n := 4) (k10 _ _ (by simpa using hb9.nl hl4) upd_same) a10 c10 rfl fun v hv => ?_
    have hki : ∃ ki : Str, v = .str ki ∧ inV (.str ki) (kindNames.map V.str) = true := by
      simp only [List.mem_cons, List.not_mem_nil, or_false] at hv
      rcases hv with rfl | rfl | rfl | rfl
      · exact ⟨_, rfl, kd_grant⟩
      · exact ⟨_, rfl, kd_grant⟩
      · exact ⟨_, rfl, kd_grant⟩
      · exact ⟨_, rfl, kd_deny⟩
    obtain ⟨ki, rfl, ki0⟩ := hki
    have hp10 : MeAt H10 p m := lst_kb hp hb kD len9
    -- the last three statements
    have fin : ∀ (H' : Hp) (nv : Option Int), Kp [b] H H' → BagAt H' b (z + 11) → (oV nv = .non ∨ ∃ i : Int, oV nv = .int i ∧ 0 ≤ i ∧ i ≤ 999999) →
        (tSeq (tIfS (tTest (tOp rEq (tOp (rIxL K) (tVar 2) (tC (.int 0))) (tC (.str "asked")))) (tAsg (tC (.str "offer")) (gName 7)) tNext)
        (tSeq (tIfS (tTest (tOp rNe (tVar 7) (tC (.str "grant")))) (tAsg (tTup (tCons (tC (.int 0)) (tCons (tC (.int 0)) tNil))) (gTup K 2 (gCons (gName 5) (gCons (gName 6) gNil)))) tNext)
        (tRet (tCall (spLetterP K) ((dLetter.dvs K).drop 8) E0 (tCons (tVar 7) (tCons (tVar 3) (tCons (tVar 1) (tCons (tOp (rIxL K) (tVar 2) (tC (.int 2))) (tCons (tVar 4) (tCons (tVar 5) (tCons (tVar 6) (tCons (tC (.int 0)) (tCons (tC .non) (tCons (tC (.str "")) (tCons (tC (.str "l")) tNil)))))))))))))))
        { nx := fun _ H' => Q .non H', rt := Q } [some (.ref b), some (.str n), some (.ref p), some (.str kp), some (oV nv), some (.int ro), some (.int (1 + r9)), some (.str ki)] H' := by
      intro H' nv kk hbb hnv
      have hpp : MeAt H' p m := lst_kb hp hb kk len9
      have last : ∀ (kj : Str) (rp lp : Int) (H3 : Hp), Same H' H3 → inV (.str kj) (kindNames.map V.str) = true → 0 ≤ rp → rp ≤ 1000000 → 0 ≤ lp → lp ≤ 50 → (tRet (tCall (spLetterP K) ((dLetter.dvs K).drop 8) E0 (tCons (tVar 7) (tCons (tVar 3) (tCons (tVar 1) (tCons (tOp (rIxL K) (tVar 2) (tC (.int 2))) (tCons (tVar 4) (tCons (tVar 5) (tCons (tVar 6) (tCons (tC (.int 0)) (tCons (tC .non) (tCons (tC (.str "")) (tCons (tC (.str "l")) tNil)))))))))))))
          { nx := fun _ H' => Q .non H', rt := Q } [some (.ref b), some (.str n), some (.ref p), some (.str kp), some (oV nv), some (.int rp), some (.int lp), some (.str kj)] H3 := by
        intro kj rp lp H3 s3 h1 h2 h3 h4 h5
        refine ⟨_, rfl, _, rfl, _, rfl, ?_⟩
        have hpp3 := s3 _ _ hpp
        refine pvIx hpp3 (v := .int m.wait) rfl rfl _ ?_
        refine ⟨_, rfl, _, rfl, _, rfl, ⟨kj, kp, n, m.wait, nv, rp, lp, "", "l"⟩, rfl, fun H2 f s2 hf P2 => ?_⟩
        refine q H2 f _ ((kk.trans (Kp.of_same s3)).trans (Kp.of_same s2)) ((hbb.same s3).same s2) ?_ P2 ⟨⟨h1, nkp, .inl hn, hw, hnv, ⟨h2, by show rp ≤ 999999999999; omega⟩, ⟨h4, by show lp ≤ 999999999999; omega⟩, .inr rfl, .inl nm_l⟩, h3, h5⟩
        obtain ⟨ys, hys⟩ := (hbb.same s3).lst
        exact (kk.trans (Kp.of_same s3)).free1 hys hf
      have two : ∀ kj : Str, inV (.str kj) (kindNames.map V.str) = true → (tSeq (tIfS (tTest (tOp rNe (tVar 7) (tC (.str "grant")))) (tAsg (tTup (tCons (tC (.int 0)) (tCons (tC (.int 0)) tNil))) (gTup K 2 (gCons (gName 5) (gCons (gName 6) gNil)))) tNext)
          (tRet (tCall (spLetterP K) ((dLetter.dvs K).drop 8) E0 (tCons (tVar 7) (tCons (tVar 3) (tCons (tVar 1) (tCons (tOp (rIxL K) (tVar 2) (tC (.int 2))) (tCons (tVar 4) (tCons (tVar 5) (tCons (tVar 6) (tCons (tC (.int 0)) (tCons (tC .non) (tCons (tC (.str "")) (tCons (tC (.str "l")) tNil))))))))))))))
          { nx := fun _ H' => Q .non H', rt := Q } [some (.ref b), some (.str n), some (.ref p), some (.str kp), some (oV nv), some (.int ro), some (.int (1 + r9)), some (.str kj)] H' := by
        intro kj h1
        refine seqI (ifI (pvNe (pvV rfl) pvC) ?_)
        cases c : (!decide (V.str kj = V.str "grant")) with
        | true => exact iteT ⟨(by show 2 ≤ sizeLine; decide), fun t ht => ⟨t, _, rfl, SqT.of upd_same, rfl, _, _, rfl, _, _, rfl, rfl, last kj 0 0 _ ((Same.refl H').new ht) h1 (by decide) (by decide) (by decide) (by decide)⟩⟩
        | false => exact iteF (last kj ro (1 + r9) H' (Same.refl H') h1 ro0 ro1 la0 la1)
      refine seqI (ifI (pvEq (pvIx hpp (v := .str m.st.ph)) pvC) ?_)
      cases c : decide (V.str m.st.ph = V.str "asked") with
      | true => exact iteT (two "offer" kd_offer)
      | false => exact iteF (two ki ki0)
    have e1 : PvT (tTest (tOp rEq (tOp (rIxL K) (tVar 2) (tC (.int 0))) (tC (.str "holding")))) [some (.ref b), some (.str n), some (.ref p), some (.str kp), some (.int nu), some (.int ro), some (.int (1 + r9)), some (.str ki)] H10 (decide (V.str m.st.ph = V.str "holding")) := pvEq (pvIx hp10) pvC
    refine seqI (e1 _ ?_)
    cases c : decide (V.str m.st.ph = V.str "holding") with
    | false => exact iteF (iteF (fin H10 (some nu) kD (hb10.mono (by omega)) (.inr ⟨nu, rfl, nu0, nu1⟩)))
    | true =>
      refine iteT ?_
      refine takeI hb10 (by omega) (by decide) (by decide) (fun H11 r11 k11 hb11 a11 c11 => ?_) rfl
      refine ⟨_, _, rfl, rfl, _, rfl, ?_⟩
      have kE := kD.trans k11
      have hp11 : MeAt H11 p m := lst_kb hp hb kE len9
      cases c2 : decide (0 < r11) with
      | false => exact iteF (fin H11 (some nu) kE (hb11.mono (by omega)) (.inr ⟨nu, rfl, nu0, nu1⟩))
      | true =>
        refine iteT ?_
        refine pvIx hp11 (v := oV m.st.num?) rfl rfl _ ?_
        exact fin H11 m.st.num? kE (hb11.mono (by omega)) hnum
end
end K39
set_option Elab.async false
set_option linter.all false
set_option maxRecDepth 100000
set_option maxHeartbeats 4000000
/-! _law_names. -/
namespace K39
open PySem PySem.Spec PyProof.Rows L2

/-! ### texts of small letters -/
def Sg (z : Str) : Prop := ∀ c ∈ z.cps.toList, 97 ≤ c ∧ c ≤ 122
theorem sg_append {a b : Str} (ha : Sg a) (hb : Sg b) : Sg (a ++ b) := by
  intro c hc
  have hc' : c ∈ TL.tl (a ++ b) := hc
  rw [TL.tl_append] at hc'
  exact (List.mem_append.mp hc').elim (ha c) (hb c)
theorem len_tl (z : Str) : z.length = z.cps.toList.length := (Array.length_toList (xs := z.cps)).symm
theorem len_append (a b : Str) : (a ++ b).length = a.length + b.length := by
  rw [len_tl, len_tl, len_tl]
  show (TL.tl (a ++ b)).length = (TL.tl a).length + (TL.tl b).length
  rw [TL.tl_append, List.length_append]
theorem sg_one {c : Nat} (h : 97 ≤ c ∧ c ≤ 122) : Sg ⟨#[c]⟩ := by
  intro d hd
  rw [List.mem_singleton.mp (show d ∈ [c] from hd)]
  exact h
theorem joinL_mem {ps : List (List Nat)} : ∀ c ∈ TL.joinL [] ps, ∃ p ∈ ps, c ∈ p := by
  induction ps with
  | nil => intro c h; cases h
  | cons p r ih =>
    intro c h
    cases r with
    | nil => exact ⟨p, by simp, h⟩
    | cons q r2 =>
      have h2 : c ∈ p ++ ([] ++ TL.joinL [] (q :: r2)) := h
      rw [List.nil_append] at h2
      rcases List.mem_append.mp h2 with h3 | h3
      · exact ⟨p, by simp, h3⟩
      · obtain ⟨x, h4, h5⟩ := ih c h3
        exact ⟨x, List.mem_cons_of_mem _ h4, h5⟩
theorem joinL_len {ps : List (List Nat)} (h : ∀ p ∈ ps, p.length = 1) : (TL.joinL [] ps).length = ps.length := by
  induction ps with
  | nil => rfl
  | cons p r ih =>
    cases r with
    | nil => exact h p (by simp)
    | cons q r2 =>
      have e : TL.joinL [] (p :: q :: r2) = p ++ ([] ++ TL.joinL [] (q :: r2)) := rfl
      have i := ih fun x hx => h x (List.mem_cons_of_mem _ hx)
      rw [e, List.nil_append, List.length_append, h p (by simp), i]
      simp only [List.length_cons]
      omega
theorem join_sg {ys : List Str} (h : ∀ y ∈ ys, y.length = 1 ∧ Sg y) : (Txt.join "" ys).length = ys.length ∧ Sg (Txt.join "" ys) := by
  have e : (Txt.join "" ys).cps.toList = TL.joinL [] (ys.map TL.tl) := by
    rw [TL.join_eq]
    exact TL.tl_join "" ys
  constructor
  · rw [len_tl, e, joinL_len, List.length_map]
    intro p hp
    obtain ⟨y, hy, rfl⟩ := List.mem_map.mp hp
    rw [← len_tl]
    exact (h y hy).1
  · intro c hc
    rw [e] at hc
    obtain ⟨p, hp, hcp⟩ := joinL_mem c hc
    obtain ⟨y, hy, rfl⟩ := List.mem_map.mp hp
    exact (h y hy).2 c hcp
theorem cutS_sg {z : Str} (h : Sg z) (lo hi : Option Int) : Sg (cutS z lo hi) := by
  intro c hc
  unfold cutS at hc
  exact h c (List.mem_of_mem_drop (List.mem_of_mem_take (by simpa using hc)))
theorem sIx_in {n d : Nat} {a : Int} (h0 : 0 ≤ a) (h1 : a ≤ n) : HT.sIx n d (some a) = a.toNat := by
  have e : HT.sIx n d (some a) = if a < 0 then (a + (n : Int)).toNat else min a.toNat n := rfl
  rw [e, if_neg (by omega)]
  omega
theorem cutS_len1 (z : Str) {a : Int} (h0 : 0 ≤ a) (h1 : a ≤ z.length) : (cutS z none (some a)).length = a.toNat := by
  rw [len_tl]
  unfold cutS
  rw [HT.sIx_none, sIx_in h0 h1]
  have e2 : z.cps.toList.length = z.length := (len_tl z).symm
  simp only [List.drop_zero, Nat.sub_zero, List.length_take, e2]
  omega
theorem cutS_len2 (z : Str) {a : Int} (h0 : 0 ≤ a) (h1 : a ≤ z.length) : (cutS z (some a) none).length = z.length - a.toNat := by
  rw [len_tl]
  unfold cutS
  rw [HT.sIx_none, sIx_in h0 h1]
  have e2 : z.cps.toList.length = z.length := (len_tl z).symm
  simp only [List.length_take, List.length_drop, e2]
  omega
def abc : Str := "abcdefghijklmnopqrstuvwxyz"
theorem abc_at {r : Int} (h0 : 0 ≤ r) (h1 : r < 26) : ∃ c : Nat, atI abc.cps.toList r = some c ∧ 97 ≤ c ∧ c ≤ 122 := by
  have e : abc.cps.toList = (List.range 26).map (· + 97) := by decide +kernel
  rw [e]
  have hj : r.toNat < 26 := by omega
  refine ⟨r.toNat + 97, ?_, by omega, by omega⟩
  have h := atI_nat (xs := (List.range 26).map (· + 97)) (j := r.toNat) (v := r.toNat + 97) (by simp [hj])
  rwa [show ((r.toNat : Nat) : Int) = r by omega] at h
theorem Nm_of {z : Str} (h1 : 1 ≤ z.length) (h2 : z.length ≤ 8) (h3 : Sg z) : Nm z := ⟨h1, h2, h3⟩
theorem BagAt.upd {H : Hp} {b D : Addr} {z : Int} {o : HO} (h : BagAt H b z) (ne : D ≠ b) : BagAt (L2.upd H D o) b z :=
  let ⟨A, B, C, h1, h2⟩ := h; ⟨A, B, C, (upd_ne (Ne.symm ne)).trans h1, h2⟩

theorem in_two {z : Str} (h : inV (.str z) [.str "one", .str "two"] = true) : z.length = 3 := by
  have h2 : ((("one" : Str) == z) || ((("two" : Str) == z) || false)) = true := h
  rw [Bool.or_false] at h2
  rcases (Bool.or_eq_true _ _ ▸ h2) with h3 | h3
  · rw [← beq_iff_eq.mp h3]; decide +kernel
  · rw [← beq_iff_eq.mp h3]; decide +kernel
theorem nm_end {z : Str} {n : Nat} (h1 : z.length = n + 1) (h2 : n ≤ 7) (g : Sg z) : Nm (z ++ (if inV (.str z) [.str "one", .str "two"] = true then ("a" : Str) else Str.empty)) ∧ z.length + (if inV (.str z) [.str "one", .str "two"] = true then ("a" : Str) else Str.empty).length ≤ sizeLine := by
  have ea : ("a" : Str).length = 1 := by decide +kernel
  have ee : (Str.empty : Str).length = 0 := by decide +kernel
  have s100 : 100 ≤ sizeLine := by decide
  cases c : inV (.str z) [.str "one", .str "two"] with
  | true =>
    have h3 := in_two c
    rw [if_pos rfl]
    refine ⟨⟨by rw [len_append, ea]; omega, by rw [len_append, ea]; omega, sg_append g ?_⟩, by rw [ea]; omega⟩
    unfold Sg
    decide +kernel
  | false =>
    rw [if_neg (by decide)]
    refine ⟨⟨by rw [len_append, ee]; omega, by rw [len_append, ee]; omega, sg_append g ?_⟩, by rw [ee]; omega⟩
    unfold Sg
    decide +kernel
section
variable {P : Program} {w : World} {K : PySem.W.Frag} {mg : Str → Option Value} {base : Heap}
def spNames : Sp := fun vs H Q _ => ∃ (b : Addr) (z : Int), vs = [.ref b, .int 2] ∧ BagAt H b z ∧ z ≤ 99980 ∧
  ∀ (H' : Hp) (l : Addr) (n1 n2 : Str), Kp [b] H H' → BagAt H' b (z + 12) → H l = none → H' l = some (.lst [.str n1, .str n2]) → Nm n1 → Nm n2 → Q (.ref l) H'
abbrev nN : List Str := ["_law_bag_here", "_law_many", "_law_letters", "_law_base", "_law_at", "_law_first", "_law_found", "_law_k", "_law_name", "_law_place"]
theorem sc_names : FnScope nN ["_law_bag_here", "_law_many"] (defScope sNames) := ⟨rfl, rfl, rfl, by decide +kernel, rfl, by decide +kernel, by decide +kernel⟩
theorem d_names (T : Tx w K mg) : DefAt P w K mg base CX0 2 (He.ga K "_law_names") ["_law_bag_here", "_law_many"] [] spNames := by
  obtain ⟨fd, F⟩ := T.g3 2 "_law_names" sNames
  refine ⟨⟨fd, [], ok0 F sc_names (fun vs H Q E h => ?_) (fun cdv A outer s H vs Q E hr h => ?_), F.bindsN fun _ _ _ _ _ _ us hl => match us, hl with | [_, _], _ => rfl, .nil⟩, F.kp⟩
  · obtain ⟨b, z, rfl, _⟩ := h
    rfl
  · obtain ⟨b, z, rfl, hb, hz, q⟩ := h
    refine ⟨_, pss_cons (ps_set (i := 2) sc_names.nd rfl (.inr rfl) pe_str)
      (pss_cons (ps_set (i := 3) sc_names.nd rfl (.inl rfl) (pe_join pe_str (pe_lc (own := [("_law_place", 9)]) (g := gName 9) (tt := tYes) (by rfl) sc_names.nd (pi_range1 (by rfl) (T.free "range") (pa_cons (pe_callD (d_tk T) hr (by rfl) (T.glo "_law_take") pass0 (pa_cons (pv 0) (pa_cons pe_int pa_nil))) pa_nil))
          (blkOk_by (own := [("_law_place", 9)]) (N := nN) (sc := defScope sNames) (by decide +kernel)) (fun _ _ _ _ _ => pg_name (i := 9) sc_names.nd rfl (Or.inl rfl)) (fun _ _ _ _ _ => pts_nil)
          (fun _ _ _ _ _ => pe_ix ix_str (pv 2) (pe_callD (d_tk T) hr (by rfl) (T.glo "_law_take") pass0 (pa_cons (pv 0) (pa_cons pe_int pa_nil))) (fun _ _ => rfl)))))
      (pss_cons (ps_set (i := 4) sc_names.nd rfl (.inl rfl) (pe_callD (d_tk T) hr (by rfl) (T.glo "_law_take") pass0 (pa_cons (pv 0) (pa_cons (pe_op op_add (pe_callB call_len_str (by rfl) (T.free "len") PySem.boot_len (pa_cons (pv 3) pa_nil)) pe_int) pa_nil))))
      (pss_cons (ps_set (i := 5) sc_names.nd rfl (.inl rfl) (pe_callD (d_tk T) hr (by rfl) (T.glo "_law_take") pass0 (pa_cons (pv 0) (pa_cons pe_int pa_nil))))
      (pss_cons (ps_set (i := 6) sc_names.nd rfl (.inl rfl) (pe_lst pa_nil))
      (pss_cons (ps_for PassesOwn.never rfl (pi_range1 (by rfl) (T.free "range") (pa_cons (pv 1) pa_nil)) (pg_name (i := 7) sc_names.nd rfl (.inl rfl))
        (pss_cons (ps_set (i := 8) sc_names.nd rfl (.inl rfl) (pe_op op_add_str (pe_op op_add_str (pe_slice sl_str (pv 3) po_none (po_some (pv 4))) (pe_ix ix_str (pv 2) (pe_op op_mod (pe_op op_add (pv 5) (pv 7)) pe_int) (fun _ _ => rfl))) (pe_slice sl_str (pv 3) (po_some (pv 4)) po_none)))
        (pss_one (ps_expr (pe_bm PySem.F.plainAttrs_list PySem.F.slot_list_append PySem.F.type_list_append mt_append (pv 6) (pa_cons (pe_op op_add_str (pv 8) (pe_op op_signs pe_str (pe_callTy call_int1 (by rfl) (T.free "int") (by decide +kernel) (pa_cons (pe_cmpR op_in_seq (pv 8) (pe_lst (pa_cons pe_str (pa_cons pe_str pa_nil))) (by rfl)) pa_nil)))) pa_nil))))))
      (pss_one (ps_ret (pv 6)))))))), ?_⟩
    refine seqI ?_
    refine seqI ⟨⟨_, rfl⟩, ?_⟩
    refine takeI hb (by omega) (by decide) (by decide) (fun H1 r1 k1 hb1 a1 c1 => ?_) rfl
    refine ⟨r1, rfl, by omega, by omega, fun D hD => ?_⟩
    have nD : D ≠ b := hb1.nl hD
    refine lc_range (lo := 0) (n := r1.toNat) (fun i H' => i ≤ r1.toNat ∧ Kp [b] H1 H' ∧ BagAt H' b (z + 1 + i) ∧ ∃ ys : List Str, H' D = some (.lst (ys.map V.str)) ∧ ys.length = i ∧ ∀ y ∈ ys, y.length = 1 ∧ Sg y)
      ⟨Nat.zero_le _, (Kp.refl [b] H1).new hD, (hb1.upd nD).mono (by omega), [], upd_same, rfl, fun _ h => nomatch h⟩ ?_ ?_
    · rintro i H2 hi ⟨_, k2, hb2, ys, y1, y2, y3⟩
      refine ⟨rfl, ?_⟩
      refine ⟨_, rfl, ?_⟩
      refine takeI hb2 (by omega) (by decide) (by decide) (fun H3 r3 k3 hb3 a3 c3 => ?_) rfl
      obtain ⟨c, e3, g1, g2⟩ := abc_at a3 c3
      refine ⟨abc, r3, c, rfl, rfl, by decide +kernel, e3, ?_⟩
      refine ⟨ys.map V.str, k3 _ _ (by simpa using nD) y1, ?_, ?_⟩
      · rw [List.length_map, y2]
        have : 100 < sizeLine := by decide
        omega
      · refine ⟨hi, (k2.trans k3).own hD, (hb3.upd nD).mono (by push_cast; omega), ys ++ [⟨#[c]⟩], ?_, by simp [y2], ?_⟩
        · rw [List.map_append]
          exact upd_same
        · intro y hy
          rcases List.mem_append.mp hy with h | h
          · exact y3 y h
          · rw [List.mem_singleton.mp h]
            exact ⟨rfl, sg_one ⟨g1, g2⟩⟩
    · rintro H2 ⟨_, k2, hb2, ys, y1, y2, y3⟩
      obtain ⟨j1, j2⟩ := join_sg y3
      refine ⟨"", D, ys, rfl, rfl, .inl (SqL.of y1), ?_, ?_⟩
      · have e : ∀ l : List Str, (∀ y ∈ l, y.length = 1 ∧ Sg y) → (l.map (·.length)).sum = l.length := by
          intro l
          induction l with
          | nil => intro _; rfl
          | cons a t ih =>
            intro h
            rw [List.map_cons, List.sum_cons, ih fun y hy => h y (List.mem_cons_of_mem _ hy), (h a (by simp)).1, List.length_cons]
            omega
        have e0 : ("" : Str).length = 0 := by decide +kernel
        rw [e ys y3, e0]
        omega
      have bl : (Txt.join "" ys).length ≤ 7 := by rw [j1]; omega
      generalize Txt.join "" ys = bs at j1 j2 bl
      have kA : Kp [b] H H2 := k1.trans k2
      have sz : bs.length ≤ sizeLine := Nat.le_trans bl (by decide)
      refine seqI ⟨_, rfl, _, rfl, _, rfl, sz, _, _, rfl, rfl, ?_⟩
      refine ⟨b, (bs.length : Int) + 1, _, rfl, by omega, by omega, hb2, by omega, fun H3 ra k3 hb3 a3 c3 => ?_⟩
      refine seqI ?_
      refine takeI hb3 (by omega) (by decide) (by decide) (fun H4 rf k4 hb4 a4 c4 => ?_) rfl
      refine seqI ⟨(by show 0 ≤ sizeLine; decide), fun l hl => ?_⟩
      have kB : Kp [b] H H4 := (kA.trans k3).trans k4
      have nl : l ≠ b := hb4.nl hl
      have fl : H l = none := by
        obtain ⟨ys4, h4⟩ := hb4.lst
        exact kB.free1 h4 hl
      refine seqI ⟨_, rfl, 2, rfl, by decide, by decide, ?_⟩
      refine for_range (lo := 0) (n := 2) (fun i σ H' => Kp [b] H H' ∧ BagAt H' b (z + 12) ∧ (∃ k nm', σ = [some (.ref b), some (.int 2), some (.str abc), some (.str bs), some (.int ra), some (.int rf), some (.ref l), k, nm', none]) ∧
        ∃ ns : List Str, H' l = some (.lst (ns.map V.str)) ∧ ns.length = i ∧ ∀ n ∈ ns, Nm n)
        ⟨kB.new hl, (hb4.upd nl).mono (by omega), ⟨none, none, rfl⟩, [], upd_same, rfl, fun _ h => nomatch h⟩ ?_ ?_
      · rintro i σ H5 hi ⟨k5, hb5, ⟨k, nm', rfl⟩, ns, n1, n2, n3⟩
        refine seqI ?_
        refine ⟨_, rfl, _, rfl, ra, rfl, bs, rfl, sz, ?_⟩
        refine ⟨_, rfl, _, rfl, _, rfl, _, _, rfl, rfl, _, _, rfl, rfl, (by show (0 : Int) < 26; decide), ?_⟩
        obtain ⟨c, e3, g1, g2⟩ := abc_at (r := (rf + (0 + (i : Int))) % 26) (Int.emod_nonneg _ (by decide)) (Int.emod_lt_of_pos _ (by decide))
        refine ⟨abc, _, c, rfl, rfl, by decide +kernel, e3, ?_⟩
        have la : ra ≤ bs.length := by omega
        have q1 := cutS_len1 bs a3 la
        have q2 := cutS_len2 bs a3 la
        have q3 : (⟨#[c]⟩ : Str).length = 1 := rfl
        have l1 : (cutS bs none (some ra) ++ ⟨#[c]⟩ : Str).length = ra.toNat + 1 := by rw [len_append, q1, q3]
        have l2 : (cutS bs none (some ra) ++ ⟨#[c]⟩ ++ cutS bs (some ra) none : Str).length = bs.length + 1 := by
          rw [len_append, l1, q2]
          omega
        have g : Sg (cutS bs none (some ra) ++ ⟨#[c]⟩ ++ cutS bs (some ra) none) := sg_append (sg_append (cutS_sg j2 _ _) (sg_one ⟨g1, g2⟩)) (cutS_sg j2 _ _)
        have s100 : 100 ≤ sizeLine := by decide
        refine ⟨_, _, rfl, rfl, by rw [q1, q3]; omega, ?_⟩
        refine ⟨_, rfl, _, rfl, ra, rfl, bs, rfl, sz, ?_⟩
        refine ⟨_, _, rfl, rfl, by rw [l1, q2]; omega, ?_⟩
        generalize cutS bs none (some ra) ++ ⟨#[c]⟩ ++ cutS bs (some ra) none = nm0 at l2 g
        refine ⟨_, rfl, .inl ⟨rfl, _, SqL.of n1⟩, ?_⟩
        refine ⟨_, rfl, ?_⟩
        refine ⟨_, rfl, (by show 2 ≤ sizeLine; decide), fun t ht => ?_⟩
        refine ⟨t, _, rfl, .inl (SqL.of upd_same), rfl, by decide +kernel, ?_⟩
        refine .inr ⟨inV (.str nm0) [.str "one", .str "two"], rfl, ?_⟩
        refine ⟨"a", _, rfl, rfl, by decide +kernel, ?_⟩
        have nmf := nm_end (l2.trans (by omega : bs.length + 1 = bs.length + 1)) (by omega) g
        generalize inV (.str nm0) [.str "one", .str "two"] = bb at nmf
        refine ⟨nm0, _, rfl, rfl, nmf.2, ?_⟩
        have s5 : Same H5 (upd H5 t (.lst [.str "one", .str "two"])) := (Same.refl H5).new ht
        refine ⟨l, _, _, rfl, rfl, s5 _ _ n1, by rw [List.length_map, n2]; omega, ?_⟩
        have nl5 : H l = none := fl
        refine ⟨(k5.trans (Kp.of_same s5)).own fl, (hb5.same s5).upd nl, ⟨_, _, rfl⟩, ns ++ [nm0 ++ (if bb = true then ("a" : Str) else Str.empty)], ?_, by simp [n2], ?_⟩
        · rw [List.map_append]
          exact upd_same
        · intro n hn
          rcases List.mem_append.mp hn with h | h
          · exact n3 n h
          · rw [List.mem_singleton.mp h]
            exact nmf.1
      · rintro σ H5 ⟨k5, hb5, ⟨k, nm', rfl⟩, ns, n1, n2, n3⟩
        match ns, n2 with
        | [x1, x2], _ => exact ⟨_, rfl, q H5 l x1 x2 k5 hb5 fl n1 (n3 x1 (by simp)) (n3 x2 (by simp))⟩
end
end K39
set_option Elab.async false
set_option linter.all false
set_option maxRecDepth 100000
set_option maxHeartbeats 4000000
/-! What repr is asked of; _law_tells. -/
namespace K39
open PySem PySem.Spec PyProof.Rows L2

/-! ### small data -/
structure Sh (k n : Nat) (d : PyData) : Prop where
  a : d.showable = true
  b : d.hasDict = false
  c : d.leavesShort 13 = true
  e : d.bulk ≤ n
  f : d.depth ≤ k
structure ShAll (k n : Nat) (ds : List PyData) : Prop where
  a : PyData.showableAll ds = true
  b : PyData.hasDictAll ds = false
  c : PyData.leavesShortAll 13 ds = true
  e : PyData.bulkAll ds ≤ n
  f : PyData.depthAll ds ≤ k
theorem ShAll.nil {k : Nat} : ShAll k 0 [] := ⟨rfl, rfl, rfl, Nat.le_refl _, Nat.zero_le _⟩
theorem ShAll.cons {k n n' : Nat} {d : PyData} {ds : List PyData} (h : Sh k n d) (t : ShAll k n' ds) : ShAll k (n + 1 + n') (d :: ds) := by
  refine ⟨?_, ?_, ?_, ?_, ?_⟩
  · simp only [PyData.showableAll, h.a, t.a, Bool.and_self]
  · simp only [PyData.hasDictAll, h.b, t.b, Bool.or_self]
  · simp only [PyData.leavesShortAll, h.c, t.c, Bool.and_self]
  · have := h.e; have := t.e
    simp only [PyData.bulkAll]; omega
  · have := h.f; have := t.f
    simp only [PyData.depthAll]; omega
theorem Sh.list {k n : Nat} {ds : List PyData} (h : ShAll k n ds) : Sh (k + 1) n (.list ds) := ⟨by simp only [PyData.showable, h.a], by simp only [PyData.hasDict, h.b], by simp only [PyData.leavesShort, h.c], by simp only [PyData.bulk]; exact h.e, by have := h.f; simp only [PyData.depth]; omega⟩
theorem Sh.tup {k n : Nat} {ds : List PyData} (h : ShAll k n ds) : Sh (k + 1) n (.tuple ds) := ⟨by simp only [PyData.showable, h.a], by simp only [PyData.hasDict, h.b], by simp only [PyData.leavesShort, h.c], by simp only [PyData.bulk]; exact h.e, by have := h.f; simp only [PyData.depth]; omega⟩
theorem Sh.mono {k k' n n' : Nat} {d : PyData} (h : Sh k n d) (hk : k ≤ k') (hn : n ≤ n') : Sh k' n' d := ⟨h.a, h.b, h.c, Nat.le_trans h.e hn, Nat.le_trans h.f hk⟩
theorem Sh.none {k n : Nat} : Sh k n .none := ⟨rfl, rfl, rfl, Nat.zero_le _, by simp only [PyData.depth]; exact Nat.zero_le _⟩
theorem Sh.int {k n : Nat} {i : Int} (h : i.natAbs < 10 ^ 12) : Sh k n (.int i) := by
  refine ⟨?_, rfl, ?_, Nat.zero_le _, by simp only [PyData.depth]; exact Nat.zero_le _⟩
  · simp only [PyData.showable, decide_eq_true_eq]
    exact log2_small (Nat.lt_of_lt_of_le h (by decide +kernel))
  · simp only [PyData.leavesShort, decide_eq_true_eq]
    exact PyData.shown_int_le h
theorem Sh.str {k : Nat} {z : Str} (h : ∀ c ∈ z.cps.toList, c < 16 ^ 8) (hl : z.length ≤ 20) : Sh k 20 (.str z) := by
  refine ⟨rfl, rfl, ?_, hl, by simp only [PyData.depth]; exact Nat.zero_le _⟩
  simp only [PyData.leavesShort, List.all_eq_true, decide_eq_true_eq]
  exact h
theorem Sh.lit {k : Nat} (z : Str) (h : ((z.cps.toList.all fun c => decide (c < 16 ^ 8)) && decide (z.length ≤ 20)) = true := by decide +kernel) : Sh k 20 (.str z) := by
  simp only [Bool.and_eq_true, List.all_eq_true, decide_eq_true_eq] at h
  exact .str h.1 h.2
theorem Sh.nm {k : Nat} {z : Str} (h : Nm z ∨ z = "") : Sh k 20 (.str z) := by
  rcases h with h | rfl
  · exact .str (fun c hc => Nat.lt_of_le_of_lt (h.2.2 c hc).2 (by decide)) (Nat.le_trans h.2.1 (by decide))
  · exact .lit ""
def oD : Option Int → PyData
  | none => .none
  | some i => .int i
theorem Sh.opt {k n : Nat} {o : Option Int} (h : ∀ i, o = some i → i.natAbs < 10 ^ 12) : Sh k n (oD o) := by
  cases o with
  | none => exact .none
  | some i => exact .int (h i rfl)
theorem dp_opt {K : PySem.W.Frag} {H : Hp} (o : Option Int) : Dp K H (oV o) (oD o) := by
  cases o with
  | none => exact .non
  | some i => exact .int i
/-- what the repr rule asks -/
theorem Sh.fits {k n : Nat} {d : PyData} (h : Sh k n d) (hk : k ≤ 50) (hn : n ≤ 2 ^ 20) : d.showable = true ∧ d.hasDict = false ∧ d.shown.length ≤ sizeLine ∧ d.depth ≤ 50 :=
  ⟨h.a, h.b, PyData.shown_fits_bulk (B := 13) (by decide) (by decide) h.c (Nat.le_trans h.e hn), Nat.le_trans h.f hk⟩

/-! ### _law_tells -/
def tellD (s : Hd) (r : Int) : PyData := .list [.str s.ph, oD s.num?, oD s.till?, .str (s.dueS r)]
def tellV (s : Hd) (r : Int) : List V := [.str s.ph, oV s.num?, oV s.till?, .str (s.dueS r)]
/-- numbers that are shown in a few signs -/
structure Fit (s : Hd) : Prop where
  num : ∀ i, s.num? = some i → i.natAbs < 10 ^ 12
  till : ∀ i, s.till? = some i → i.natAbs < 10 ^ 12
theorem tell_dp {K : PySem.W.Frag} {H : Hp} {a : Addr} {s : Hd} {r : Int} (h : H a = some (.lst (tellV s r))) : Dp K H (.ref a) (tellD s r) :=
  .lst (SqL.of h) (.cons (.str _) (.cons (dp_opt _) (.cons (dp_opt _) (.cons (.str _) .nil))))
theorem sh_ph {k : Nat} (s : Hd) : Sh k 20 (.str s.ph) := by
  cases s
  · exact .lit "idle"
  · exact .lit "asked"
  · exact .lit "wanting"
  · exact .lit "holding"
theorem sh_due {k : Nat} (s : Hd) (r : Int) : Sh k 20 (.str (s.dueS r)) := by
  cases s with
  | idle => exact .lit "none"
  | asked => exact .lit "none"
  | wanting => exact .lit "none"
  | hold n t kp sp l =>
    have e : (Hd.hold n t kp sp l).dueS r = if 8 * (t - r) < sp then ("all" : Str) else if sp < 2 * (t - r) then ("keep" : Str) else ("renew" : Str) := rfl
    rw [e]
    by_cases c : 8 * (t - r) < sp
    · rw [if_pos c]; exact .lit "all"
    · rw [if_neg c]
      by_cases c2 : sp < 2 * (t - r)
      · rw [if_pos c2]; exact .lit "keep"
      · rw [if_neg c2]; exact .lit "renew"
theorem tell_sh {s : Hd} {r : Int} (h : Fit s) : Sh 1 84 (tellD s r) :=
  (Sh.list (.cons (sh_ph s) (.cons (n := 0) (.opt h.num) (.cons (n := 0) (.opt h.till) (.cons (sh_due s r) .nil))))).mono (Nat.le_refl _) (by decide)
section
variable {P : Program} {w : World} {K : PySem.W.Frag} {mg : Str → Option Value} {base : Heap}
def spTells (K : PySem.W.Frag) : Sp := fun vs H Q _ => ∃ (x p : Addr) (r : Int) (n : Str) (m : Ak), vs = [.ref x, .ref p, .int r] ∧ AskAt K H x n m ∧ MeAt H p m ∧ Fit (settled m r).st ∧ ∀ H', Same H H' → Q (.bl true) H'
abbrev nE : List Str := ["_law_asker", "_law_me", "_law_reading", "_law_here", "_law_due", "_law_left", "_law_word", "_law_lap", "_law_told"]
theorem sc_tells : FnScope nE ["_law_asker", "_law_me", "_law_reading"] (defScope sTells) := ⟨rfl, rfl, rfl, by decide +kernel, rfl, by decide +kernel, by decide +kernel⟩
theorem settled_till {m : Ak} {r : Int} {n t : Int} {k : Str} {s l : Int} (h : (settled m r).st = .hold n t k s l) : r < t := by
  obtain ⟨st, mk, wt, sn⟩ := m
  cases st with
  | idle => cases h
  | asked => cases h
  | wanting => cases h
  | hold num till kp span lap =>
    by_cases c : till ≤ r
    · have e : settled ⟨.hold num till kp span lap, mk, wt, sn⟩ r = idleA mk := if_pos c
      rw [e] at h
      cases h
    · have e : settled ⟨.hold num till kp span lap, mk, wt, sn⟩ r = ⟨.hold num till kp span lap, mk, wt, sn⟩ := if_neg c
      rw [e] at h
      cases h
      omega
theorem d_tells (T : Tx w K mg) : DefG P w K mg base 4 (He.ga K "_law_tells") ["_law_asker", "_law_me", "_law_reading"] (spTells K) := by
  obtain ⟨fd, F⟩ := T.g3 11 "_law_tells" sTells
  refine ⟨⟨fd, okG F sc_tells (fun vs H Q E h => ?_) (fun cdv A outer s H vs Q E hgd hr h => ?_), F.bindsN fun _ _ _ _ _ _ us hl => match us, hl with | [_, _, _], _ => rfl⟩, F.kp⟩
  · obtain ⟨x, p, r, n, m, rfl, _⟩ := h
    rfl
  · obtain ⟨x, p, r, n, m, rfl, A0, hp, fit, q⟩ := h
    refine ⟨_, pss_cons (ps_set (i := 3) sc_tells.nd rfl (.inl rfl) (pe_callD (d_settled T) (hr.mono (by decide)) (by rfl) (T.glo "_law_settled") pass0 (pa_cons (pv 1) (pa_cons (pv 2) pa_nil))))
      (pss_cons (ps_set (i := 4) sc_tells.nd rfl (.inl rfl) (pe_lst (pa_cons (pe_ix ix_list (pv 3) pe_int (fun _ _ => rfl)) (pa_cons pe_non (pa_cons pe_non (pa_cons pe_str pa_nil))))))
      (pss_cons (ps_if (pt_cmpR op_eq (pe_ix ix_list (pv 3) pe_int (fun _ _ => rfl)) pe_str (nomark _))
        (pss_cons (ps_set (i := 5) sc_tells.nd rfl (.inl rfl) (pe_op op_sub (pe_ix ix_list (pv 3) pe_int (fun _ _ => rfl)) (pv 2)))
        (pss_cons (ps_set (i := 6) sc_tells.nd rfl (.inl rfl) (pe_ifExp (pt_cmpR op_lt (pe_op op_mul pe_int (pv 5)) (pe_ix ix_list (pv 3) pe_int (fun _ _ => rfl)) (nomark _)) pe_str pe_str))
        (pss_one (ps_set (i := 4) sc_tells.nd rfl (.inl rfl) (pe_lst (pa_cons (pe_ix ix_list (pv 3) pe_int (fun _ _ => rfl)) (pa_cons (pe_ix ix_list (pv 3) pe_int (fun _ _ => rfl)) (pa_cons (pe_ix ix_list (pv 3) pe_int (fun _ _ => rfl))
          (pa_cons (pe_ifExp (pt_cmpR op_gt (pe_op op_mul pe_int (pv 5)) (pe_ix ix_list (pv 3) pe_int (fun _ _ => rfl)) (nomark _)) pe_str (pv 6)) pa_nil))))))))) pss_nil)
      (pss_cons (ps_for PassesOwn.never rfl (pi_range1 (by rfl) (T.free "range") (pa_cons pe_int pa_nil)) (pg_name (i := 7) sc_tells.nd rfl (.inl rfl))
        (pss_cons (ps_set (i := 8) sc_tells.nd rfl (.inl rfl) (pe_lst (pa_cons (pe_methD (E := E0) (pv 0) (T.cls "Asker") (T.meth "state") (d_state T) (hr.mono (by decide)) pass0 (pa_cons (pv 2) pa_nil)) (pa_cons (pe_methD (E := E0) (pv 0) (T.cls "Asker") (T.meth "held") (d_held T) (hr.mono (by decide)) pass0 (pa_cons (pv 2) pa_nil))
          (pa_cons (pe_methD (E := E0) (pv 0) (T.cls "Asker") (T.meth "held_to") (d_heldTo T) (hr.mono (by decide)) pass0 (pa_cons (pv 2) pa_nil)) (pa_cons (pe_methD (E := E0) (pv 0) (T.cls "Asker") (T.meth "due") (d_due T) (hr.mono (by decide)) pass0 (pa_cons (pv 2) pa_nil)) pa_nil))))))
        (pss_one (ps_if (pt_cmpR op_ne (pe_callB (call_reprD hgd hr.units) (by rfl) (T.free "repr") (by decide +kernel) (pa_cons (pv 8) pa_nil)) (pe_callB (call_reprD hgd hr.units) (by rfl) (T.free "repr") (by decide +kernel) (pa_cons (pv 4) pa_nil)) (nomark _)) pss_never pss_nil))))
      (pss_one (ps_ret pe_bl))))), ?_⟩
    refine seqI ⟨_, rfl, _, rfl, p, r, m, rfl, hp, fun H1 p1 s1 f1 hp1 => ?_⟩
    have A1 : AskAt K H1 x n m := let ⟨dx, se, h1, h2⟩ := A0; ⟨dx, se, h1, s1 _ _ h2⟩
    have lastI : ∀ (H2 : Hp) (D : Addr) (v5 v6 : Option V), Same H1 H2 → H2 D = some (.lst (tellV (settled m r).st r)) →
        (tSeq (tFor (iRng1 (tCons (tC (.int 2)) tNil)) (gName 7)
          (tSeq (tAsg (tLst (tCons (tMeth (aC K) "state" (spState K) [] E0 (tVar 0) (tCons (tVar 2) tNil)) (tCons (tMeth (aC K) "held" (spHeld K) [] E0 (tVar 0) (tCons (tVar 2) tNil)) (tCons (tMeth (aC K) "held_to" (spHeldTo K) [] E0 (tVar 0) (tCons (tVar 2) tNil)) (tCons (tMeth (aC K) "due" (spDue K) [] E0 (tVar 0) (tCons (tVar 2) tNil)) tNil))))) (gName 8))
            (tIfS (tTest (tOp rNe (tCB (fun xs H Q => ∃ (a : Addr) (d : PyData), xs = [.ref a] ∧ Dp K H (.ref a) d ∧ d.showable = true ∧ d.hasDict = false ∧ d.shown.length ≤ sizeLine ∧ d.depth ≤ 50 ∧ Q (.str d.shown) H) (tCons (tVar 8) tNil))
              (tCB (fun xs H Q => ∃ (a : Addr) (d : PyData), xs = [.ref a] ∧ Dp K H (.ref a) d ∧ d.showable = true ∧ d.hasDict = false ∧ d.shown.length ≤ sizeLine ∧ d.depth ≤ 50 ∧ Q (.str d.shown) H) (tCons (tVar 4) tNil)))) tNever tNext)))
          (tRet (tC (.bl true)))) { nx := fun _ H' => Q .non H', rt := Q } [some (.ref x), some (.ref p), some (.int r), some (.ref p1), some (.ref D), v5, v6, none, none] H2 := by
      intro H2 D v5 v6 s2 hD
      obtain ⟨g1, g2, g3, g4⟩ := (tell_sh (r := r) fit).fits (by decide) (by decide)
      refine seqI ⟨2, rfl, by decide, by decide, ?_⟩
      refine for_range (lo := 0) (n := 2) (fun i σ H' => Same H1 H' ∧ H' D = some (.lst (tellV (settled m r).st r)) ∧ ∃ a b, σ = [some (.ref x), some (.ref p), some (.int r), some (.ref p1), some (.ref D), v5, v6, a, b]) ⟨s2, hD, none, none, rfl⟩ ?_ ?_
      · rintro i σ H3 hi ⟨s3, hD3, a, b, rfl⟩
        have A3 : AskAt K H3 x n m := let ⟨dx, se, h1, h2⟩ := A1; ⟨dx, se, h1, s3 _ _ h2⟩
        obtain ⟨dx, se, h1, h2⟩ := id A3
        refine seqI ?_
        refine ⟨_, rfl, x, _, _, rfl, h2, nm "state", _, rfl, x, r, n, m, rfl, A3, ?_⟩
        refine ⟨_, rfl, x, _, _, rfl, h2, nm "held", _, rfl, x, r, n, m, rfl, A3, ?_⟩
        refine ⟨_, rfl, x, _, _, rfl, h2, nm "held_to", _, rfl, x, r, n, m, rfl, A3, ?_⟩
        refine ⟨_, rfl, x, _, _, rfl, h2, nm "due", _, rfl, x, r, n, m, rfl, A3, ?_⟩
        refine ⟨(by show 4 ≤ sizeLine; decide), fun t ht => ?_⟩
        have ht4 : (upd H3 t (.lst (tellV (settled m r).st r))) t = some (.lst (tellV (settled m r).st r)) := upd_same
        have hD4 : (upd H3 t (.lst (tellV (settled m r).st r))) D = some (.lst (tellV (settled m r).st r)) := (upd_ne (ne_of_none hD3 ht)).trans hD3
        refine ⟨_, rfl, t, tellD (settled m r).st r, rfl, tell_dp ht4, g1, g2, g3, g4, ?_⟩
        refine ⟨_, rfl, D, tellD (settled m r).st r, rfl, tell_dp hD4, g1, g2, g3, g4, ?_⟩
        refine ⟨rfl, false, congrArg (fun z => V.bl (!z)) (e_self _), iteF ?_⟩
        exact ⟨s3.new ht, hD4, _, _, rfl⟩
      · rintro σ H3 ⟨s3, hD3, a, b, rfl⟩
        exact q H3 (s1.trans s3)
    refine seqI ?_
    refine pvIx hp1 (v := .str (settled m r).st.ph) rfl rfl _ ?_
    refine ⟨(by show 4 ≤ sizeLine; decide), fun D hD => ?_⟩
    have s2 := (Same.refl H1).new (o := .lst [.str (settled m r).st.ph, .non, .non, .str "none"]) hD
    have hp2 := s2 _ _ hp1
    have e1 : PvT (tTest (tOp rEq (tOp (rIxL K) (tVar 3) (tC (.int 0))) (tC (.str "holding")))) [some (.ref x), some (.ref p), some (.int r), some (.ref p1), some (.ref D), none, none, none, none] (upd H1 D (.lst [.str (settled m r).st.ph, .non, .non, .str "none"])) (settled m r).st.isH := e_ph (settled m r).st ▸ pvEq (pvIx hp2) pvC
    refine seqI (ifI e1 ?_)
    cases c : (settled m r).st.isH with
    | false =>
      refine iteF ?_
      refine lastI _ D none none s2 (lst_at ?_)
      unfold tellV
      rw [num_noH c, till_noH c, due_noH c]
      rfl
    | true =>
      refine iteT ?_
      generalize hs : settled m r = s at *
      obtain ⟨st, mk, wt, sn⟩ := s
      cases st with
      | idle => cases c
      | asked => cases c
      | wanting => cases c
      | hold num till kp span lap =>
        have lt : r < till := settled_till (m := m) (r := r) (by rw [hs])
        refine seqI ?_
        refine pvIx hp2 (v := .int till) rfl rfl _ ?_
        refine ⟨_, rfl, _, _, rfl, rfl, ?_⟩
        have fin : ∀ z : Str, z = (if 8 * (till - r) < span then ("all" : Str) else ("renew" : Str)) → (tAsg (tLst (tCons (tOp (rIxL K) (tVar 3) (tC (.int 0))) (tCons (tOp (rIxL K) (tVar 3) (tC (.int 4))) (tCons (tOp (rIxL K) (tVar 3) (tC (.int 8)))
            (tCons (tIf (tTest (tOp (rI0 fun i j => .bl (decide (j < i))) (tOp (rI CMul fun i j => .int (i * j)) (tC (.int 2)) (tVar 5)) (tOp (rIxL K) (tVar 3) (tC (.int 6))))) (tC (.str "keep")) (tVar 6)) tNil))))) (gName 4))
            { nx := fun σ H' => (tSeq (tFor (iRng1 (tCons (tC (.int 2)) tNil)) (gName 7)
          (tSeq (tAsg (tLst (tCons (tMeth (aC K) "state" (spState K) [] E0 (tVar 0) (tCons (tVar 2) tNil)) (tCons (tMeth (aC K) "held" (spHeld K) [] E0 (tVar 0) (tCons (tVar 2) tNil)) (tCons (tMeth (aC K) "held_to" (spHeldTo K) [] E0 (tVar 0) (tCons (tVar 2) tNil)) (tCons (tMeth (aC K) "due" (spDue K) [] E0 (tVar 0) (tCons (tVar 2) tNil)) tNil))))) (gName 8))
            (tIfS (tTest (tOp rNe (tCB (fun xs H Q => ∃ (a : Addr) (d : PyData), xs = [.ref a] ∧ Dp K H (.ref a) d ∧ d.showable = true ∧ d.hasDict = false ∧ d.shown.length ≤ sizeLine ∧ d.depth ≤ 50 ∧ Q (.str d.shown) H) (tCons (tVar 8) tNil))
              (tCB (fun xs H Q => ∃ (a : Addr) (d : PyData), xs = [.ref a] ∧ Dp K H (.ref a) d ∧ d.showable = true ∧ d.hasDict = false ∧ d.shown.length ≤ sizeLine ∧ d.depth ≤ 50 ∧ Q (.str d.shown) H) (tCons (tVar 4) tNil)))) tNever tNext)))
          (tRet (tC (.bl true)))) { nx := fun _ H' => Q .non H', rt := Q } σ H', rt := Q } [some (.ref x), some (.ref p), some (.int r), some (.ref p1), some (.ref D), some (.int (till - r)), some (.str z), none, none] (upd H1 D (.lst [.str (Hd.hold num till kp span lap).ph, .non, .non, .str "none"])) := by
          intro z ez
          refine pvIx hp2 (v := .str "holding") rfl rfl _ ?_
          refine pvIx hp2 (v := .int num) rfl rfl _ ?_
          refine pvIx hp2 (v := .int till) rfl rfl _ ?_
          refine ⟨_, rfl, _, _, rfl, rfl, .inl (by decide), ?_⟩
          refine pvIx hp2 (v := .int span) rfl rfl _ ?_
          by_cases c2 : span < 2 * (till - r)
          · refine ⟨_, _, rfl, rfl, true, congrArg V.bl (decide_eq_true c2), iteT ⟨(by show 4 ≤ sizeLine; decide), fun D2 hD2 => ?_⟩⟩
            refine lastI _ D2 _ _ (s2.new hD2) (lst_at ?_)
            have e : (Hd.hold num till kp span lap).dueS r = "keep" := by
              have c1 : ¬ 8 * (till - r) < span := by omega
              exact (if_neg c1).trans (if_pos c2)
            unfold tellV
            rw [e]
            rfl
          · refine ⟨_, _, rfl, rfl, false, congrArg V.bl (decide_eq_false c2), iteF ⟨_, rfl, (by show 4 ≤ sizeLine; decide), fun D2 hD2 => ?_⟩⟩
            refine lastI _ D2 _ _ (s2.new hD2) (lst_at ?_)
            have e : (Hd.hold num till kp span lap).dueS r = z := by
              rw [ez]
              have e3 : (Hd.hold num till kp span lap).dueS r = if 8 * (till - r) < span then ("all" : Str) else if span < 2 * (till - r) then ("keep" : Str) else ("renew" : Str) := rfl
              rw [e3, if_neg c2]
            unfold tellV
            rw [e]
            rfl
        refine seqI ?_
        refine ⟨_, rfl, _, _, rfl, rfl, .inl (by decide), ?_⟩
        refine pvIx hp2 (v := .int span) rfl rfl _ ?_
        by_cases c1 : 8 * (till - r) < span
        · exact ⟨_, _, rfl, rfl, true, congrArg V.bl (decide_eq_true c1), iteT (fin "all" (if_pos c1).symm)⟩
        · exact ⟨_, _, rfl, rfl, false, congrArg V.bl (decide_eq_false c1), iteF (fin "renew" (if_neg c1).symm)⟩
end
end K39
set_option Elab.async false
set_option linter.all false
set_option maxRecDepth 100000
set_option maxHeartbeats 4000000
/-! _law_did. -/
namespace K39
open PySem PySem.Spec PyProof.Rows L2

/-! ### what stands through what changes an asker alone -/
theorem lst_kx {H H' : Hp} {x p C dx : Addr} {fs : List (Str × V)} {xs : List V} (h : H p = some (.lst xs)) (hx : H x = some (.ins C dx fs)) (k : Kp [x] H H') : H' p = some (.lst xs) := by
  refine k _ _ ?_ h
  intro c
  rw [List.mem_singleton.mp c, hx] at h
  cases h
theorem PLet.kx {K : PySem.W.Frag} {H H' : Hp} {x p C dx : Addr} {fs : List (Str × V)} {l : Let} (h : PLet K H p l) (hx : H x = some (.ins C dx fs)) (k : Kp [x] H H') : PLet K H' p l :=
  let ⟨va, ra, h1, h2, h3⟩ := h; ⟨va, ra, lst_kx h1 hx k, SqT.ne h2 hx k, SqT.ne h3 hx k⟩
theorem FoundAt.kx {K : PySem.W.Frag} {H H' : Hp} {x f C dx : Addr} {fs : List (Str × V)} {o : Option Let} (h : FoundAt K H f o) (hx : H x = some (.ins C dx fs)) (k : Kp [x] H H') : FoundAt K H' f o := by
  cases o with
  | none => exact lst_kx h hx k
  | some l => obtain ⟨p, h1, h2⟩ := h; exact ⟨p, lst_kx h1 hx k, h2.kx hx k⟩
theorem FoundAt.same {K : PySem.W.Frag} {H H' : Hp} {f : Addr} {o : Option Let} (h : FoundAt K H f o) (k : Same H H') : FoundAt K H' f o := by
  cases o with
  | none => exact k _ _ h
  | some l => obtain ⟨p, h1, h2⟩ := h; exact ⟨p, k _ _ h1, h2.same k⟩
/-- behind a change of a thing that was free at the beginning -/
theorem Kp.transF {S : List Addr} {H H1 H2 : Hp} {a : Addr} (k : Kp S H H1) (k2 : Kp [a] H1 H2) (ha : H a = none) : Kp S H H2 := fun z o n e => by
  have h1 := k z o n e
  exact k2 z o (by simpa using ne_of_none e ha) h1
theorem AskAt.ka {K : PySem.W.Frag} {H H' : Hp} {x a : Addr} {n : Str} {m : Ak} {xs : List V} (A : AskAt K H x n m) (ha : H a = some (.lst xs)) (k : Kp [a] H H') : AskAt K H' x n m := by
  obtain ⟨dx, se, h1, h2⟩ := A
  refine ⟨dx, se, h1, k _ _ ?_ h2⟩
  intro c
  rw [List.mem_singleton.mp c, ha] at h2
  cases h2

section
variable {P : Program} {w : World} {K : PySem.W.Frag} {mg : Str → Option Value} {base : Heap}
def refS (d : Deed) : Str := "refused " ++ d.word
def OutAt (K : PySem.W.Frag) (H : Hp) (v : V) (d : Deed) : Option Let → Prop
  | none => v = .str (refS d)
  | some l => ∃ f, v = .ref f ∧ FoundAt K H f (some l)
def spDid (K : PySem.W.Frag) : Sp := fun vs H Q _ => ∃ (x : Addr) (r : Int) (n : Str) (m : Ak) (d : Deed), vs = [.ref x, .str d.word, .int r] ∧ AskAt K H x n m ∧ AkOk m ∧ Nm n ∧
  ∀ (H' : Hp) (v : V), Kp [x] H H' → AskAt K H' x n (doneA n m d r).2 → OutAt K H' v d (doneA n m d r).1 → Q v H'
abbrev nI : List Str := ["_law_asker", "_law_deed", "_law_reading", "_law_told", "e"]
theorem sc_did : FnScope nI ["_law_asker", "_law_deed", "_law_reading"] (defScope sDid) := ⟨rfl, rfl, rfl, by decide +kernel, rfl, by decide +kernel, by decide +kernel⟩
theorem w_sf : decide (V.str "spoil" = V.str "free") = false := by decide +kernel
/-- a deed in the try's body -/
abbrev tDeed (K : PySem.W.Frag) (d : Deed) (W : WX) : TS := tAsg (tMethS (aC K) d.word (spDeed K d) [] (WE W) (tVar 0) (tCons (tVar 2) tNil)) (gName 3)
abbrev tRefused (K : PySem.W.Frag) (a : Addr) (cls : Value) (d : Option Addr) : TS := tRet (tOp (fun x y H Q => ∃ i j, x = .str i ∧ y = .str j ∧ i.length + j.length ≤ sizeLine ∧ Q (.str (i ++ j)) H) (tC (.str "refused ")) (tWordOf (nd K) a cls d (tVar 4)))
theorem d_did (T : Tx w K mg) : DefAt P w K mg base CX0 10 (He.ga K "_law_did") ["_law_asker", "_law_deed", "_law_reading"] [] (spDid K) := by
  obtain ⟨fd, F⟩ := T.g3 12 "_law_did" sDid
  refine ⟨⟨fd, [], F.ok (CX := CX0) sc_did (fun vs H Q E h => ?_) (fun cdv A outer s H vs Q E hr h => ?_), F.bindsN fun _ _ _ _ _ _ us hl => match us, hl with | [_, _, _], _ => rfl, .nil⟩, F.kp⟩
  · obtain ⟨x, r, n, m, d, rfl, _⟩ := h
    rfl
  · obtain ⟨x, r, n, m, d, rfl, A0, ok, hn, q⟩ := h
    refine ⟨_, pss_cons (ps_try_as (i := 4) (tb := fun W => tIfS (tTest (tOp rEq (tVar 1) (tC (.str "seek")))) (tDeed K .seek W) (tIfS (tTest (tOp rEq (tVar 1) (tC (.str "renew")))) (tDeed K .renew W) (tIfS (tTest (tOp rEq (tVar 1) (tC (.str "free")))) (tDeed K .free W) (tDeed K .spoil W))))
        (ts := fun a cls d => tRefused K a cls d) (Wout := fun _ _ _ _ => False) rfl rfl sc_did.nd rfl rfl ⟨rfl, by decide, Or.inl T.deed.gC⟩ takes0
        (fun W pn xe tk _ => pss_one (ps_if (pt_cmpR op_eq (pv 1) pe_str (nomark _)) (pss_one (ps_set (i := 3) sc_did.nd rfl (.inl rfl) (pe_methSD (pv 0) (T.cls "Asker") (T.meth "seek") (d_seek T) hr (fun σ => passAt tk σ) (pa_cons (pv 2) pa_nil))))
          (pss_one (ps_if (pt_cmpR op_eq (pv 1) pe_str (nomark _)) (pss_one (ps_set (i := 3) sc_did.nd rfl (.inl rfl) (pe_methSD (pv 0) (T.cls "Asker") (T.meth "renew") (d_renew T) hr (fun σ => passAt tk σ) (pa_cons (pv 2) pa_nil))))
          (pss_one (ps_if (pt_cmpR op_eq (pv 1) pe_str (nomark _)) (pss_one (ps_set (i := 3) sc_did.nd rfl (.inl rfl) (pe_methSD (pv 0) (T.cls "Asker") (T.meth "free") (d_free T) hr (fun σ => passAt tk σ) (pa_cons (pv 2) pa_nil))))
          (pss_one (ps_set (i := 3) sc_did.nd rfl (.inl rfl) (pe_methSD (pv 0) (T.cls "Asker") (T.meth "spoil") (d_spoil T) hr (fun σ => passAt tk σ) (pa_cons (pv 2) pa_nil))))))))))
        (fun a oe cls d pn hz hf => pss_one (ps_ret (pe_op op_add_str pe_str (pe_wordOf T.deed hz hf (pv 4))))))
      (pss_one (ps_ret (pe_callD (E := E0) (d_fields T) (hr.mono (by decide)) (by rfl) (T.glo "_law_fields") pass0 (pa_cons (pv 3) pa_nil)))), ?_⟩
    obtain ⟨dx, se, hs, hx⟩ := id A0
    -- the deed itself, whatever stands around it
    have main : (tDeed K d (wAs K (.ref (nd K)) 4 (fun a cls d => tRefused K a cls d) (fun _ _ _ _ => False) { nx := tRet (tCall (spFields K) [] E0 (tCons (tVar 3) tNil)) { nx := fun _ H' => Q .non H', rt := Q }, rt := Q }))
        { nx := tRet (tCall (spFields K) [] E0 (tCons (tVar 3) tNil)) { nx := fun _ H' => Q .non H', rt := Q }, rt := Q } [some (.ref x), some (.str d.word), some (.int r), none, none] H := by
      refine ⟨_, rfl, x, _, _, rfl, hx, ?_, _, rfl, x, r, n, m, rfl, A0, ok, hn, ?_, ?_⟩
      · cases d
        · exact nm "seek"
        · exact nm "renew"
        · exact nm "free"
        · exact nm "spoil"
      · intro s e H1 dd k1 A1 hd
        refine ⟨true, T.deed.te, fun _ a0 ha => ?_, fun q => Bool.noConfusion q⟩
        refine ⟨_, rfl, rfl, rfl, dd, _, rfl, hd, ?_⟩
        refine ⟨_, _, rfl, rfl, ?_, ?_⟩
        · cases d <;> decide +kernel
        · refine q H1 _ k1 ?_ ?_
          · rw [e]; exact A1
          · rw [e]; rfl
      · intro l s e H1 a y k1 A1 fa ha L1
        refine ⟨_, rfl, a, some l, rfl, ⟨y, ha, L1⟩, fun H2 f k2 ff F2 => ?_⟩
        refine q H2 _ (k1.transF k2 fa) ?_ ?_
        · rw [e]; exact A1.ka ha k2
        · rw [e]; exact ⟨f, rfl, F2⟩
    refine seqI ?_
    cases d with
    | seek => exact ifI (b := true) (pvEqB (pvV rfl) pvC rfl (e_self _)) (iteT main)
    | renew => exact ifI (b := false) (pvEqB (pvV rfl) pvC rfl w_rs) (iteF (ifI (b := true) (pvEqB (pvV rfl) pvC rfl (e_self _)) (iteT main)))
    | free => exact ifI (b := false) (pvEqB (pvV rfl) pvC rfl w_fs) (iteF (ifI (b := false) (pvEqB (pvV rfl) pvC rfl w_fr) (iteF (ifI (b := true) (pvEqB (pvV rfl) pvC rfl (e_self _)) (iteT main)))))
    | spoil => exact ifI (b := false) (pvEqB (pvV rfl) pvC rfl w_ss) (iteF (ifI (b := false) (pvEqB (pvV rfl) pvC rfl w_sr) (iteF (ifI (b := false) (pvEqB (pvV rfl) pvC rfl w_sf) (iteF main)))))
end
end K39
set_option Elab.async false
set_option linter.all false
set_option maxRecDepth 100000
set_option maxHeartbeats 4000000
/-! _law_go. -/
namespace K39
open PySem PySem.Spec PyProof.Rows L2

/-! ### letters as they are shown -/
def letD (l : Let) : PyData := .list [.str l.kind, .str l.sender, .str l.receiver, .int l.mark, oD l.number, .int l.span, .int l.turn, .int 0, .none, .str l.who, .str l.link, .tuple [], .tuple []]
def foundD : Option Let → PyData
  | none => .list []
  | some l => .list [letD l]
theorem let_dp {K : PySem.W.Frag} {H : Hp} {p : Addr} {l : Let} (h : PLet K H p l) : Dp K H (.ref p) (letD l) := by
  obtain ⟨va, ra, h1, h2, h3⟩ := h
  exact .lst (SqL.of h1) (.cons (.str _) (.cons (.str _) (.cons (.str _) (.cons (.int _) (.cons (dp_opt _) (.cons (.int _) (.cons (.int _) (.cons (.int _) (.cons .non (.cons (.str _) (.cons (.str _) (.cons (.tup h2 .nil) (.cons (.tup h3 .nil) .nil)))))))))))))
theorem found_dp {K : PySem.W.Frag} {H : Hp} {f : Addr} {o : Option Let} (h : FoundAt K H f o) : Dp K H (.ref f) (foundD o) := by
  cases o with
  | none => exact .lst (SqL.of h) .nil
  | some l => obtain ⟨p, h1, h2⟩ := h; exact .lst (SqL.of h1) (.cons (let_dp h2) .nil)
theorem sh_kind {k : Nat} {z : Str} (h : inV (.str z) (kindNames.map V.str) = true) : Sh k 20 (.str z) := by
  have hm : z ∈ kindNames := by
    unfold inV at h
    rw [List.any_map, List.any_eq_true] at h
    obtain ⟨a, ha, e⟩ := h
    have e2 : (a == z) = true := e
    rw [← beq_iff_eq.mp e2]
    exact ha
  have all : (kindNames.all fun z => (z.cps.toList.all fun c => decide (c < 16 ^ 8)) && decide (z.length ≤ 20)) = true := by decide +kernel
  exact .lit z (List.all_eq_true.mp all z hm)
theorem abs_lt {i : Int} (h : 0 ≤ i ∧ i ≤ 999999999999) : i.natAbs < 10 ^ 12 := by
  have := h.1; have := h.2
  have e : (10 : Nat) ^ 12 = 1000000000000 := by decide
  omega
theorem let_sh {l : Let} (L : LetOk l) : Sh 2 200 (letD l) := by
  have hn : ∀ i, l.number = some i → i.natAbs < 10 ^ 12 := by
    intro i e
    have h := L.number
    rw [e] at h
    rcases h with h | ⟨j, h, h1, h2⟩
    · cases h
    · have e2 : i = j := V.int.inj h
      rw [e2]
      exact abs_lt ⟨h1, by omega⟩
  exact (Sh.list (.cons (sh_kind L.kind) (.cons (.nm (.inl L.sender)) (.cons (.nm L.receiver) (.cons (n := 0) (.int (abs_lt L.mark)) (.cons (n := 0) (.opt hn) (.cons (n := 0) (.int (abs_lt L.span)) (.cons (n := 0) (.int (abs_lt L.turn)) (.cons (n := 0) (.int (by decide)) (.cons (n := 0) .none
    (.cons (.nm L.who) (.cons (.nm L.link) (.cons (Sh.tup .nil) (.cons (Sh.tup .nil) .nil)))))))))))))).mono (Nat.le_refl _) (by decide)
theorem found_sh {o : Option Let} (h : ∀ l, o = some l → LetOk l) : Sh 3 300 (foundD o) := by
  cases o with
  | none => exact (Sh.list (k := 2) .nil).mono (by decide) (by decide)
  | some l => exact (Sh.list (.cons (let_sh (h l rfl)) .nil)).mono (by decide) (by decide)
theorem done_ok {n : Str} {m : Ak} {d : Deed} {r : Int} {l : Let} {s : Ak} (ok : AkOk m) (hn : Nm n) (e : doneA n m d r = (some l, s)) : LetOk l := by
  have o1 := ok.settled r
  rw [doneA_eq] at e
  generalize settled m r = t at o1 e
  cases c : t.st.isH with
  | true =>
    cases d with
    | seek => rw [show doneS n t .seek r = (none, t) from if_pos c] at e; cases e
    | renew =>
      rw [show doneS n t .renew r = (some ⟨"renew", n, if t.st.dueS r = "all" then "" else t.st.kpS, t.marks + 1, t.st.num?, 0, 0, "", ""⟩, ⟨t.st, t.marks + 1, t.marks + 1, r⟩) from if_pos c] at e
      cases e
      refine sentOk kd_renew hn ?_ o1 o1.num (.inr rfl)
      by_cases c2 : t.st.dueS r = "all"
      · rw [if_pos c2]; exact .inr rfl
      · rw [if_neg c2]; exact o1.kp
    | free => rw [show doneS n t .free r = (some (backL "free" n t), idleA t.marks) from if_pos c] at e; cases e; exact backOk kd_free hn o1
    | spoil => rw [show doneS n t .spoil r = (some (backL "spoil" n t), idleA t.marks) from if_pos c] at e; cases e; exact backOk kd_spoil hn o1
  | false =>
    have nc : ¬ t.st.isH = true := by rw [c]; decide
    cases d with
    | seek => rw [show doneS n t .seek r = (some ⟨"find", n, "", t.marks + 1, none, 0, 0, "", ""⟩, ⟨.asked, t.marks + 1, t.marks + 1, r⟩) from if_neg nc] at e; cases e; exact sentOk kd_find hn (.inr rfl) o1 (.inl rfl) (.inr rfl)
    | renew => rw [show doneS n t .renew r = (none, t) from if_neg nc] at e; cases e
    | free => rw [show doneS n t .free r = (none, t) from if_neg nc] at e; cases e
    | spoil => rw [show doneS n t .spoil r = (none, t) from if_neg nc] at e; cases e
theorem taken_ok {n : Str} {m : Ak} {l0 : Let} {r : Int} {l : Let} (ok : AkOk m) (hn : Nm n) (L : LetOk l0) (e : (takenA n m l0 r).1 = some l) : LetOk l := by
  have o1 := ok.settled r
  rw [takenA_eq] at e
  generalize settled m r = t at o1 e
  unfold takenS at e
  by_cases c1 : tkB1 n t l0 = true
  · rw [if_pos c1] at e; cases e
  · rw [if_neg c1] at e
    by_cases c2 : tkB2 t l0 = true
    · rw [if_pos c2] at e
      cases e
      exact sentOk kd_want hn (.inr rfl) o1 L.number (.inl L.sender)
    · rw [if_neg c2] at e
      by_cases c3 : tkB3 t l0 = true
      · rw [if_pos c3] at e; cases e
      · rw [if_neg c3] at e
        by_cases c4 : tkB4 t l0 = true
        · rw [if_pos c4] at e; cases e
        · rw [if_neg c4] at e; cases e

section
variable {P : Program} {w : World} {K : PySem.W.Frag} {mg : Str → Option Value} {base : Heap}
/-- what is done, or taken -/
inductive What where
  | deed (d : Deed)
  | letter (q : Addr) (l : Let)
def What.val : What → V
  | .deed d => .str d.word
  | .letter q _ => .ref q
def What.next (n : Str) (m : Ak) (r : Int) : What → Option Let × Ak
  | .deed d => doneA n m d r
  | .letter _ l => takenA n m l r
def What.at_ (K : PySem.W.Frag) (H : Hp) : What → Prop
  | .deed _ => True
  | .letter q l => PLet K H q l ∧ LetOk l
def spGo (K : PySem.W.Frag) : Sp := fun vs H Q _ => ∃ (x p : Addr) (r : Int) (n : Str) (m : Ak) (wh : What), vs = [.ref x, .str n, .ref p, wh.val, .int r] ∧ AskAt K H x n m ∧ MeAt H p m ∧ AkOk m ∧ Nm n ∧ wh.at_ K H ∧ ((settled m r).st = .idle → (settled m r).wait = 0) ∧
  Fit (settled (wh.next n m r).2 r).st ∧ ∀ (H' : Hp) (pb : Addr), Kp [x] H H' → AskAt K H' x n (wh.next n m r).2 → MeAt H' pb (wh.next n m r).2 → Q (.ref pb) H'
abbrev nG : List Str := ["_law_asker", "_law_name", "_law_me", "_law_what", "_law_reading", "_law_due", "_law_behind", "_law_told"]
theorem sc_go : FnScope nG ["_law_asker", "_law_name", "_law_me", "_law_what", "_law_reading"] (defScope sGo) := ⟨rfl, rfl, rfl, by decide +kernel, rfl, by decide +kernel, by decide +kernel⟩
/-- repr of data or of a text, as asked by the rule -/
abbrev rRepr (K : PySem.W.Frag) : List V → Hp → VK → Prop := fun xs H Q => (∃ (a : Addr) (d : PyData), xs = [.ref a] ∧ Dp K H (.ref a) d ∧ d.showable = true ∧ d.hasDict = false ∧ d.shown.length ≤ sizeLine ∧ d.depth ≤ 50 ∧ Q (.str d.shown) H) ∨
    ∃ z : Str, xs = [.str z] ∧ (reprText z).length ≤ sizeLine ∧ Q (.str (reprText z)) H
theorem ref_short (d : Deed) : (reprText (refS d)).length ≤ sizeLine := by
  have h : ∀ z : Str, ((z.cps.toList.all fun c => decide (c < 16 ^ 8)) && decide (z.length ≤ 20)) = true → (reprText z).length ≤ sizeLine := by
    intro z hz
    simp only [Bool.and_eq_true, List.all_eq_true, decide_eq_true_eq] at hz
    have e := StrLaws.reprText_len z hz.1
    have s : 300 ≤ sizeLine := by decide
    have := hz.2
    omega
  cases d
  · exact h _ (by decide +kernel)
  · exact h _ (by decide +kernel)
  · exact h _ (by decide +kernel)
  · exact h _ (by decide +kernel)
theorem pvRepr {σ : L2.St} {H : Hp} {i : Nat} {v : V} {z : Str} (hs : σ[i]? = some (some v)) (h : ∀ Q : VK, Q (.str z) H → rRepr K [v] H Q) : PvE (tCB (rRepr K) (tCons (tVar i) tNil)) σ H (.str z) := fun Q q => ⟨v, hs, h Q q⟩
theorem d_go (T : Tx w K mg) : DefG P w K mg base 12 (He.ga K "_law_go") ["_law_asker", "_law_name", "_law_me", "_law_what", "_law_reading"] (spGo K) := by
  obtain ⟨fd, F⟩ := T.g3 13 "_law_go" sGo
  refine ⟨⟨fd, okG F sc_go (fun vs H Q E h => ?_) (fun cdv A outer s H vs Q E hgd hr h => ?_), F.bindsN fun _ _ _ _ _ _ us hl => match us, hl with | [_, _, _, _, _], _ => rfl⟩, F.kp⟩
  · obtain ⟨x, p, r, n, m, wh, rfl, _⟩ := h
    rfl
  · obtain ⟨x, p, r, n, m, wh, rfl, A0, hp, ok, hn, hw, h0, fit, q⟩ := h
    have D2 := (d_tells (P := P) (base := base) T)
    refine ⟨_, pss_cons (ps_if (pt_val (pe_callB call_isi (by rfl) (T.free "isinstance") (by decide +kernel) (pa_cons (pv 3) (pa_cons (pe_bty (n := "str") (T.free "str")) pa_nil))))
        (pss_cons (ps_asg (pe_callD (E := E0) (d_done T) (hr.mono (by decide)) (by rfl) (T.glo "_law_done") pass0 (pa_cons (pv 1) (pa_cons (pv 2) (pa_cons (pv 3) (pa_cons (pv 4) pa_nil))))) (pg_tup rfl (pgs_cons (pg_name (i := 5) sc_go.nd rfl (.inl rfl)) (pgs_cons (pg_name (i := 6) sc_go.nd rfl (.inl rfl)) pgs_nil))))
        (pss_cons (ps_set (i := 7) sc_go.nd rfl (.inl rfl) (pe_callD (E := E0) (d_did T) (hr.mono (by decide)) (by rfl) (T.glo "_law_did") pass0 (pa_cons (pv 0) (pa_cons (pv 3) (pa_cons (pv 4) pa_nil)))))
        (pss_one (ps_if (pt_cmp (pc_isN (pv 5))) (pss_one (ps_set (i := 5) sc_go.nd rfl (.inl rfl) (pe_op op_add_str pe_str (pv 3)))) pss_nil))))
        (pss_cons (ps_asg (pe_callD (E := E0) (d_taken T) (hr.mono (by decide)) (by rfl) (T.glo "_law_taken") pass0 (pa_cons (pv 1) (pa_cons (pv 2) (pa_cons (pv 3) (pa_cons (pv 4) pa_nil))))) (pg_tup rfl (pgs_cons (pg_name (i := 5) sc_go.nd rfl (.inl rfl)) (pgs_cons (pg_name (i := 6) sc_go.nd rfl (.inl rfl)) pgs_nil))))
        (pss_one (ps_set (i := 7) sc_go.nd rfl (.inl rfl) (pe_callD (E := E0) (d_fields T) (hr.mono (by decide)) (by rfl) (T.glo "_law_fields") pass0 (pa_cons (pe_methD (E := E0) (pv 0) (T.cls "Asker") (T.meth "take") (d_take T) (hr.mono (by decide)) pass0 (pa_cons (pe_callD (E := E0) (d_written T) (hr.mono (by decide)) (by rfl) (T.glo "_law_written") pass0 (pa_cons (pv 3) pa_nil)) (pa_cons (pv 4) pa_nil))) pa_nil))))))
      (pss_cons (ps_if (PW.pt (pw_or (pt_cmpR op_ne (pe_callB (call_reprA hgd hr.units) (by rfl) (T.free "repr") (by decide +kernel) (pa_cons (pv 7) pa_nil)) (pe_callB (call_reprA hgd hr.units) (by rfl) (T.free "repr") (by decide +kernel) (pa_cons (pv 5) pa_nil)) (nomark _))
          (pw_or1 (pt_not (pt_val (pe_callG D2 hgd (hr.mono (by decide)) (by rfl) (T.glo "_law_tells") (pa_cons (pv 0) (pa_cons (pv 6) (pa_cons (pv 4) pa_nil))))))))) pss_never pss_nil)
      (pss_one (ps_ret (pv 6)))), ?_⟩
    -- the end: both reprs alike, and what the asker tells
    have fin : ∀ (H' : Hp) (pb : Addr) (tv dv : V), Kp [x] H H' → AskAt K H' x n (wh.next n m r).2 → MeAt H' pb (wh.next n m r).2 →
        (∃ z : Str, (∀ Q : VK, Q (.str z) H' → rRepr K [tv] H' Q) ∧ ∀ Q : VK, Q (.str z) H' → rRepr K [dv] H' Q) →
        (tSeq (tIfS (tOr (tTest (tOp rNe (tCB (rRepr K) (tCons (tVar 7) tNil)) (tCB (rRepr K) (tCons (tVar 5) tNil)))) (tNot (tB (tCall (spTells K) [] E0 (tCons (tVar 0) (tCons (tVar 6) (tCons (tVar 4) tNil))))))) tNever tNext)
          (tRet (tVar 6))) { nx := fun _ H' => Q .non H', rt := Q } [some (.ref x), some (.str n), some (.ref p), some wh.val, some (.int r), some dv, some (.ref pb), some tv] H' := by
      rintro H' pb tv dv k A1 hb ⟨z, z1, z2⟩
      have e1 : PvT (tTest (tOp rNe (tCB (rRepr K) (tCons (tVar 7) tNil)) (tCB (rRepr K) (tCons (tVar 5) tNil)))) [some (.ref x), some (.str n), some (.ref p), some wh.val, some (.int r), some dv, some (.ref pb), some tv] H' false :=
        (show (!decide (V.str z = V.str z)) = false by rw [e_self]; rfl) ▸ pvNe (pvRepr rfl z1) (pvRepr rfl z2)
      refine seqI (e1 _ (iteF ?_))
      refine ⟨_, rfl, _, rfl, _, rfl, x, pb, r, n, _, rfl, A1, hb, fit, fun H2 s2 => ⟨true, rfl, iteF ?_⟩⟩
      refine ⟨_, rfl, q H2 pb (k.trans (Kp.of_same s2)) ?_ (s2 _ _ hb)⟩
      obtain ⟨dx, se, g1, g2⟩ := A1
      exact ⟨dx, se, g1, s2 _ _ g2⟩
    -- both lists of letters
    have both : ∀ (H' : Hp) (f1 f2 : Addr) (o : Option Let), FoundAt K H' f1 o → FoundAt K H' f2 o → (∀ l, o = some l → LetOk l) → ∃ z : Str, (∀ Q : VK, Q (.str z) H' → rRepr K [.ref f1] H' Q) ∧ ∀ Q : VK, Q (.str z) H' → rRepr K [.ref f2] H' Q := by
      intro H' f1 f2 o g1 g2 g3
      obtain ⟨e1, e2, e3, e4⟩ := (found_sh g3).fits (by decide) (by decide)
      exact ⟨(foundD o).shown, fun Q qq => .inl ⟨f1, _, rfl, found_dp g1, e1, e2, e3, e4, qq⟩, fun Q qq => .inl ⟨f2, _, rfl, found_dp g2, e1, e2, e3, e4, qq⟩⟩
    refine seqI ?_
    cases wh with
    | deed d =>
      refine ⟨_, rfl, _, _, _, _, true, rfl, .ty _, .base (.str _), kit_ty (by decide +kernel), true, rfl, iteT ?_⟩
      refine seqI ⟨_, rfl, _, rfl, _, rfl, _, rfl, p, r, n, m, d, rfl, hp, fun H1 t pb dv s1 ht hb hdv => ?_⟩
      refine ⟨t, _, rfl, SqT.of ht, rfl, _, _, rfl, _, _, rfl, rfl, ?_⟩
      have A1 : AskAt K H1 x n m := let ⟨dx, se, h1, h2⟩ := A0; ⟨dx, se, h1, s1 _ _ h2⟩
      obtain ⟨dx, se, hs, hx⟩ := id A1
      refine seqI ⟨_, rfl, _, rfl, _, rfl, x, r, n, m, d, rfl, A1, ok, hn, fun H2 tv k2 A2 hout => ?_⟩
      have hb2 := lst_kx hb hx k2
      have kk : Kp [x] H H2 := (Kp.of_same s1).trans k2
      cases e : (doneA n m d r).1 with
      | none =>
        rw [e] at hdv hout
        obtain rfl : dv = .non := hdv
        obtain rfl : tv = .str (refS d) := hout
        refine ⟨_, rfl, true, rfl, iteT ?_⟩
        refine ⟨_, rfl, _, _, rfl, rfl, by cases d <;> decide +kernel, ?_⟩
        exact fin H2 pb _ _ kk A2 hb2 ⟨reprText (refS d), fun Q qq => .inr ⟨_, rfl, ref_short d, qq⟩, fun Q qq => .inr ⟨_, rfl, ref_short d, qq⟩⟩
      | some l =>
        rw [e] at hdv hout
        obtain ⟨f1, rfl, F1⟩ := hdv
        obtain ⟨f2, rfl, F2⟩ := hout
        refine ⟨_, rfl, false, rfl, iteF ?_⟩
        refine fin H2 pb _ _ kk A2 hb2 (both H2 f2 f1 (some l) F2 (F1.kx hx k2) fun l' el => ?_)
        cases el
        exact done_ok ok hn (Prod.ext e rfl : doneA n m d r = (some l, (doneA n m d r).2))
    | letter ql l =>
      obtain ⟨PL, LO⟩ := hw
      obtain ⟨va, ra, hq, hva, hra⟩ := id PL
      refine ⟨_, rfl, _, _, _, _, false, rfl, .ty _, .base (.lst hq), kit_ty (by decide +kernel), false, rfl, iteF ?_⟩
      refine seqI ⟨_, rfl, _, rfl, _, rfl, _, rfl, p, ql, r, n, m, l, rfl, hp, PL, LO.span.1, h0, fun H1 t g pb s1 ht hg hb => ?_⟩
      refine ⟨t, _, rfl, SqT.of ht, rfl, _, _, rfl, _, _, rfl, rfl, ?_⟩
      have A1 : AskAt K H1 x n m := let ⟨dx, se, h1, h2⟩ := A0; ⟨dx, se, h1, s1 _ _ h2⟩
      obtain ⟨dx, se, hs, hx⟩ := id A1
      refine ⟨_, rfl, x, _, _, rfl, hx, nm "take", ?_⟩
      refine ⟨_, rfl, ql, l, rfl, PL.same s1, LO, fun H2 y s2 fy Ly => ?_⟩
      have hx2 := s2 _ _ hx
      have A2 : AskAt K H2 x n m := ⟨dx, se, hs, hx2⟩
      refine ⟨_, rfl, x, y, r, n, m, l, rfl, A2, Ly, (ne_of_none hx fy).symm, ok, hn, LO, fun H3 a k3 A3 fa ha => ?_⟩
      refine ⟨a, (takenA n m l r).1, rfl, ha, fun H4 f k4 ff F4 => ?_⟩
      have k5 : Kp [x] H2 H4 := k3.transF k4 fa
      obtain ⟨ys, hys⟩ : ∃ ys, H3 a = some (.lst ys) := by
        cases e : (takenA n m l r).1 with
        | none => rw [e] at ha; exact ⟨_, ha⟩
        | some l' => rw [e] at ha; obtain ⟨y', z1, z2⟩ := ha; exact ⟨_, z1⟩
      refine fin H4 pb _ _ ((Kp.of_same (s1.trans s2)).trans k5) (A3.ka hys k4) (lst_kx (s2 _ _ hb) hx2 k5) (both H4 f g _ F4 ((hg.same s2).kx hx2 k5) fun l' el => taken_ok ok hn LO el)
end
end K39
set_option Elab.async false
set_option linter.all false
set_option maxRecDepth 100000
set_option maxHeartbeats 4000000
/-! What stays true of an asker, lap by lap (plain). -/
namespace K39
open PySem PySem.Spec PyProof.Rows L2

structure Good (N : Int) (m : Ak) : Prop where
  marks : 0 ≤ m.marks ∧ m.marks ≤ N
  wait : 0 ≤ m.wait ∧ m.wait ≤ N
  idle : m.st = .idle → m.wait = 0
  sent : -200000000000 ≤ m.sent ∧ m.sent ≤ 200000000000
  num : oV m.st.num? = .non ∨ ∃ i : Int, oV m.st.num? = .int i ∧ 0 ≤ i ∧ i ≤ 999999
  kp : Nm m.st.kpS ∨ m.st.kpS = ""
  lap : 0 ≤ m.st.lapI ∧ m.st.lapI ≤ 999999999999
  till : ∀ t, m.st.till? = some t → -200000000000 ≤ t ∧ t ≤ 300000000000
theorem Good.idleA {N k : Int} (h : 0 ≤ k ∧ k ≤ N) : Good N (idleA k) :=
  ⟨h, ⟨Int.le_refl _, Int.le_trans h.1 h.2⟩, fun _ => rfl, ⟨(by decide : (-200000000000 : Int) ≤ 0), (by decide : (0 : Int) ≤ 200000000000)⟩, .inl rfl, .inr rfl, ⟨(by decide : (0 : Int) ≤ 0), (by decide : (0 : Int) ≤ 999999999999)⟩, fun _ z => by cases z⟩
theorem Good.mono {N N' : Int} {m : Ak} (h : Good N m) (k : N ≤ N') : Good N' m := ⟨⟨h.marks.1, Int.le_trans h.marks.2 k⟩, ⟨h.wait.1, Int.le_trans h.wait.2 k⟩, h.idle, h.sent, h.num, h.kp, h.lap, h.till⟩
theorem Good.settled {N : Int} {m : Ak} (h : Good N m) (r : Int) : Good N (settled m r) := by
  obtain ⟨st, mk, wt, sn⟩ := m
  cases st with
  | idle => exact h
  | asked => exact h
  | wanting => exact h
  | hold num till kp span lap =>
    by_cases c : till ≤ r
    · rw [show K39.settled ⟨.hold num till kp span lap, mk, wt, sn⟩ r = K39.idleA mk from if_pos c]
      exact Good.idleA h.marks
    · rw [show K39.settled ⟨.hold num till kp span lap, mk, wt, sn⟩ r = ⟨.hold num till kp span lap, mk, wt, sn⟩ from if_neg c]
      exact h
theorem Good.ok {N : Int} {m : Ak} (h : Good N m) (k : N < 900000000000) : AkOk m := ⟨⟨h.marks.1, Int.lt_of_le_of_lt h.marks.2 k⟩, h.num, h.kp, h.lap⟩
theorem Good.fit {N : Int} {m : Ak} (h : Good N m) : Fit m.st := by
  have e : (10 : Nat) ^ 12 = 1000000000000 := by decide
  refine ⟨fun i hi => ?_, fun i hi => ?_⟩
  · rcases h.num with z | ⟨j, z, h1, h2⟩
    · rw [hi] at z; cases z
    · rw [hi] at z
      have e2 : i = j := V.int.inj z
      omega
  · have := h.till i hi
    omega
/-- as an asker with a new mark, all else as it is -/
theorem Good.sentAt {N r : Int} {m : Ak} {st : Hd} (h : Good N m) (hr : -200000000000 ≤ r ∧ r ≤ 200000000000) (hs : st = m.st ∨ st = .asked ∨ st = .wanting) (ni : st ≠ .idle) : Good (N + 1) ⟨st, m.marks + 1, m.marks + 1, r⟩ := by
  have a := h.marks.1
  have b := h.marks.2
  have base : ∀ s : Hd, s ≠ .idle → (oV s.num? = .non ∨ ∃ i : Int, oV s.num? = .int i ∧ 0 ≤ i ∧ i ≤ 999999) → (Nm s.kpS ∨ s.kpS = "") → (0 ≤ s.lapI ∧ s.lapI ≤ 999999999999) → (∀ t, s.till? = some t → -200000000000 ≤ t ∧ t ≤ 300000000000) → Good (N + 1) ⟨s, m.marks + 1, m.marks + 1, r⟩ :=
    fun s n h1 h2 h3 h4 => ⟨⟨(by omega : 0 ≤ m.marks + 1), (by omega : m.marks + 1 ≤ N + 1)⟩, ⟨(by omega : 0 ≤ m.marks + 1), (by omega : m.marks + 1 ≤ N + 1)⟩, fun z => absurd z n, hr, h1, h2, h3, h4⟩
  rcases hs with e | e | e
  · subst e
    exact base _ ni h.num h.kp h.lap h.till
  · subst e
    exact base _ ni (.inl rfl) (.inr rfl) ⟨(by decide : (0 : Int) ≤ 0), (by decide : (0 : Int) ≤ 999999999999)⟩ fun _ z => by cases z
  · subst e
    exact base _ ni (.inl rfl) (.inr rfl) ⟨(by decide : (0 : Int) ≤ 0), (by decide : (0 : Int) ≤ 999999999999)⟩ fun _ z => by cases z
theorem isH_ne {s : Hd} (h : s.isH = true) : s ≠ .idle := fun e => by rw [e] at h; cases h
theorem good_done {N r : Int} {m : Ak} (h : Good N m) (hr : -200000000000 ≤ r ∧ r ≤ 200000000000) (n : Str) (d : Deed) : Good (N + 1) (doneA n m d r).2 := by
  have g := h.settled r
  rw [doneA_eq]
  generalize K39.settled m r = s at g
  have g1 : Good (N + 1) s := g.mono (by omega)
  have gi : Good (N + 1) (idleA s.marks) := Good.idleA ⟨g.marks.1, by have := g.marks.2; omega⟩
  cases c : s.st.isH with
  | true =>
    cases d with
    | seek => rw [show doneS n s .seek r = (none, s) from if_pos c]; exact g1
    | renew => rw [show doneS n s .renew r = (some ⟨"renew", n, if s.st.dueS r = "all" then "" else s.st.kpS, s.marks + 1, s.st.num?, 0, 0, "", ""⟩, ⟨s.st, s.marks + 1, s.marks + 1, r⟩) from if_pos c]; exact g.sentAt hr (.inl rfl) (isH_ne c)
    | free => rw [show doneS n s .free r = (some (backL "free" n s), idleA s.marks) from if_pos c]; exact gi
    | spoil => rw [show doneS n s .spoil r = (some (backL "spoil" n s), idleA s.marks) from if_pos c]; exact gi
  | false =>
    have nc : ¬ s.st.isH = true := by rw [c]; decide
    cases d with
    | seek => rw [show doneS n s .seek r = (some ⟨"find", n, "", s.marks + 1, none, 0, 0, "", ""⟩, ⟨.asked, s.marks + 1, s.marks + 1, r⟩) from if_neg nc]; exact g.sentAt hr (.inr (.inl rfl)) (fun z => by cases z)
    | renew => rw [show doneS n s .renew r = (none, s) from if_neg nc]; exact g1
    | free => rw [show doneS n s .free r = (none, s) from if_neg nc]; exact g1
    | spoil => rw [show doneS n s .spoil r = (none, s) from if_neg nc]; exact g1
theorem grantT_in {N : Int} {s : Ak} {l : Let} (g : Good N s) (h0 : 0 ≤ l.span) (h1 : l.span ≤ 1000000) : -200000000000 ≤ grantT s l ∧ grantT s l ≤ 300000000000 := by
  have a := g.sent
  unfold grantT
  by_cases c : (decide (V.str s.st.ph = V.str "holding") && decide (oV l.number = oV s.st.num?)) = true
  · rw [if_pos c]
    by_cases c2 : s.st.till?.getD 0 > s.sent + l.span
    · rw [if_pos c2]
      cases e : s.st.till? with
      | none =>
        show -200000000000 ≤ (0 : Int) ∧ (0 : Int) ≤ 300000000000
        omega
      | some t => exact g.till t e
    · rw [if_neg c2]
      omega
  · rw [if_neg c]
    omega
theorem good_taken {N r : Int} {m : Ak} {l : Let} (h : Good N m) (hr : -200000000000 ≤ r ∧ r ≤ 200000000000) (n : Str) (L : LetOk l) (hsp : l.span ≤ 1000000) : Good (N + 1) (takenA n m l r).2 := by
  have g := h.settled r
  rw [takenA_eq]
  generalize K39.settled m r = s at g
  have g1 : Good (N + 1) s := g.mono (by omega)
  have gi : Good (N + 1) (idleA s.marks) := Good.idleA ⟨g.marks.1, by have := g.marks.2; omega⟩
  unfold takenS
  by_cases c1 : tkB1 n s l = true
  · rw [if_pos c1]; exact g1
  · rw [if_neg c1]
    by_cases c2 : tkB2 s l = true
    · rw [if_pos c2]; exact g.sentAt hr (.inr (.inr rfl)) (fun z => by cases z)
    · rw [if_neg c2]
      by_cases c3 : tkB3 s l = true
      · rw [if_pos c3]
        show Good (N + 1) (grantA s l r)
        unfold grantA
        by_cases c5 : (decide (oV l.number = V.non) || decide (V.int l.span = V.int 0)) = true
        · rw [if_pos c5]; exact g1
        · rw [if_neg c5]
          refine Good.settled ?_ r
          have hg := grantT_in g L.span.1 hsp
          refine ⟨⟨g.marks.1, by have := g.marks.2; exact (by omega : s.marks ≤ N + 1)⟩, ⟨Int.le_refl _, by have := g.marks.1; have := g.marks.2; exact (by omega : (0 : Int) ≤ N + 1)⟩, fun z => (by cases z), ⟨(by decide : (-200000000000 : Int) ≤ 0), (by decide : (0 : Int) ≤ 200000000000)⟩, .inr ⟨l.number.getD 0, rfl, ?_⟩, .inl L.sender, L.turn, fun t z => by cases z; exact hg⟩
          rcases L.number with z | ⟨i, z, h1, h2⟩
          · rw [z] at c5; exact absurd rfl c5
          · cases e : l.number with
            | none => rw [e] at z; cases z
            | some j =>
              rw [e] at z
              have e2 : j = i := V.int.inj z
              show 0 ≤ j ∧ j ≤ 999999
              omega
      · rw [if_neg c3]
        by_cases c4 : tkB4 s l = true
        · rw [if_pos c4]; exact gi
        · rw [if_neg c4]; exact g1
end K39
set_option Elab.async false
set_option linter.all false
set_option maxRecDepth 100000
set_option maxHeartbeats 4000000
/-! The heap within the law's inner loop. -/
namespace K39
open PySem PySem.Spec PyProof.Rows L2

theorem two_at {α : Type} {v : Nat → α} {k : Nat} (hk : k < 2) : atI [v 0, v 1] (k : Int) = some (v k) := by
  have c : k = 0 ∨ k = 1 := by omega
  rcases c with rfl | rfl <;> rfl
theorem two_ix {k : Nat} (hk : k < 2) : ixN 2 (k : Int) = some k := by
  have c : k = 0 ∨ k = 1 := by omega
  rcases c with rfl | rfl <;> rfl
theorem two_set {α : Type} {v : Nat → α} {k : Nat} {y : α} (hk : k < 2) : [v 0, v 1].set k y = [(fun j => if j = k then y else v j) 0, (fun j => if j = k then y else v j) 1] := by
  have c : k = 0 ∨ k = 1 := by omega
  rcases c with rfl | rfl <;> rfl
section
variable {K : PySem.W.Frag} {σ : L2.St} {H : Hp} {i j : Nat} {p : Addr} {xs : List V} {k : Int} {v : V}
theorem pvIxV (h : H p = some (.lst xs)) (e : atI xs k = some v) (hs : σ[i]? = some (some (.ref p)) := by rfl) (hj : σ[j]? = some (some (.int k)) := by rfl) : PvE (tOp (rIxL K) (tVar i) (tVar j)) σ H v :=
  fun Q q => ⟨_, hs, _, hj, p, xs, k, v, rfl, rfl, SqL.of h, e, q⟩
theorem pvIxO (h : H p = some (.lst xs)) (e : atI xs (1 - k) = some v) (hs : σ[i]? = some (some (.ref p)) := by rfl) (hj : σ[j]? = some (some (.int k)) := by rfl) : PvE (tOp (rIxL K) (tVar i) (tOp (rI0 fun i j => .int (i - j)) (tC (.int 1)) (tVar j))) σ H v :=
  fun Q q => ⟨_, hs, _, hj, _, _, rfl, rfl, p, xs, 1 - k, v, rfl, rfl, SqL.of h, e, q⟩
end
def setN {α : Type} (f : Nat → α) (k : Nat) (y : α) : Nat → α := fun j => if j = k then y else f j
/-- the places and what they say -/
structure In2 (K : PySem.W.Frag) (H0 H : Hp) (b NL L M : Addr) (x : Nat → Addr) (n : Nat → Str) (p : Nat → Addr) (m : Nat → Ak) (z : Int) : Prop where
  same : Same H0 H
  bag : BagAt H b z
  nl : H NL = some (.lst [.str (n 0), .str (n 1)])
  la : H L = some (.lst [.ref (x 0), .ref (x 1)])
  ms : H M = some (.lst [.ref (p 0), .ref (p 1)])
  ask : ∀ j, j < 2 → AskAt K H (x j) (n j) (m j)
  me : ∀ j, j < 2 → MeAt H (p j) (m j)
/-- what never changes of them -/
structure Apart (H0 : Hp) (b NL L M : Addr) (x : Nat → Addr) (n : Nat → Str) : Prop where
  b0 : H0 b = none
  m0 : H0 M = none
  x0 : ∀ j, j < 2 → H0 (x j) = none
  xx : x 0 ≠ x 1
  nm : NL ≠ M
  lm : L ≠ M
  nms : ∀ j, j < 2 → Nm (n j)
section
variable {K : PySem.W.Frag} {H0 H H' : Hp} {b NL L M : Addr} {x p : Nat → Addr} {n : Nat → Str} {m : Nat → Ak} {z z' : Int}
theorem In2.to (I : In2 K H0 H b NL L M x n p m z) (s : Same H H') : In2 K H0 H' b NL L M x n p m z where
  same := I.same.trans s
  bag := I.bag.same s
  nl := s _ _ I.nl
  la := s _ _ I.la
  ms := s _ _ I.ms
  ask := fun j hj => let ⟨dx, se, h1, h2⟩ := I.ask j hj; ⟨dx, se, h1, s _ _ h2⟩
  me := fun j hj => s _ _ (I.me j hj)
theorem In2.kb (I : In2 K H0 H b NL L M x n p m z) (A : Apart H0 b NL L M x n) (k : Kp [b] H H') (hb : BagAt H' b z') : In2 K H0 H' b NL L M x n p m z' where
  same := ((Kp.of_same (S := []) I.same).transF k A.b0).same
  bag := hb
  nl := lst_kb I.nl I.bag k (by simp)
  la := lst_kb I.la I.bag k (by simp)
  ms := lst_kb I.ms I.bag k (by simp)
  ask := fun j hj => by
    obtain ⟨ys, hys⟩ := I.bag.lst
    exact (I.ask j hj).ka hys k
  me := fun j hj => lst_kb (I.me j hj) I.bag k (by simp [meV])
theorem In2.step (I : In2 K H0 H b NL L M x n p m z) (A : Apart H0 b NL L M x n) {k : Nat} (hk : k < 2) {m' : Ak} {pb : Addr} (kk : Kp [x k] H H') (hA : AskAt K H' (x k) (n k) m') (hp : MeAt H' pb m') :
    In2 K H0 (upd H' M (.lst [.ref (setN p k pb 0), .ref (setN p k pb 1)])) b NL L M x n (setN p k pb) (setN m k m') z := by
  obtain ⟨dx, se, hs, hx⟩ := I.ask k hk
  have hM := lst_kx I.ms hx kk
  have hS : Same H0 H' := ((Kp.of_same (S := []) I.same).transF kk (A.x0 k hk)).same
  have up : Kp [M] H' (upd H' M (.lst [.ref (setN p k pb 0), .ref (setN p k pb 1)])) := (Kp.refl _ _).put (by simp)
  have neM : ∀ {q : Addr} {xs : List V}, H' q = some (.lst xs) → xs.length ≠ 2 → (upd H' M (.lst [.ref (setN p k pb 0), .ref (setN p k pb 1)])) q = some (.lst xs) := by
    intro q xs h l
    refine (upd_ne ?_).trans h
    intro c
    rw [c, hM] at h
    exact l (by rw [← HO.lst.inj (Option.some.inj h)]; rfl)
  refine ⟨((Kp.of_same (S := []) hS).transF up A.m0).same, ?_, ?_, ?_, upd_same, fun j hj => ?_, fun j hj => ?_⟩
  · obtain ⟨a, b', c, h1, h2⟩ := I.bag
    exact ⟨a, b', c, neM (lst_kx h1 hx kk) (by simp), h2⟩
  · exact (upd_ne A.nm).trans (lst_kx I.nl hx kk)
  · exact (upd_ne A.lm).trans (lst_kx I.la hx kk)
  · by_cases c : j = k
    · subst c
      have e : setN m j m' j = m' := if_pos rfl
      rw [e]
      exact hA.ka hM up
    · have e : setN m k m' j = m j := if_neg c
      rw [e]
      have ne : x j ≠ x k := by
        have c1 : (j = 0 ∧ k = 1) ∨ (j = 1 ∧ k = 0) := by omega
        rcases c1 with ⟨rfl, rfl⟩ | ⟨rfl, rfl⟩
        · exact A.xx
        · exact A.xx.symm
      exact ((I.ask j hj).kp kk (by simpa using ne)).ka hM up
  · by_cases c : j = k
    · subst c
      have e : setN m j m' j = m' := if_pos rfl
      have e2 : setN p j pb j = pb := if_pos rfl
      rw [e, e2]
      exact neM hp (by simp [meV])
    · have e : setN m k m' j = m j := if_neg c
      have e2 : setN p k pb j = p j := if_neg c
      rw [e, e2]
      exact neM (lst_kx (I.me j hj) hx kk) (by simp [meV])
end
end K39
set_option Elab.async false
set_option linter.all false
set_option maxRecDepth 100000
set_option maxHeartbeats 4000000
/-! The law's def. -/
namespace K39
open PySem PySem.Spec PyProof.Rows L2

section
variable {P : Program} {w : World} {K : PySem.W.Frag} {mg : Str → Option Value} {base : Heap}
def spLaw (K : PySem.W.Frag) : Sp := fun vs H Q _ => ∃ (a : Addr) (ns : List Int), vs = [.ref a] ∧ SqL K H a (ns.map V.int) ∧ ∀ H', Q (.bl true) H'
abbrev nL : List Str := ["_law_script", "_law_at", "_law_bag_here", "_law_names_here", "_law_askers", "_law_mes", "_law_reading", "_law_lap", "_law_k", "_law_here", "_law_what", "_law_way", "_law_name"]
theorem sc_law : FnScope nL ["_law_script"] (defScope sLaw) := ⟨rfl, rfl, rfl, by decide +kernel, rfl, by decide +kernel, by decide +kernel⟩
/-- ahead of the lap i -/
def InP (K : PySem.W.Frag) (H0 : Hp) (a b NL L M : Addr) (x : Nat → Addr) (n : Nat → Str) (v1 v12 : Option V) (i : Nat) (σ : L2.St) (H : Hp) : Prop :=
  ∃ (p : Nat → Addr) (m : Nat → Ak) (rd : Int) (v7 v8 v9 v10 v11 : Option V), σ = [some (.ref a), v1, some (.ref b), some (.ref NL), some (.ref L), some (.ref M), some (.int rd), v7, v8, v9, v10, v11, v12] ∧
    In2 K H0 H b NL L M x n p m (20 + 20 * i) ∧ (∀ j, j < 2 → Good i (m j)) ∧ -100000000000 ≤ rd ∧ rd ≤ 1000 + 300 * i
theorem In2.mono {H0 H : Hp} {b NL L M : Addr} {x p : Nat → Addr} {n : Nat → Str} {m : Nat → Ak} {z z' : Int} (I : In2 K H0 H b NL L M x n p m z) (h : z ≤ z') : In2 K H0 H b NL L M x n p m z' := ⟨I.same, I.bag.mono h, I.nl, I.la, I.ms, I.ask, I.me⟩
/-- mes[k] = _law_go(..); if .. -/
abbrev tGo (K : PySem.W.Frag) : TS := tSeq (tAsg (tCall (spGo K) [] E0 (tCons (tOp (rIxL K) (tVar 4) (tVar 8)) (tCons (tOp (rIxL K) (tVar 3) (tVar 8)) (tCons (tOp (rIxL K) (tVar 5) (tVar 8)) (tCons (tVar 10) (tCons (tVar 6) tNil)))))) (gSub (tVar 5) (tVar 8) rSetL))
  (tIfS (tOr (tB (tIsN (tOp (rIxL K) (tVar 5) (tVar 8)))) (tNot (tB (tCall (spTells K) [] E0 (tCons (tOp (rIxL K) (tVar 4) (tOp (rI0 fun i j => .int (i - j)) (tC (.int 1)) (tVar 8))) (tCons (tOp (rIxL K) (tVar 5) (tOp (rI0 fun i j => .int (i - j)) (tC (.int 1)) (tVar 8))) (tCons (tVar 6) tNil))))))) tNever tNext)
theorem go_turn {H0 H : Hp} {a b NL L M ph : Addr} {x p : Nat → Addr} {n : Nat → Str} {m : Nat → Ak} {v1 v12 v7 v11 : Option V} {i k : Nat} {rd : Int} {wh : What} {D : Ends} (A : Apart H0 b NL L M x n) (hk : k < 2) (I : In2 K H0 H b NL L M x n p m (20 + 20 * (i + 1))) (hi : i < 100)
    (G : ∀ j, j < 2 → Good i (m j)) (hG : Good (i + 1) (wh.next (n k) (m k) rd).2) (hw : wh.at_ K H) (r0 : -100000000000 ≤ rd) (r1 : rd ≤ 1000 + 300 * (i + 1)) (hD : ∀ σ' H', InP K H0 a b NL L M x n v1 v12 (i + 1) σ' H' → D.nx σ' H') :
    tGo K D [some (.ref a), v1, some (.ref b), some (.ref NL), some (.ref L), some (.ref M), some (.int rd), v7, some (.int k), some (.ref ph), some wh.val, v11, v12] H := by
  obtain ⟨dx, se, hs, hx⟩ := I.ask k hk
  have gk := G k hk
  refine seqI ?_
  refine pvIxV I.la (two_at (v := fun j => V.ref (x j)) hk) rfl rfl _ ?_
  refine pvIxV I.nl (two_at (v := fun j => V.str (n j)) hk) rfl rfl _ ?_
  refine pvIxV I.ms (two_at (v := fun j => V.ref (p j)) hk) rfl rfl _ ?_
  refine ⟨_, rfl, _, rfl, x k, p k, rd, n k, m k, wh, rfl, I.ask k hk, I.me k hk, gk.ok (by omega), A.nms k hk, hw, (gk.settled rd).idle, (hG.settled rd).fit, fun H9 pb k9 A9 hp9 => ?_⟩
  have hM := lst_kx I.ms hx k9
  refine ⟨_, rfl, _, rfl, M, _, (k : Int), k, rfl, rfl, hM, two_ix hk, ?_⟩
  have I9 := I.step A hk k9 A9 hp9
  have e : [V.ref (p 0), V.ref (p 1)].set k (.ref pb) = [.ref (setN p k pb 0), .ref (setN p k pb 1)] := by
    have c : k = 0 ∨ k = 1 := by omega
    rcases c with rfl | rfl <;> rfl
  rw [e]
  generalize upd H9 M (.lst [.ref (setN p k pb 0), .ref (setN p k pb 1)]) = H10 at I9
  have e1 : PvT (tB (tIsN (tOp (rIxL K) (tVar 5) (tVar 8)))) [some (.ref a), v1, some (.ref b), some (.ref NL), some (.ref L), some (.ref M), some (.int rd), v7, some (.int k), some (.ref ph), some wh.val, v11, v12] H10 false := pvIsN (pvIxV I9.ms (two_at (v := fun j => V.ref (setN p k pb j)) hk))
  refine e1 _ (iteF ?_)
  have ho : (1 : Int) - (k : Int) = ((1 - k : Nat) : Int) := by omega
  have o2 : 1 - k < 2 := by omega
  refine pvIxO I9.la (v := .ref (x (1 - k))) (by rw [ho]; exact two_at (v := fun j => V.ref (x j)) o2) rfl rfl _ ?_
  refine pvIxO I9.ms (v := .ref (setN p k pb (1 - k))) (by rw [ho]; exact two_at (v := fun j => V.ref (setN p k pb j)) o2) rfl rfl _ ?_
  have gall : ∀ j, j < 2 → Good ((i : Int) + 1) (setN m k (wh.next (n k) (m k) rd).2 j) := by
    intro j hj
    by_cases c : j = k
    · rw [show setN m k (wh.next (n k) (m k) rd).2 j = (wh.next (n k) (m k) rd).2 from if_pos c]
      exact hG
    · rw [show setN m k (wh.next (n k) (m k) rd).2 j = m j from if_neg c]
      exact (G j hj).mono (by omega)
  refine ⟨_, rfl, x (1 - k), setN p k pb (1 - k), rd, n (1 - k), setN m k (wh.next (n k) (m k) rd).2 (1 - k), rfl, I9.ask _ o2, I9.me _ o2, ((gall _ o2).settled rd).fit, fun H11 s11 => ⟨true, rfl, iteF ?_⟩⟩
  refine hD _ _ ⟨setN p k pb, setN m k (wh.next (n k) (m k) rd).2, rd, _, _, _, _, _, rfl, ?_, ?_, r0, ?_⟩
  · have h := I9.to s11
    rw [show (20 : Int) + 20 * ((i + 1 : Nat) : Int) = 20 + 20 * ((i : Int) + 1) by push_cast; rfl]
    exact h
  · intro j hj
    rw [show (((i + 1 : Nat) : Nat) : Int) = (i : Int) + 1 by push_cast; rfl]
    exact gall j hj
  · push_cast; omega
end
end K39
set_option Elab.async false
set_option linter.all false
set_option maxRecDepth 100000
set_option maxHeartbeats 4000000
/-! The law's def. -/
namespace K39
open PySem PySem.Spec PyProof.Rows L2

theorem make_same {H H5 : Hp} {x dx C : Addr} (nx : H x = none) (nd : H dx = none) (ne : dx ≠ x) (k : Kp [x] (upd (upd H dx (.own x)) x (.ins C dx [])) H5) : Same H H5 := by
  have s0 : Same H (upd (upd H dx (.own x)) x (.ins C dx [])) := ((Same.refl H).new nd).new (by rw [upd_ne (Ne.symm ne)]; exact nx)
  exact fun a o ha => k a o (by simp only [List.mem_singleton]; exact ne_of_none ha nx) (s0 a o ha)
theorem AskAt.to {K : PySem.W.Frag} {H H' : Hp} {x : Addr} {n : Str} {m : Ak} (A : AskAt K H x n m) (s : Same H H') : AskAt K H' x n m := let ⟨dx, se, h1, h2⟩ := A; ⟨dx, se, h1, s _ _ h2⟩
theorem AskAt.ne {K : PySem.W.Frag} {H : Hp} {x y : Addr} {n : Str} {m : Ak} (A : AskAt K H x n m) (h : H y = none) : x ≠ y := let ⟨_, _, _, h2⟩ := A; ne_of_none h2 h
theorem same_free {H H' : Hp} {p : Addr} (s : Same H H') (h : H' p = none) : H p = none := (Kp.of_same (S := []) s).free (fun _ z => nomatch z) h
theorem Same.kb {H H1 H2 : Hp} {b : Addr} (s : Same H H1) (k : Kp [b] H1 H2) (h : H b = none) : Same H H2 := ((Kp.of_same (S := []) s).transF k h).same
/-- the comprehension of the askers, after i names -/
def MkP (K : PySem.W.Frag) (H3 : Hp) (L : Addr) (n1 n2 : Str) (i : Nat) (H : Hp) : Prop :=
  Same H3 H ∧ ((i = 0 ∧ H L = some (.lst [])) ∨ (i = 1 ∧ ∃ x0, H L = some (.lst [.ref x0]) ∧ AskAt K H x0 n1 (idleA 0) ∧ H3 x0 = none) ∨
    (i = 2 ∧ ∃ x0 x1, H L = some (.lst [.ref x0, .ref x1]) ∧ AskAt K H x0 n1 (idleA 0) ∧ AskAt K H x1 n2 (idleA 0) ∧ x0 ≠ x1 ∧ H3 x0 = none ∧ H3 x1 = none))
section
variable {P : Program} {w : World} {K : PySem.W.Frag} {mg : Str → Option Value} {base : Heap}
theorem law_at (T : Tx w K mg) {fd : FuncData} (F : FunD K "law" "law" (defArgs sLaw) (defBody sLaw) (defScope sLaw) [] [] (He.ga K "law") fd) : FnG P w K mg base 13 (He.ga K "law") fd ["_law_script"] (spLaw K) := by
  refine okG F sc_law (fun vs H Q E h => ?_) (fun cdv A outer s H vs Q E hgd hr h => ?_)
  · obtain ⟨a, ns, rfl, _⟩ := h
    rfl
  · obtain ⟨a, ns, rfl, ha, q⟩ := h
    have DT := (d_tells (P := P) (base := base) T)
    have DG := (d_go (P := P) (base := base) T)
    refine ⟨_, pss_cons (ps_for PassesOwn.never rfl (pi_range1 (by rfl) (T.free "range") (pa_cons (pe_callB (call_max2 rfl) (by rfl) (T.free "max") (by decide +kernel) (pa_cons pe_int (pa_cons (pe_callB (call_min2 rfl) (by rfl) (T.free "min") (by decide +kernel) (pa_cons pe_int (pa_cons (pe_callB call_len_seq (by rfl) (T.free "len") PySem.boot_len (pa_cons (pv 0) pa_nil)) pa_nil))) pa_nil))) pa_nil)) (pg_name (i := 1) sc_law.nd rfl (.inl rfl))
      (pss_cons (ps_set (i := 2) sc_law.nd rfl (.inl rfl) (pe_callD (E := E0) (d_bag T) (hr.mono (by decide)) (by rfl) (T.glo "_law_bag") pass0 (pa_cons (pv 0) (pa_cons (pv 1) pa_nil))))
      (pss_cons (ps_set (i := 3) sc_law.nd rfl (.inl rfl) (pe_callD (E := E0) (d_names T) (hr.mono (by decide)) (by rfl) (T.glo "_law_names") pass0 (pa_cons (pv 2) (pa_cons pe_int pa_nil))))
      (pss_cons (ps_par (i := 4) (j := 5) rfl sc_law.nd rfl rfl (by decide) rfl rfl (pa_cons (pe_lc (own := [("_law_name", 12)]) (g := gName 12) (tt := tYes) (by rfl) sc_law.nd (pi_list (pv 3)) (blkOk_by (own := [("_law_name", 12)]) (N := nL) (sc := defScope sLaw) (by decide +kernel))
          (fun _ _ _ _ _ => pg_name (i := 12) sc_law.nd rfl (Or.inl rfl)) (fun _ _ _ _ _ => pts_nil) (fun _ _ _ _ _ => pe_makeD (E := E0) (T.mkr "Asker") (d_aInit T) (hr.mono (by decide)) (by rfl) (T.glo "Asker") pass0 (pa_cons (pv 12) pa_nil)))
          (pa_cons (pe_lst (pa_cons (pe_callD (E := E0) (d_idle T) (hr.mono (by decide)) (by rfl) (T.glo "_law_idle") pass0 (pa_cons pe_int pa_nil)) (pa_cons (pe_callD (E := E0) (d_idle T) (hr.mono (by decide)) (by rfl) (T.glo "_law_idle") pass0 (pa_cons pe_int pa_nil)) pa_nil))) pa_nil)) (by rfl))
      (pss_cons (ps_set (i := 6) sc_law.nd rfl (.inl rfl) (pe_ix ix_list (pe_lst (pa_cons pe_int (pa_cons (pe_op op_sub (pe_callD (E := E0) (d_tk T) (hr.mono (by decide)) (by rfl) (T.glo "_law_take") pass0 (pa_cons (pv 2) (pa_cons pe_int pa_nil))) pe_int) (pa_cons (pe_op op_sub pe_int (pe_callD (E := E0) (d_tk T) (hr.mono (by decide)) (by rfl) (T.glo "_law_take") pass0 (pa_cons (pv 2) (pa_cons (pe_op op_pow pe_int pe_int) pa_nil)))) pa_nil)))) (pe_callD (E := E0) (d_tk T) (hr.mono (by decide)) (by rfl) (T.glo "_law_take") pass0 (pa_cons (pv 2) (pa_cons pe_int pa_nil))) (fun _ _ => rfl)))
      (pss_one (ps_for PassesOwn.never rfl (pi_range1 (by rfl) (T.free "range") (pa_cons (pe_op op_add pe_int (pe_callD (E := E0) (d_tk T) (hr.mono (by decide)) (by rfl) (T.glo "_law_take") pass0 (pa_cons (pv 2) (pa_cons pe_int pa_nil)))) pa_nil)) (pg_name (i := 7) sc_law.nd rfl (.inl rfl))
        (pss_cons (ps_set (i := 8) sc_law.nd rfl (.inl rfl) (pe_callD (E := E0) (d_tk T) (hr.mono (by decide)) (by rfl) (T.glo "_law_take") pass0 (pa_cons (pv 2) (pa_cons pe_int pa_nil))))
        (pss_cons (ps_set (i := 6) sc_law.nd rfl (.inl rfl) (pe_op op_add (pv 6) (pe_op op_mul (pe_callD (E := E0) (d_step T) (hr.mono (by decide)) (by rfl) (T.glo "_law_step") pass0 (pa_cons (pv 2) pa_nil)) (pe_callTy call_int1 (by rfl) (T.free "int") (by decide +kernel) (pa_cons (pe_cmpR op_eq (pe_callD (E := E0) (d_tk T) (hr.mono (by decide)) (by rfl) (T.glo "_law_take") pass0 (pa_cons (pv 2) (pa_cons pe_int pa_nil))) pe_int (nomark _)) pa_nil)))))
        (pss_cons (ps_set (i := 9) sc_law.nd rfl (.inl rfl) (pe_callD (E := E0) (d_settled T) (hr.mono (by decide)) (by rfl) (T.glo "_law_settled") pass0 (pa_cons (pe_ix ix_list (pv 5) (pv 8) (fun _ _ => rfl)) (pa_cons (pv 6) pa_nil))))
        (pss_cons (ps_set (i := 10) sc_law.nd rfl (.inl rfl) (pe_callD (E := E0) (d_answer T) (hr.mono (by decide)) (by rfl) (T.glo "_law_answer") pass0 (pa_cons (pv 2) (pa_cons (pe_ix ix_list (pv 3) (pv 8) (fun _ _ => rfl)) (pa_cons (pv 9) pa_nil)))))
        (pss_cons (ps_set (i := 11) sc_law.nd rfl (.inl rfl) (pe_callD (E := E0) (d_tk T) (hr.mono (by decide)) (by rfl) (T.glo "_law_take") pass0 (pa_cons (pv 2) (pa_cons pe_int pa_nil))))
        (pss_cons (ps_if (pt_cmpR op_lt (pv 11) pe_int (nomark _)) (pss_one (ps_set (i := 10) sc_law.nd rfl (.inl rfl) (pe_ix ix_list (pe_lst (pa_cons pe_str (pa_cons pe_str (pa_cons pe_str (pa_cons pe_str pa_nil))))) (pe_callD (E := E0) (d_tk T) (hr.mono (by decide)) (by rfl) (T.glo "_law_take") pass0 (pa_cons (pv 2) (pa_cons pe_int pa_nil))) (fun _ _ => rfl))))
          (pss_one (ps_if (PW.pt (pw_or (pt_cmpR op_eq (pe_ix ix_list (pv 9) pe_int (fun _ _ => rfl)) pe_str (nomark _)) (pw_or1 (pt_cmpR op_eq (pv 11) pe_int (nomark _)))))
            (pss_one (ps_set (i := 10) sc_law.nd rfl (.inl rfl) (pe_ifExp (pt_cmpR op_eq (pe_ix ix_list (pv 9) pe_int (fun _ _ => rfl)) pe_str (nomark _)) pe_str pe_str)))
            (pss_one (ps_if (pt_cmpR op_eq (pv 11) pe_int (nomark _)) (pss_one (ps_set (i := 10) sc_law.nd rfl (.inl rfl) (pe_callD (E := E0) (d_elder T) (hr.mono (by decide)) (by rfl) (T.glo "_law_elder") pass0 (pa_cons (pv 2) (pa_cons (pv 10) pa_nil))))) pss_nil)))))
        (pss_cons (ps_asg (pe_callG DG hgd hr (by rfl) (T.glo "_law_go") (pa_cons (pe_ix ix_list (pv 4) (pv 8) (fun _ _ => rfl)) (pa_cons (pe_ix ix_list (pv 3) (pv 8) (fun _ _ => rfl)) (pa_cons (pe_ix ix_list (pv 5) (pv 8) (fun _ _ => rfl)) (pa_cons (pv 10) (pa_cons (pv 6) pa_nil)))))) (pg_sub (pv 5) (pv 8) set_list))
        (pss_one (ps_if (PW.pt (pw_or (pt_cmp (pc_isN (pe_ix ix_list (pv 5) (pv 8) (fun _ _ => rfl)))) (pw_or1 (pt_not (pt_val (pe_callG DT hgd (hr.mono (by decide)) (by rfl) (T.glo "_law_tells") (pa_cons (pe_ix ix_list (pv 4) (pe_op op_sub pe_int (pv 8)) (fun _ _ => rfl)) (pa_cons (pe_ix ix_list (pv 5) (pe_op op_sub pe_int (pv 8)) (fun _ _ => rfl)) (pa_cons (pv 6) pa_nil))))))))) pss_never pss_nil)))))))))))))))) (pss_one (ps_ret pe_bl)), ?_⟩
    -- how many times
    refine seqI ?_
    refine ⟨_, rfl, _, _, rfl, .inl ha, 3, _, rfl, 1, _, rfl, ?_⟩
    have hJ : ∃ J : Int, (if (if ((((ns.map V.int).length : Nat) : Int) < 3) then (((ns.map V.int).length : Nat) : Int) else 3) > 1 then (if ((((ns.map V.int).length : Nat) : Int) < 3) then (((ns.map V.int).length : Nat) : Int) else 3) else 1) = J ∧ 1 ≤ J ∧ J ≤ 3 := by
      refine ⟨_, rfl, ?_, ?_⟩ <;> split <;> (try split) <;> omega
    obtain ⟨J, eJ, J1, J3⟩ := hJ
    refine ⟨J, congrArg (fun z => [V.int z]) eJ, by omega, by omega, ?_⟩
    refine for_range (lo := 0) (n := J.toNat) (fun i σ H' => Same H H' ∧ ∃ v1 v2 v3 v4 v5 v6 v7 v8 v9 v10 v11 v12 : Option V, σ = [some (.ref a), v1, v2, v3, v4, v5, v6, v7, v8, v9, v10, v11, v12]) ⟨Same.refl H, none, none, none, none, none, none, none, none, none, none, none, none, rfl⟩ ?_ fun _ H' _ => q H'
    rintro i0 σ H1 hi0 ⟨s1, v1, v2, v3, v4, v5, v6, v7, v8, v9, v10, v11, v12, rfl⟩
    -- the bag, the names
    refine seqI ⟨_, rfl, _, rfl, a, 0 + (i0 : Int), ns, rfl, s1.sql ha, by omega, by omega, fun H2 b s2 fb hb => ?_⟩
    have hb0 : H b = none := same_free s1 fb
    have t2 : Same H H2 := s1.trans s2
    refine seqI ⟨_, rfl, b, 0, rfl, hb, by decide, fun H3 NL n1 n2 k3 hb3 fNL hNL nm1 nm2 => ?_⟩
    have t3 : Same H H3 := Same.kb t2 k3 hb0
    -- the askers, the plain ones
    refine seqI ?_
    refine ⟨_, rfl, NL, rfl, ⟨_, SqL.of hNL⟩, fun L hL => ?_⟩
    refine lc_list (K := K) (a := NL) (xs := [.str n1, .str n2]) (MkP K H3 L n1 n2) ⟨(Same.refl H3).new hL, .inl ⟨rfl, upd_same⟩⟩ (fun i H4 _ h4 => SqL.of (h4.1 _ _ hNL)) ?_ ?_
    · rintro i y H4 hy ⟨s4, h4⟩
      refine ⟨rfl, ?_⟩
      rcases h4 with ⟨rfl, h4⟩ | ⟨rfl, x0, h4, A4, f0⟩ | ⟨rfl, h4⟩
      · obtain rfl := Option.some.inj hy
        refine ⟨_, rfl, fun x dx nx nd ne => ?_⟩
        refine ⟨x, dx, n1, rfl, upd_same, fun H5 k5 A5 => ⟨rfl, ?_⟩⟩
        have s5 := make_same nx nd ne k5
        refine ⟨[], s5 _ _ h4, (by show 0 < sizeLine; decide), (s4.trans s5).own hL, .inr (.inl ⟨rfl, x, upd_same, ?_, same_free s4 nx⟩)⟩
        exact A5.ka (s5 _ _ h4) ((Kp.refl _ _).put (by simp))
      · obtain rfl := Option.some.inj hy
        refine ⟨_, rfl, fun x dx nx nd ne => ?_⟩
        refine ⟨x, dx, n2, rfl, upd_same, fun H5 k5 A5 => ⟨rfl, ?_⟩⟩
        have s5 := make_same nx nd ne k5
        refine ⟨[.ref x0], s5 _ _ h4, (by show 1 < sizeLine; decide), (s4.trans s5).own hL, .inr (.inr ⟨rfl, x0, x, upd_same, ?_, ?_, A4.ne nx, f0, same_free s4 nx⟩)⟩
        · exact (A4.to s5).ka (s5 _ _ h4) ((Kp.refl _ _).put (by simp))
        · exact A5.ka (s5 _ _ h4) ((Kp.refl _ _).put (by simp))
      · simp at hy
    rintro H4 ⟨s4, h4⟩
    rcases h4 with ⟨h4, _⟩ | ⟨h4, _⟩ | ⟨_, x0, x1, hL4, A0, A1, ne01, f0, f1⟩
    · simp at h4
    · simp at h4
    refine ⟨0, rfl, fun H6 p0 s6 f6 hp0 => ⟨0, rfl, fun H7 p1 s7 f7 hp1 => ⟨(by show 2 ≤ sizeLine; decide), fun M hM => ⟨_, _, rfl, ?_⟩⟩⟩⟩
    have s47 : Same H4 H7 := s6.trans s7
    have t4 : Same H H4 := t3.trans s4
    have t7 : Same H H7 := t4.trans s47
    have u7 := (Same.refl H7).new (o := .lst [.ref p0, .ref p1]) hM
    have I0 : In2 K H (upd H7 M (.lst [.ref p0, .ref p1])) b NL L M (fun j => if j = 0 then x0 else x1) (fun j => if j = 0 then n1 else n2) (fun j => if j = 0 then p0 else p1) (fun _ => idleA 0) 12 := by
      refine ⟨t7.trans u7, ?_, u7 _ _ (s47 _ _ (s4 _ _ hNL)), u7 _ _ (s47 _ _ hL4), upd_same, fun j hj => ?_, fun j hj => ?_⟩
      · exact ((hb3.same s4).same s47).same u7
      · have c : j = 0 ∨ j = 1 := by omega
        rcases c with rfl | rfl
        · exact (A0.to s47).to u7
        · exact (A1.to s47).to u7
      · have c : j = 0 ∨ j = 1 := by omega
        rcases c with rfl | rfl
        · exact u7 _ _ (s7 _ _ hp0)
        · exact u7 _ _ hp1
    have A : Apart H b NL L M (fun j => if j = 0 then x0 else x1) (fun j => if j = 0 then n1 else n2) := by
      refine ⟨hb0, same_free t7 hM, fun j hj => ?_, ne01, ne_of_none (s47 _ _ (s4 _ _ hNL)) hM, ne_of_none (s47 _ _ hL4) hM, fun j hj => ?_⟩
      · have c : j = 0 ∨ j = 1 := by omega
        rcases c with rfl | rfl
        · exact same_free t3 f0
        · exact same_free t3 f1
      · have c : j = 0 ∨ j = 1 := by omega
        rcases c with rfl | rfl
        · exact nm1
        · exact nm2
    generalize (fun j : Nat => if j = 0 then x0 else x1) = x at I0 A
    generalize (fun j : Nat => if j = 0 then n1 else n2) = n at I0 A
    generalize (fun j : Nat => if j = 0 then p0 else p1) = pf at I0
    generalize upd H7 M (.lst [.ref p0, .ref p1]) = H8 at I0
    -- the first reading
    refine seqI ?_
    refine takeI I0.bag (by omega) (by decide) (by decide) (fun H9 r9 k9 hb9 a9 c9 => ?_) rfl
    have I9 := I0.kb A k9 hb9
    refine ⟨_, _, rfl, rfl, ?_⟩
    refine ⟨_, rfl, _, _, rfl, rfl, ⟨by decide, by decide, by decide⟩, b, _, _, rfl, (by decide +kernel), (by decide +kernel), hb9, by omega, fun H10 r10 k10 hb10 a10 c10 => ?_⟩
    have I10 := I9.kb A k10 hb10
    have c10' : r10 < 100000000000 := c10
    refine ⟨_, _, rfl, rfl, (by show 3 ≤ sizeLine; decide), fun l hl => ?_⟩
    have s11 := (Same.refl H10).new (o := .lst [.int 0, .int (r9 - 1000), .int (0 - r10)]) hl
    have I11 := I10.to s11
    refine takeI I11.bag (by omega) (by decide) (by decide) (fun H12 r12 k12 hb12 a12 c12 => ?_) rfl
    have I12 := I11.kb A k12 hb12
    refine ixI (n := 3) (k12 _ _ (by simpa using hb10.nl hl) upd_same) a12 c12 rfl fun v hv => ?_
    have hrd : ∃ rd : Int, v = .int rd ∧ -100000000000 ≤ rd ∧ rd ≤ 1000 := by
      simp only [List.mem_cons, List.not_mem_nil, or_false] at hv
      rcases hv with rfl | rfl | rfl
      · exact ⟨_, rfl, by omega, by omega⟩
      · exact ⟨_, rfl, by omega, by omega⟩
      · exact ⟨_, rfl, by omega, by omega⟩
    obtain ⟨rd, rfl, rd0, rd1⟩ := hrd
    -- the laps
    refine takeI I12.bag (by omega) (by decide) (by decide) (fun H13 r13 k13 hb13 a13 c13 => ?_) rfl
    have I13 := (I12.kb A k13 hb13).mono (z' := 20 + 20 * ((0 : Nat) : Int)) (by simp)
    refine ⟨_, _, rfl, rfl, _, rfl, by omega, by omega, ?_⟩
    refine for_range (lo := 0) (n := (12 + r13).toNat) (InP K H a b NL L M x n (some (.int (0 + (i0 : Int)))) v12) ⟨pf, fun _ => idleA 0, rd, _, _, _, _, _, rfl, I13, fun j _ => Good.idleA ⟨Int.le_refl _, by simp⟩, rd0, by simp; omega⟩ ?_ ?_
    · rintro i σ H14 hi ⟨p, m, rd', w7, w8, w9, w10, w11, rfl, I, G, rd0', rd1'⟩
      have hi100 : i < 100 := by omega
      -- whose turn
      refine seqI ?_
      refine takeI I.bag (by omega) (by decide) (by decide) (fun H15 rk k15 hb15 a15 c15 => ?_) rfl
      have I15 := I.kb A k15 hb15
      obtain ⟨k, rfl, hk⟩ : ∃ k : Nat, rk = (k : Int) ∧ k < 2 := ⟨rk.toNat, by omega, by omega⟩
      -- the reading
      refine seqI ?_
      refine ⟨_, rfl, ?_⟩
      refine ⟨_, rfl, b, _, rfl, hb15, by omega, fun H16 st k16 hb16 a16 c16 => ?_⟩
      have I16 := I15.kb A k16 hb16
      refine takeI hb16 (by omega) (by decide) (by decide) (fun H17 r17 k17 hb17 a17 c17 => ?_) rfl
      have I17 := I16.kb A k17 hb17
      refine ⟨rfl, .inr ⟨_, rfl, ?_⟩⟩
      refine ⟨_, _, rfl, rfl, .inl (by omega), _, _, rfl, rfl, ?_⟩
      have hst : -100000000000 ≤ (rd' + st * (if decide (V.int r17 = V.int 0) = true then 1 else 0)) ∧ (rd' + st * (if decide (V.int r17 = V.int 0) = true then 1 else 0)) ≤ 1000 + 300 * ((i : Int) + 1) := by
        cases decide (V.int r17 = V.int 0)
        · rw [if_neg (by decide)]; omega
        · rw [if_pos rfl]; omega
      obtain ⟨rd20, rd21⟩ := hst
      -- the plain asker as it stands
      refine seqI ?_
      refine pvIxV I17.ms (two_at (v := fun j => V.ref (p j)) hk) rfl rfl _ ?_
      refine ⟨_, rfl, p k, (rd' + st * (if decide (V.int r17 = V.int 0) = true then 1 else 0)), m k, rfl, I17.me k hk, fun H18 ph s18 f18 hph => ?_⟩
      have I18 := I17.to s18
      have g := (G k hk).settled (rd' + st * (if decide (V.int r17 = V.int 0) = true then 1 else 0))
      -- the answer
      refine seqI ⟨_, rfl, ?_⟩
      refine pvIxV I18.nl (two_at (v := fun j => V.str (n j)) hk) rfl rfl _ ?_
      refine ⟨_, rfl, b, ph, _, n k, settled (m k) (rd' + st * (if decide (V.int r17 = V.int 0) = true then 1 else 0)), rfl, I18.bag, by omega, hph, A.nms k hk, ⟨g.wait.1, by have := g.wait.2; omega⟩, g.num, fun H19 f l k19 hb19 f19 P19 An => ?_⟩
      have I19 := I18.kb A k19 hb19
      have hph19 : MeAt H19 ph (settled (m k) (rd' + st * (if decide (V.int r17 = V.int 0) = true then 1 else 0))) := lst_kb hph I18.bag k19 (by simp [meV])
      -- the way
      refine seqI ?_
      refine takeI hb19 (by omega) (by decide) (by decide) (fun H20 wy k20 hb20 a20 c20 => ?_) rfl
      have I20 := I19.kb A k20 hb20
      have hph20 : MeAt H20 ph (settled (m k) (rd' + st * (if decide (V.int r17 = V.int 0) = true then 1 else 0))) := lst_kb hph19 hb19 k20 (by simp [meV])
      have P20 := P19.kb hb19 k20
      have hi1 : (((i + 1 : Nat) : Nat) : Int) = (i : Int) + 1 := by push_cast; rfl
      have rr : -200000000000 ≤ (rd' + st * (if decide (V.int r17 = V.int 0) = true then 1 else 0)) ∧ (rd' + st * (if decide (V.int r17 = V.int 0) = true then 1 else 0)) ≤ 200000000000 := ⟨by omega, by omega⟩
      have deed : ∀ (d : Deed) {D : Ends} {H21 : Hp} {z : Int}, In2 K H H21 b NL L M x n p m z → z ≤ 20 + 20 * ((i : Int) + 1) → (∀ σ' H', InP K H a b NL L M x n (some (.int (0 + (i0 : Int)))) v12 (i + 1) σ' H' → D.nx σ' H') →
          tGo K D [some (.ref a), some (.int (0 + (i0 : Int))), some (.ref b), some (.ref NL), some (.ref L), some (.ref M), some (.int (rd' + st * (if decide (V.int r17 = V.int 0) = true then 1 else 0))), some (.int (0 + (i : Int))), some (.int k), some (.ref ph), some (.str d.word), some (.int wy), v12] H21 :=
        fun d {D} {H21} {z} I21 hz hD => go_turn (wh := .deed d) A hk (I21.mono hz) hi100 G (good_done (G k hk) rr _ d) trivial rd20 rd21 hD
      have letr : ∀ (f : Addr) (l : Let) {D : Ends} {H21 : Hp} {z : Int}, In2 K H H21 b NL L M x n p m z → z ≤ 20 + 20 * ((i : Int) + 1) → PLet K H21 f l → LetOk l → l.span ≤ 1000000 → (∀ σ' H', InP K H a b NL L M x n (some (.int (0 + (i0 : Int)))) v12 (i + 1) σ' H' → D.nx σ' H') →
          tGo K D [some (.ref a), some (.int (0 + (i0 : Int))), some (.ref b), some (.ref NL), some (.ref L), some (.ref M), some (.int (rd' + st * (if decide (V.int r17 = V.int 0) = true then 1 else 0))), some (.int (0 + (i : Int))), some (.int k), some (.ref ph), some (.ref f), some (.int wy), v12] H21 :=
        fun f l {D} {H21} {z} I21 hz PL LO hsp hD => go_turn (wh := .letter f l) A hk (I21.mono hz) hi100 G (good_taken (G k hk) rr _ LO hsp) ⟨PL, LO⟩ rd20 rd21 hD
      refine seqI ?_
      by_cases cw : wy < 2
      · refine ⟨_, rfl, _, _, rfl, rfl, true, congrArg V.bl (decide_eq_true cw), iteT ?_⟩
        refine ⟨(by show 4 ≤ sizeLine; decide), fun lw hlw => ?_⟩
        have s21 := (Same.refl H20).new (o := .lst [.str "seek", .str "renew", .str "free", .str "spoil"]) hlw
        have I21 := I20.to s21
        refine takeI I21.bag (by omega) (by decide) (by decide) (fun H22 r22 k22 hb22 a22 c22 => ?_) rfl
        have I22 := I21.kb A k22 hb22
        refine ixI (n := 4) (k22 _ _ (by simpa using hb20.nl hlw) upd_same) a22 c22 rfl fun v hv => ?_
        simp only [List.mem_cons, List.not_mem_nil, or_false] at hv
        rcases hv with rfl | rfl | rfl | rfl
        · exact deed .seek I22 (by omega) fun _ _ h => h
        · exact deed .renew I22 (by omega) fun _ _ h => h
        · exact deed .free I22 (by omega) fun _ _ h => h
        · exact deed .spoil I22 (by omega) fun _ _ h => h
      · refine ⟨_, rfl, _, _, rfl, rfl, false, congrArg V.bl (decide_eq_false cw), iteF ?_⟩
        have eH : PvT (tTest (tOp rEq (tOp (rIxL K) (tVar 9) (tC (.int 0))) (tC (.str "holding")))) [some (.ref a), some (.int (0 + (i0 : Int))), some (.ref b), some (.ref NL), some (.ref L), some (.ref M), some (.int (rd' + st * (if decide (V.int r17 = V.int 0) = true then 1 else 0))), some (.int (0 + (i : Int))), some (.int k), some (.ref ph), some (.ref f), some (.int wy), v12] H20 (settled (m k) (rd' + st * (if decide (V.int r17 = V.int 0) = true then 1 else 0))).st.isH := e_ph (settled (m k) (rd' + st * (if decide (V.int r17 = V.int 0) = true then 1 else 0))).st ▸ pvEq (pvIx hph20) pvC
        have eW : ∀ c : Int, PvT (tTest (tOp rEq (tVar 11) (tC (.int c)))) [some (.ref a), some (.int (0 + (i0 : Int))), some (.ref b), some (.ref NL), some (.ref L), some (.ref M), some (.int (rd' + st * (if decide (V.int r17 = V.int 0) = true then 1 else 0))), some (.int (0 + (i : Int))), some (.int k), some (.ref ph), some (.ref f), some (.int wy), v12] H20 (decide (V.int wy = V.int c)) := fun c => pvEq (pvV rfl) pvC
        have eI : PvT (tTest (tOp rEq (tOp (rIxL K) (tVar 9) (tC (.int 0))) (tC (.str "idle")))) [some (.ref a), some (.int (0 + (i0 : Int))), some (.ref b), some (.ref NL), some (.ref L), some (.ref M), some (.int (rd' + st * (if decide (V.int r17 = V.int 0) = true then 1 else 0))), some (.int (0 + (i : Int))), some (.int k), some (.ref ph), some (.ref f), some (.int wy), v12] H20 (decide (V.str (settled (m k) (rd' + st * (if decide (V.int r17 = V.int 0) = true then 1 else 0))).st.ph = V.str "idle")) := pvEq (pvIx hph20) pvC
        refine ifI (pvOr eI fun _ => eW 2) ?_
        cases (decide (V.str (settled (m k) (rd' + st * (if decide (V.int r17 = V.int 0) = true then 1 else 0))).st.ph = V.str "idle") || decide (V.int wy = V.int 2)) with
        | true =>
          refine iteT ?_
          refine eH _ ?_
          cases (settled (m k) (rd' + st * (if decide (V.int r17 = V.int 0) = true then 1 else 0))).st.isH with
          | true => exact iteT (deed .renew I20 (by omega) fun _ _ h => h)
          | false => exact iteF (deed .seek I20 (by omega) fun _ _ h => h)
        | false =>
          refine iteF ?_
          refine ifI (eW 3) ?_
          cases decide (V.int wy = V.int 3) with
          | true =>
            refine iteT ?_
            refine ⟨_, rfl, _, rfl, b, f, _, l, rfl, hb20, by omega, P20, An.ok, fun H23 e kk k23 hb23 fe kk0 kk1 P23 => ?_⟩
            have I23 := I20.kb A k23 hb23
            have mk2 := An.ok.mark.2
            exact letr e { l with mark := kk } I23 (by omega) P23 ⟨An.ok.kind, An.ok.sender, An.ok.receiver, ⟨kk0, by show kk ≤ 999999999999; omega⟩, An.ok.number, An.ok.span, An.ok.turn, An.ok.who, An.ok.link⟩ An.span fun _ _ h => h
          | false => exact iteF (letr f l I20 (by omega) P20 An.ok An.span fun _ _ h => h)
    · rintro σ H14 ⟨p, m, rd', w7, w8, w9, w10, w11, rfl, I, _, _, _⟩
      exact ⟨I.same, _, _, _, _, _, _, _, _, _, _, _, _, rfl⟩
end
end K39
set_option Elab.async false
set_option linter.all false
set_option maxRecDepth 100000
set_option maxHeartbeats 4000000
/-! The end. -/
namespace K39
open PySem PySem.W PySem.Calls PySem.Spec PyProof.Rows L2
abbrev R9 : OpenRow := OpenLaw.row PySem.Challenge.rw_leasepair_k39_whole_asker_by_a_plain_one
theorem facts {P : Program} {w : World} {K : PySem.W.Frag} {h : Heap} {mg : Str → Option Value} {f : Addr} (X : K.In h) (G : h.Ns mainGlobals mg) (hfa : mg ("law" : Str) = some (.ref f)) (c : He.SaysX fa fn ts [] exB w h K) :
    ∃ fd : FuncData, (∀ (s : Shared) (v : Value), BindsTo s fd ⟨[v], []⟩ [("_law_script", v)]) ∧ ∀ base : Heap, K.In base → base.Ns mainGlobals mg → FnG P w K mg base 13 f fd ["_law_script"] (spLaw K) := by
  have T : Tx w K mg := tx_of X G c
  have e := hfa.symm.trans (T.glo "law")
  cases e
  obtain ⟨fd, F⟩ := T.g3 17 "law" sLaw
  have b := FunD.bindsA (ps := ["_law_script"]) F fun _ _ _ _ _ _ us hl => match us, hl with | [_], _ => rfl
  exact ⟨fd, fun s v => b s [v] rfl, fun base _ _ => law_at T F⟩
end K39
open PySem PySem.W PySem.Calls PyProof.Rows
theorem PySem.Challenge.cw_leasepair_k39_whole_asker_by_a_plain_one_holds : PySem.Challenge.rw_leasepair_k39_whole_asker_by_a_plain_one.Holds := by
  w_on; o_law
  refine HandSHeadRun.head_any (r := K39.R) (q := K39.qv) (H := K39.hk) (ob := K39.ob) (M := 4000) (loose := K39.names) (d := HandSHeadRun.topDef K39.R.prog 55) (kwd := []) K39.ob_eq
    (by kernel_rfl) (fun s => by kernel_rfl) K39.run (by kernel_rfl) (by kernel_rfl) (by kernel_rfl) (by rfl) (by first | assumption | decide +kernel) (by decide +kernel) ⟨rfl, rfl, rfl, rfl, rfl, by decide +kernel⟩ ?hw ?hc
  case hw => w_witness2
  case hc =>
    refine K39.walk_G (l := PySem.Challenge.rw_leasepair_k39_whole_asker_by_a_plain_one) (n := 63) (k := 13) (x := "_law_script") rfl (by decide) (by kernel_rfl) ⟨rfl, by decide, by decide⟩ ?F
    intro w mg fa h Y G hmg0
    obtain ⟨K, KX, c⟩ := Y
    have hmg : mg ("law" : PySem.Str) = some (.ref fa) := by
      have e : (HandSHeadRun.topDef K39.R.prog 55).name = ("law" : PySem.Str) := by kernel_rfl
      rw [← e]
      exact hmg0
    obtain ⟨fd, hb, hF⟩ := K39.facts (P := (PySem.Challenge.rw_leasepair_k39_whole_asker_by_a_plain_one).prog) (w := w) KX G hmg c
    exact ⟨K, fd, K39.spLaw K, KX, hb, fun H a ns hl _ hS => ⟨a, ns, rfl, hS, fun _ => rfl⟩, hF⟩
