import PyProof.Rows.All
import Wide.All
import OpenK.AllK
import Wide.FinOn
import HandS.ForMost
import HandS.DictTup
import HandS.Walk
import HandS.Zip
import KE.KPairComp
import HandS.DictComp
import HandS.TupLe
import HandS.NamedTupSort
import HandS.TupSets
import HandS.SortOrd
import HandS.SortRule
import KE.KDictPairs
import KE.KDictKeyed
import HandS.TupMul
import KE.KEqDict
import KE.GoesZip
import KE.GoesMore
import KE.GoesEnum
import HandS.HotCalls
import HandS.ExcCtx
import HandS.WordsExc
import HandS.Conv
import HandS.IsInst
import HandS.TupAny
import PySem.Challenge.RW_dartwebs_k04_whole_sums
set_option Elab.async false
set_option linter.all false
set_option maxRecDepth 100000
set_option maxHeartbeats 4000000
/-! Items of a dict with tuple keys, walked with one name for each pair. -/
namespace Dw
open PySem PySem.Spec PyProof.Rows L2

/-- the item iterator at it, ahead of place i, whatever tuple it has given out -/
def ItSt (h : Heap) (it d : Addr) (i n ep : Nat) : Prop := ∃ x0 x1 ok ov : Value,
  h.get? it = some { cls := .type "dict_itemiterator", dict := none, data := .fields #[x0, x1, .ref d, rawInt i, rawInt n, rawInt ep, ok, ov], slots := #[] } ∧ (x0 = .none ∨ ∃ a : Addr, x0 = rawInt a)

section
variable {prog : Program} {w : World} {A : Around} {E : Value → Shared → Prop} {s : Shared}
theorem alive_any {a : Addr} {Q : Option Obj → Shared → Prop} (h : ∀ o, Q o s) : wpAny (model prog w) A (loadIfAlive a) Q E s := fun _ _ _ => h _

theorem free_any {it d : Addr} {i n ep : Nat} {Q : Bool → Shared → Prop} (st : ItSt s.heap it d i n ep)
    (h : ∀ (b : Bool) (h' : Heap), ItSt h' it d i n ep → Heap.SameBut it s.heap h' → Q b { s with heap := h' }) :
    wpAny (model prog w) A (Builtin.Dict_items.ownedTupleIsFree (.ref it)) Q E s := by
  obtain ⟨x0, x1, ok, ov, e, hx⟩ := id st
  unfold Builtin.Dict_items.ownedTupleIsFree
  refine wpAny_bind (wpAny_field e rfl (x := x0) rfl ?_)
  rcases hx with rfl | ⟨a, rfl⟩
  · exact wpAny_pure (h true s.heap st (Heap.SameBut.refl _ _))
  · show wpAny _ _ (loadIfAlive ((a : Int).toNat) >>= _) _ _ _
    refine wpAny_bind (alive_any fun o => ?_)
    cases o with
    | none => exact wpAny_pure (h true s.heap st (Heap.SameBut.refl _ _))
    | some o =>
      refine wpAny_bind (wpAny_field e rfl (x := x1) rfl ?_)
      by_cases hb : (x1 != .bool true) = true
      · rw [if_pos hb]
        refine wpAny_bind (wpAny_setField_rec e (by simp) fun h3 e3 s3 => ?_)
        exact wpAny_pure (h false h3 ⟨_, .bool true, ok, ov, e3, .inr ⟨a, rfl⟩⟩ s3)
      · rw [if_neg hb]
        exact wpAny_pure (h false s.heap st (Heap.SameBut.refl _ _))

theorem pair_any {it d : Addr} {i n ep : Nat} {k v : Value} {Q : Value → Shared → Prop} (st : ItSt s.heap it d i n ep)
    (h : ∀ h' : Heap, ItSt h' it d i n ep → h'.get? s.heap.objs.size = some { cls := .type "tuple", data := .seq #[k, v] } →
      (∀ b o, b ≠ it → s.heap.get? b = some o → h'.get? b = some o) → Q (.ref s.heap.objs.size) { s with heap := h' }) :
    wpAny (model prog w) A (Builtin.Dict_items.pairFromOwner (.ref it) 6 k v) Q E s := by
  have hil : it < s.heap.objs.size := let ⟨_, _, _, _, e, _⟩ := st; Heap.lt_size e
  unfold Builtin.Dict_items.pairFromOwner
  refine wpAny_bind (wpAny_newTuple ?_)
  have st1 : ItSt (s.heap.push { cls := .type "tuple", data := .seq #[k, v] }) it d i n ep := let ⟨x0, x1, ok, ov, e, hx⟩ := st; ⟨x0, x1, ok, ov, Heap.get?_push_of_some _ e, hx⟩
  refine wpAny_bind (free_any (s := { s with heap := s.heap.push { cls := .type "tuple", data := .seq #[k, v] } }) st1 fun b h2 st2 sb2 => ?_)
  have new2 : h2.get? s.heap.objs.size = some { cls := .type "tuple", data := .seq #[k, v] } := (sb2.2 _ (Nat.ne_of_gt hil)).trans (Heap.get?_push_size _ rfl)
  have kp2 : ∀ b o, b ≠ it → s.heap.get? b = some o → h2.get? b = some o := fun b o hb e => (sb2.2 b hb).trans (Heap.get?_push_of_some _ e)
  cases b with
  | false =>
    simp only [Bool.false_eq_true, if_false]
    exact wpAny_pure (h h2 st2 new2 kp2)
  | true =>
    simp only [if_true]
    obtain ⟨x0, x1, ok, ov, e2, hx⟩ := st2
    refine wpAny_bind (wpAny_field e2 rfl (x := ok) rfl ?_)
    refine wpAny_bind (wpAny_field e2 rfl (x := ov) rfl ?_)
    refine wpAny_bind (wpAny_setField_rec e2 (by simp) fun h3 e3 s3 => ?_)
    refine wpAny_bind (wpAny_setField_rec e3 (by simp) fun h4 e4 s4 => ?_)
    refine wpAny_bind (wpAny_setField_rec e4 (by simp) fun h5 e5 s5 => ?_)
    refine wpAny_bind (wpAny_setField_rec e5 (by simp) fun h6 e6 s6 => ?_)
    have chain : ∀ b, b ≠ it → h6.get? b = h2.get? b := fun b hb => (s6.2 b hb).trans ((s5.2 b hb).trans ((s4.2 b hb).trans (s3.2 b hb)))
    refine wpAny_bind (wpAny_letGo (wpAny_pure ?_))
    exact h h6 ⟨_, _, _, _, e6, .inr ⟨s.heap.objs.size, rfl⟩⟩ ((chain _ (Nat.ne_of_gt hil)).trans new2) fun b o hb e => (chain b hb).trans (kp2 b o hb e)

theorem next_any {it d : Addr} {i ep : Nat} {es : Array DictEntry} {Q : Option Value → Shared → Prop} (st : ItSt s.heap it d i es.size ep) (hm : DT.Raw s.heap d es ep) (hi : i < es.size)
    (hQ : ∀ h', ItSt h' it d (i + 1) es.size ep → h'.get? s.heap.objs.size = some { cls := .type "tuple", data := .seq #[es[i].key, es[i].val] } →
      (∀ b o, b ≠ it → s.heap.get? b = some o → h'.get? b = some o) → Q (some (.ref s.heap.objs.size)) { s with heap := h' }) :
    wpAny (model prog w) A (pyNext (.ref it)) Q E s := by
  obtain ⟨od, hod, hcd, hdd⟩ := id hm
  obtain ⟨x0, x1, ok, ov, e, hx⟩ := id st
  have hT : s.TypeIs (.ref it) "dict_itemiterator" := ⟨_, e, rfl⟩
  unfold pyNext
  refine wpAny_bind (wpAny_attempt (wpAny_callSpecial?_slot (name := Str.ofString "__next__") hT PySem.F.slot_dict_itemiterator_next
    (wpAny_call_entry PySem.F.slot_dict_itemiterator_next hT PySem.F.entry_dict_itemiterator_next ?_ (PySem.F.args_dict_itemiterator_next_1 _))))
  refine wpAny_bind (wpAny_pure (wpAny_bind (wpAny_bind ?_)))
  refine wpAny_bind (wpAny_typeNameOfWhole_itemiter hT (wpAny_pure ?_))
  refine wpAny_bind (wpAny_fieldsOf e rfl ?_)
  have own : Builtin.Dict_items.ownsTuple "dict_itemiterator" = true := by decide
  simp only [own, if_true]
  show wpAny _ _ (if (Value.ref d == Value.none) = true then _ else _) _ _ _
  rw [if_neg (show ¬ ((Value.ref d == Value.none) = true) from Bool.false_ne_true)]
  refine wpAny_bind (wpAny_pure (wpAny_bind (wpAny_dictEntries hod hdd ?_)))
  rw [if_neg (by simp)]
  refine wpAny_bind (wpAny_pure (wpAny_bind (wpAny_dictEpoch hod hdd ?_)))
  rw [if_neg (by simp)]
  refine wpAny_pure ?_
  simp only [show ¬ ((i : Int) < 0) from by omega, if_false, Int.toNat_natCast, Array.getElem?_eq_getElem hi]
  refine wpAny_bind (wpAny_bind (wpAny_typeNameOfWhole_itemiter hT (wpAny_pure (wpAny_bind (wpAny_isOneOf_itemiter hT ?_)))))
  show wpAny _ _ (setField (.ref it) 3 (rawInt ((i : Int) + 1)) >>= _) _ _ s
  refine wpAny_bind (wpAny_setField_rec e (by simp) fun h1 e1 s1 => ?_)
  have st1 : ItSt h1 it d (i + 1) es.size ep := by
    refine ⟨x0, x1, ok, ov, ?_, hx⟩
    have en : ((i + 1 : Nat) : Int) = (i : Int) + 1 := by omega
    rw [en]
    exact e1
  have hT1 : Shared.TypeIs { s with heap := h1 } (.ref it) "dict_itemiterator" := ⟨_, e1, rfl⟩
  refine wpAny_bind (wpAny_holding ?_)
  refine wpAny_bind (wpAny_isOneOf_itemiter hT1 (wpAny_bind (wpAny_isOneOf_itemiter hT1 ?_)))
  show wpAny _ _ (Builtin.Dict_items.pairFromOwner (.ref it) 6 es[i].key es[i].val) _ _ _
  refine pair_any (s := { s with heap := h1 }) st1 fun h2 st2 new2 kp2 => ?_
  have hsz : h1.objs.size = s.heap.objs.size := s1.1
  dsimp only at new2 kp2 ⊢
  rw [hsz] at new2 ⊢
  exact wpAny_pure ⟨_, rfl, wpAny_pure (hQ h2 st2 new2 fun b o hb eb => kp2 b o hb ((s1.2 b hb).trans eb))⟩

theorem stop_any {it d : Addr} {i ep : Nat} {es : Array DictEntry} {Q : Option Value → Shared → Prop} (hh : A.handled = none) (st : ItSt s.heap it d i es.size ep) (hm : DT.Raw s.heap d es ep) (hge : es.size ≤ i)
    (hQ : ∀ h', Heap.ExtBut it s.heap h' → Q none { s with heap := h' }) : wpAny (model prog w) A (pyNext (.ref it)) Q E s := by
  obtain ⟨od, hod, hcd, hdd⟩ := id hm
  obtain ⟨x0, x1, ok, ov, e, hx⟩ := id st
  have hT : s.TypeIs (.ref it) "dict_itemiterator" := ⟨_, e, rfl⟩
  unfold pyNext
  refine wpAny_bind (wpAny_attempt (wpAny_callSpecial?_slot (name := Str.ofString "__next__") hT PySem.F.slot_dict_itemiterator_next
    (wpAny_call_entry PySem.F.slot_dict_itemiterator_next hT PySem.F.entry_dict_itemiterator_next ?_ (PySem.F.args_dict_itemiterator_next_1 _))))
  refine wpAny_bind (wpAny_pure (wpAny_bind (wpAny_bind ?_)))
  refine wpAny_bind (wpAny_typeNameOfWhole_itemiter hT (wpAny_pure ?_))
  refine wpAny_bind (wpAny_fieldsOf e rfl ?_)
  have own : Builtin.Dict_items.ownsTuple "dict_itemiterator" = true := by decide
  simp only [own, if_true]
  show wpAny _ _ (if (Value.ref d == Value.none) = true then _ else _) _ _ _
  rw [if_neg (show ¬ ((Value.ref d == Value.none) = true) from Bool.false_ne_true)]
  refine wpAny_bind (wpAny_pure (wpAny_bind (wpAny_dictEntries hod hdd ?_)))
  rw [if_neg (by simp)]
  refine wpAny_bind (wpAny_pure (wpAny_bind (wpAny_dictEpoch hod hdd ?_)))
  rw [if_neg (by simp)]
  refine wpAny_pure ?_
  simp only [show ¬ ((i : Int) < 0) from by omega, if_false, Int.toNat_natCast, Array.getElem?_eq_none hge]
  refine wpAny_bind (wpAny_bind (wpAny_typeNameOfWhole_itemiter hT (wpAny_pure ?_)))
  show wpAny _ _ (setField (.ref it) 2 .none >>= _) _ _ s
  refine wpAny_bind (wpAny_setField e rfl (by simp) ?_)
  show wpAny _ _ (newExc (.type "StopIteration") [] >>= _) _ _ _
  refine wpAny_bind ?_
  simp only [newExc, newTuple]
  refine wpAny_bind (wpAny_newObj_type ?_ (by size_fits))
  refine wpAny_bind (m := firstArgMember _ _) (wpAny_of_eq (a := Value.none) (by first | rfl | (simp only [firstArgMember]; rfl)) ?_)
  refine wpAny_newObj_type ?_ (by size_fits)
  simp only [raiseNew]
  refine wpAny_bind (wpAny_handled ?_)
  rw [show A.in1.handled = none from hh]
  refine wpAny_bind (wpAny_pure (wpAny_throw ?_))
  refine wpAny_bind (wpAny_isInstance (T := "StopIteration") (b := true) ⟨_, Heap.get?_push_size _ rfl, rfl⟩ isSubtype_stop ?_)
  exact wpAny_pure (hQ _ (((Heap.SameBut.update ..).extBut.push _).push _))
end
end Dw
/-! The same as a walk of the layer. -/
namespace Dw
open PySem PySem.Spec PyProof.Rows L2

/-- the pairs of the locked dict at d, each a new tuple of the key's own tuple and the value -/
def ItP (d : Addr) (o : Obj) (kvs : List (List Key × V)) : It :=
  ⟨fun i H => H d = some (.frz o (.dT kvs)) ∧ i < kvs.length,
   fun i H x H' => ∃ (T q : Addr) (k : List Key) (v : V), kvs[i]? = some (k, v) ∧ x = .ref T ∧ H T = none ∧ H q = some (.tup (k.map kV)) ∧ H' = upd H T (.tup [.ref q, v]),
   fun i H => H d = some (.frz o (.dT kvs)) ∧ kvs.length ≤ i⟩

section
variable {X : Cx} {pins : List (Addr × Obj)} {σ : L2.St} {H : Hp} {s : Shared} {d : Addr} {o : Obj}
theorem entries {kvs : List (List Key × V)} (I : Inv X pins σ H s) (h : Rd H d (.dT kvs)) :
    (d == sysModules) = false ∧ ∃ (o : Obj) (es : Array DictEntry) (ep : Nat), s.heap.get? d = some o ∧ o.ExactDict ∧ o.data = .dict es ep ∧ es.size = kvs.length ∧ kvs.length ≤ sizeLine ∧
      ∀ (i : Nat) (k : List Key) (v : V), kvs[i]? = some (k, v) → ∃ (en : DictEntry) (q : Addr), es[i]? = some en ∧ en.key = .ref q ∧ H q = some (.tup (k.map kV)) ∧ RelV v en.val := by
  obtain ⟨z, hs, xs, pr, o, es, ep, ho, hx, hdt, he, _⟩ := h.ok I.hok
  refine ⟨hs, o, es, ep, ho, hx, hdt, ?_, z, fun i k v e => ?_⟩
  · have l1 : es.size = xs.length := size_of_entries he
    have l2 : kvs.length = xs.length := Paired.length pr
    omega
  · obtain ⟨b, hb, e1, e2, e3⟩ := paired_get pr e
    have q := entry_at he i
    rw [hb] at q
    exact ⟨_, b.2.1, q, rfl, e2, e3⟩
theorem raw_frz {kvs : List (List Key × V)} {es : Array DictEntry} {ep : Nat} (I : Inv X pins σ H s) (h : H d = some (.frz o (.dT kvs))) (hod : o.data = .dict es ep) :
    (d == sysModules) = false ∧ DT.Raw s.heap d es ep ∧ es.size = kvs.length ∧
      ∀ (i : Nat) (k : List Key) (v : V), kvs[i]? = some (k, v) → ∃ (en : DictEntry) (q : Addr), es[i]? = some en ∧ en.key = .ref q ∧ H q = some (.tup (k.map kV)) ∧ RelV v en.val := by
  obtain ⟨hs, o', es', ep', ho, hx, hdt, hsz, _, q⟩ := entries I (.inr ⟨o, h⟩)
  have e : s.heap.get? d = some o := (I.hok d _ h).1
  rw [e] at ho
  cases ho
  obtain ⟨rfl, rfl⟩ := dict_ep hod hdt
  exact ⟨hs, ⟨o, e, hx, hdt⟩, hsz, q⟩
end

theorem turn_pairs {P : Program} {w : World} {K : PySem.W.Frag} {d : Addr} {o : Obj} {es : Array DictEntry} {ep : Nat} {x : Str} {xp : Pos} {kvs : List (List Key × V)} (it : Addr) (hod : o.data = .dict es ep) :
    Turn P w K (.Name x xp) (ItP d o kvs) [it] it (fun i h => ItSt h it d i kvs.length ep) where
  mem := by simp
  obj := fun i h st b hb => by
    have e : b = it := by simpa using hb
    subst e
    obtain ⟨x0, x1, ok, ov, e, _⟩ := st
    exact ⟨_, e, fun v z => nomatch z⟩
  keep := fun i h h' st k => let ⟨x0, x1, ok, ov, e, hx⟩ := st; ⟨x0, x1, ok, ov, k it (by simp) _ e, hx⟩
  item := by
    intro X hP hw hK hc i pins s σ H E I hf st hg
    subst hP hw hK
    obtain ⟨hd, hi⟩ := hg
    obtain ⟨hs, raw, hsz, ent⟩ := raw_frz I hd hod
    obtain ⟨⟨k, v⟩, hkv⟩ : ∃ p, kvs[i]? = some p := ⟨kvs[i], List.getElem?_eq_getElem hi⟩
    obtain ⟨en, q, hen, hkey, hq, hv⟩ := ent i k v hkv
    have hlt : it < s.heap.objs.size := let ⟨_, _, _, _, e, _⟩ := st; Heap.lt_size e
    have hi' : i < es.size := by omega
    have een : es[i] = en := by
      rw [Array.getElem?_eq_getElem hi'] at hen
      exact Option.some.inj hen
    rw [← hsz] at st
    refine next_any st raw hi' fun h' st' new kp => ?_
    rw [een] at new
    have nw : ObjOk X.prog X.w (upd H s.heap.objs.size (.tup [.ref q, v])) h' s.heap.objs.size (.tup [.ref q, v]) :=
      ⟨by show 2 ≤ sizeLine; decide, [en.key, en.val], .cons hkey (.cons hv .nil), ⟨_, new, rfl, _, rfl⟩⟩
    have I1 : Inv X pins σ (upd H s.heap.objs.size (.tup [.ref q, v])) { s with heap := h' } :=
      I.turnedNew (t' := s.toks) (ch := [it]) (fun b ob hb e => kp b ob (by simpa using hb) e) hf (Nat.le_refl _) nw
    have hn := I.hok.fresh (Nat.le_refl s.heap.objs.size)
    refine ⟨_, rfl, wpAny_pure ⟨.ref s.heap.objs.size, _, I1, rfl, ⟨_, q, k, v, hkv, rfl, hn, hq, rfl⟩, ?_, fun b hb => ?_⟩⟩
    · rw [← hsz]; exact st'
    · have e : b = it := by simpa using hb
      rw [e, upd_ne (Nat.ne_of_lt hlt)]
      exact (hf it (by simp)).1
  done := by
    intro X hP hw hK hc i pins s σ H E I hf st hg
    subst hP hw hK
    obtain ⟨hd, hi⟩ := hg
    obtain ⟨f0, f1, f2, f3, f4, f5⟩ := hf it (by simp)
    obtain ⟨hs, raw, hsz, ent⟩ := raw_frz I hd hod
    rw [← hsz] at st
    exact stop_any (I.ok.hd hc) st raw (by omega) fun h' eb => ⟨rfl, I.turned (t' := s.toks) (fun b ob hb e => eb b ob hb e) f0 f1 f3 f4 f5⟩
  self := fun A i s Q E st h => by
    obtain ⟨x0, x1, ok, ov, e, hx⟩ := st
    have ty : s.TypeIs (.ref it) "dict_itemiterator" := ⟨_, e, rfl⟩
    refine wpAny_pyIter_slot ty F.slot_dict_itemiterator_iter (wpAny_call_entry F.slot_dict_itemiterator_iter ty PySem.W.kcp_entry ?_ (F.args_dict_itemiterator_iter_1 _))
    show wpAny _ _ (ret (.ref it)) _ _ s
    exact wpAny_pure ⟨_, rfl, "dict_itemiterator", _, ty, F.slot_dict_itemiterator_next.lookup, h⟩

/-- d.items(), d locked, keys tuples -/
def iPairs (td : TE) : TI := fun σ H R => td σ H fun x H1 => ∃ d o kvs, x = .ref d ∧ H1 d = some (.frz o (.dT kvs)) ∧ R (ItP d o kvs) H1
theorem pi_pairs {X : Cx} {e : Expr} {td : TE} {apos cpos : Pos} {x : Str} {xp : Pos} (he : PE X e td) (hbase : attributeBase e "items" X.env (eval e X.env) = eval e X.env := by rfl) (hline : (apos.endLine == cpos.line) = true := by rfl) :
    PI X (.Name x xp) (.Call (.Attribute e "items" apos) [] [] cpos) (iPairs td) := by
  refine ⟨fun pins s σ H R I h => ?_⟩
  refine wpAny_Call_method (T := "dict") (id := "dict.items") hbase rfl hline F.plainAttrs_dict F.slot_dict_items F.type_dict_items (thn (he.run pins s σ H _ I h) fun u s1 ⟨x, H1, I1, rx, d, o, kvs, ex, hd, q⟩ => ?_)
  subst ex
  obtain rfl : u = Value.ref d := rx
  obtain ⟨hs, o', es, ep, ho, hx, hdt, hsz, hz, ent⟩ := entries I1 (.inr ⟨o, hd⟩)
  have e : s1.heap.get? d = some o := (I1.hok d _ hd).1
  rw [e] at ho
  cases ho
  have raw : DT.Raw s1.heap d es ep := ⟨o, e, hx, hdt⟩
  refine ⟨raw.typeIs, fun b eb => ⟨o, by cases eb; exact e, hx.2.1⟩, ?_⟩
  have I2 : Inv X pins σ H1 { s1 with heap := s1.heap.push { cls := .type "dict_items", data := .fields #[.ref d] } } := I1.kept (t' := s1.toks) fun b ob q => Heap.get?_push_of_some _ q
  have fin : wpAny (model X.prog X.w) X.A (pyIter (.ref s1.heap.objs.size)) (PIE X pins σ (.Name x xp) R) X.xe { s1 with heap := s1.heap.push { cls := .type "dict_items", data := .fields #[.ref d] } } := by
    refine DT.iterI (d := d) ⟨_, Heap.get?_push_size _ rfl, rfl, rfl⟩ (raw.push _) (pi_one (tk := s1.toks) I2 _ (turn_pairs _ hdt) ⟨.none, .bool false, .none, .none, ?_, .inl rfl⟩ q)
    rw [← hsz]
    exact Heap.get?_push_size _ rfl
  show wpAny _ _ (callWith cpos (.builtin "dict.items") [.ref d] [] []) _ X.xe s1
  exact method_meetsIn F.slot_dict_items F.entry_dict_items rfl (PySem.evalArgs_none ⟨rfl, raw.typeIs, F.args_dict_items_1 _, _, DT.meetsItems (es := es) (ep := ep) hs, ⟨raw, fin⟩⟩)
/-- for_it, lc_it's fact -/
theorem walk_pairs {d : Addr} {o : Obj} {kvs : List (List Key × V)} : Walk (ItP d o kvs) kvs.length (fun H => H d = some (.frz o (.dT kvs)))
    (fun i H x H' => ∃ (T q : Addr) (k : List Key) (v : V), kvs[i]? = some (k, v) ∧ x = .ref T ∧ H T = none ∧ H q = some (.tup (k.map kV)) ∧ H' = upd H T (.tup [.ref q, v])) where
  goes := fun i H hi g => ⟨g, hi⟩
  stops := fun H g => ⟨g, Nat.le_refl _⟩
  yields := fun i H x H' _ _ h => h
end Dw
/-! {k: v for target in iter} whose keys are tuples of ints and texts. -/
namespace Dw
open PySem PySem.Spec PyProof.Rows L2

/-- an empty dict, as one with tuple keys -/
theorem dt_empty {P : Program} {w : World} {H : Hp} (h : Heap) (hb : sysModules < h.objs.size) :
    ObjOk P w H (h.push { cls := .type "dict", data := .dict #[] }) h.objs.size (.dT []) :=
  ⟨Nat.zero_le _, beq_eq_false_iff_ne.mpr (Nat.ne_of_gt hb), [], .nil, _, #[], 0, Heap.get?_push_size _ rfl, ⟨rfl, rfl, rfl⟩, rfl, rfl, List.nodup_nil⟩

section
variable {X : Cx} {pins : List (Addr × Obj)} {σ : L2.St} {H : Hp} {s : Shared} {E : Value → Shared → Prop}
/-- d[k] = v by the comprehension's own store -/
theorem put_tuple {D b : Addr} {kvs : List (List Key × V)} {k : List Key} {v : V} {r : Value} {Q : Unit → Shared → Prop} (hu : X.A.units < cLine) (I : Inv X pins σ H s) (hD : H D = some (.dT kvs)) (hb : H b = some (.tup (k.map kV)))
    (hz : kvs.length < sizeLine) (rv : RelV v r) (h : ∀ s', Inv X pins σ (upd H D (.dT (putK kvs k v))) s' → Q () s') : wpAny (model X.prog X.w) X.A (dictSet D (.ref b) r) Q E s := by
  obtain ⟨z, hs, xs, rel, dd⟩ := dt_of I.hok hD
  have hl : xs.length ≤ sizeLine := by rw [← Paired.length rel]; exact z
  have hl2 : (putK kvs k v).length ≤ sizeLine := by have := length_putK kvs k v; omega
  refine wpAny_dictSet_heap (knd := tupleKind (mixKind X.prog X.w)) (show X.A.units < cLine from hu) (key_of I.hok hb) dd (hsz := hl) fun h' dd' hs' => h _ ?_
  obtain ⟨o, es, ep, hq, h2, h3, h4, _, h5⟩ := dd'
  exact d_write I (by rw [hD]; exact True.intro) hs' ⟨o, hq⟩
    ⟨hl2, hs, _, (rel.put k hb rv).keeps fun c ys ec => (by rw [upd_ne (ne_of ec hD (fun z => nomatch z))]; exact ec), o, es, ep, hq, h2, h3, h4, h5⟩
end

section
variable {X : Cx}
/-- {k: v for target in iter if ..}, keys tuples: D the new dict, W the invariant by the turn, Nx what a turn reaches -/
def tDct (wi : TI) (g : TG) (tt : TT) (tk tv : TE) (vs : List Nat) : TE := fun σ H Q => wi σ H fun J H1 => ∀ D, H1 D = none → ∃ W : Nat → Nat → Hp → Prop, (∃ m, W 0 m (upd H1 D (.dT []))) ∧ ∀ i m H, W i m H →
  (J.stop i H ∧ Q (.ref D) H) ∨ (J.go i H ∧ ∃ Nx : Hp → Prop, (∀ H', Nx H' → ∃ m', m' < m ∧ W (i + 1) m' H') ∧ ∀ x H', J.yld i H x H' → g x (wipe σ vs) H' fun σ2 H2 => wipe σ2 vs = wipe σ vs ∧ tt σ2 H2 fun b H3 =>
    if b = true then tk σ2 H3 fun y H4 => tv σ2 H4 fun z H5 => ∃ kvs k q, y = .ref q ∧ H5 q = some (.tup (k.map kV)) ∧ H5 D = some (.dT kvs) ∧ kvs.length < sizeLine ∧ Nx (upd H5 D (.dT (putK kvs k z))) else Nx H3)

/-- one block of a comprehension: its context, what its iterator's cells are, the heap at its start -/
structure Blok (X B : Cx) (σ0 : L2.St) (fp : List Addr) (tn : Nat → Heap → Prop) (W : Nat → Nat → Hp → Prop) (n : Nat) (s : Shared) : Prop where
  inn : ∃ i H', Inv B [] σ0 H' s ∧ tn i s.heap ∧ (∀ b ∈ fp, H' b = none) ∧ W i n H'

/-- at a turn's end the slots of the block's own names are forgotten, the iterator's cells are as they were behind its step -/
theorem Blok.next {B : Cx} {tg : Expr} {J : It} {fp : List Addr} {it : Addr} {tn : Nat → Heap → Prop} {vs : List Nat} {σ σ8 : L2.St} {W : Nat → Nat → Hp → Prop} {i n : Nat} {Nx : Hp → Prop} {h7 : Heap} {s' : Shared} {H' : Hp}
    (T : Turn X.prog X.w X.K tg J fp it tn) (st7 : tn (i + 1) h7) (hw8 : wipe σ8 vs = wipe σ vs) (hNx : ∀ H', Nx H' → ∃ m', m' < n ∧ W (i + 1) m' H')
    (I' : Inv B ([] ++ pinsAt fp h7) σ8 H' s') (nx : Nx H') : ∃ m, m < n ∧ Blok X B (wipe σ vs) fp tn W m s' := by
  obtain ⟨m', hm, w'⟩ := hNx H' nx
  have pin' : ∀ b ∈ fp, ∀ o, h7.get? b = some o → s'.heap.get? b = some o ∧ H' b = none := fun b hb o e =>
    let z := I'.pin (b, o) (List.mem_append_right _ (List.mem_append_right _ (mem_pinsAt hb e)))
    ⟨z.1, z.2.1⟩
  refine ⟨m', hm, ⟨i + 1, H', (I'.unpinned (pins := [])).weak (by rw [← hw8, wipe_length]) (fun j v e => ?_), T.keep _ _ _ st7 fun b hb o e => (pin' b hb o e).1, fun b hb => ?_, w'⟩⟩
  · rw [← hw8] at e
    exact (wipe_some e).1
  · obtain ⟨o, e, _⟩ := T.obj _ _ st7 b hb
    exact (pin' b hb o e).2

theorem dct_core {pins : List (Addr × Obj)} {s : Shared} {σ : L2.St} {H : Hp} {Q : VK} {kx vx tg iter : Expr} {ifs : List Expr} {scope : Scope} {own : List (Str × Nat)} {pos pos' : Pos} {wi : TI} {g : TG} {tt : TT} {tk tv : TE} {use : Option (Value → Sem Unit)} {Qf : Value → Shared → Prop}
    (hc : X.calm = true) (hu : X.A.units < cLine) (hN : X.N.Nodup) (I : Inv X pins σ H s) (hi : PI X tg iter wi) (ok : BlkOk X.N X.env.scope scope own)
    (hg : ∀ s H C cl fp, PG (X.blk s H scope (compEnvC scope cl C X.env) fp) tg g) (ht : ∀ s H C cl fp, PTs (X.blk s H scope (compEnvC scope cl C X.env) fp) ifs tt)
    (hk : ∀ s H C cl fp, PE (X.blk s H scope (compEnvC scope cl C X.env) fp) kx tk) (he : ∀ s H C cl fp, PE (X.blk s H scope (compEnvC scope cl C X.env) fp) vx tv) (hs : ∀ x, foldedSetIterable iter X.env x = pure x)
    (h : tDct wi g tt tk tv (own.map (·.2)) σ H Q)
    (out : ∀ D C s' m H', Inv X pins σ H' s' → Q (.ref D) H' → s'.heap.Ns C m → FpOk X pins H' C → compPost (model X.prog X.w) X.A X.xe use Qf (.ref D) C (.ok .next) s') :
    wpAny (model X.prog X.w) X.A (comprehension (.DictComp kx vx [⟨tg, iter, ifs, 0⟩] scope pos) scope X.env pos' newDict false (eval iter X.env) use) Qf X.xe s := by
  have cells : ∀ y ∈ scope.names, y.2 = .free → ∃ c, X.env.cells.lookup y.1 = some c := fun y hy e => (ok.free y hy e).elim (fun k => I.ok.has _ (.inl k)) fun k => I.ok.has _ (.inr k)
  refine wpAny_comprehension_free (use := use) rfl hs (closure_ok cells) ok.kind (fun y hy e => by rw [ok.uniq y hy, e])
    (thn (hi.run pins s σ H _ I h) fun xv s1 hx => thn hx fun itv s2 ⟨it, fp, tn, J, H2, e, I2, T, st2, f2, q⟩ => ?_)
  subst e
  refine wpAny_newObj_type (newEnv_comp ?_)
  obtain ⟨W, ⟨m0, w0⟩, turn⟩ := q s2.heap.objs.size (I2.hok.fresh (Nat.le_refl _))
  -- the new dict stands
  have I3 : Inv X pins σ (upd H2 s2.heap.objs.size (.dT [])) { s2 with heap := s2.heap.push { cls := .type "dict", data := .dict #[] } } :=
    I2.laid (t' := s2.toks) (fun b o e => Heap.get?_push_of_some _ e) (Nat.le_refl _) (dt_empty s2.heap I2.big)
  have low : ∀ b ∈ fp, b < s2.heap.objs.size := fun b hb => let ⟨o, e, _⟩ := T.obj _ _ st2 b hb; Heap.lt_size e
  have f3 : ∀ b ∈ fp, FpOk X pins (upd H2 s2.heap.objs.size (.dT [])) b ∧ b < (s2.heap.push { cls := .type "dict", data := .dict #[] }).objs.size := fun b hb =>
    ⟨⟨by rw [upd_ne (Nat.ne_of_lt (low b hb))]; exact (f2 b hb).1, (f2 b hb).2⟩, by rw [Heap.size_push]; exact Nat.lt_succ_of_lt (low b hb)⟩
  have st3 : tn 0 (s2.heap.push { cls := .type "dict", data := .dict #[] }) := T.keep _ _ _ st2 fun b _ o e => Heap.get?_push_of_some _ e
  generalize hD : s2.heap.objs.size = D at I3 f3 w0 turn ⊢
  generalize hH3 : upd H2 D (.dT []) = H3 at I3 f3 w0
  generalize hs3 : ({ s2 with heap := s2.heap.push { cls := .type "dict", data := .dict #[] } } : Shared) = s3 at I3 ⊢
  have e3 : s3.heap = s2.heap.push { cls := .type "dict", data := .dict #[] } := by rw [← hs3]
  rw [← e3] at f3 st3
  have I4 := block_start I3 ok hN f3
  generalize hcl : cellsFrom (s3.heap.objs.size + 1) scope.names (cloFrom X.env.cells scope.names []) = cl at I4
  have pg := hg s3 H3 s3.heap.objs.size cl fp
  have pt := ht s3 H3 s3.heap.objs.size cl fp
  have pk := hk s3 H3 s3.heap.objs.size cl fp
  have pe := he s3 H3 s3.heap.objs.size cl fp
  have home : codeAny (model X.prog X.w) X.A (.compStart (.DictComp kx vx [⟨tg, iter, ifs, 0⟩] scope pos) 0 (.ref it) (.ref D) (compEnvC scope cl s3.heap.objs.size X.env)) (compPost (model X.prog X.w) X.A X.xe use Qf (.ref D) s3.heap.objs.size)
      { s3 with heap := pushCells (s3.heap.push { cls := .type "dict", data := .dict #[] }) scope.names } := by
    have cL : (compEnvC scope cl s3.heap.objs.size X.env).locals = s3.heap.objs.size := rfl
    generalize compEnvC scope cl s3.heap.objs.size X.env = ce at I4 pg pt pk pe cL ⊢
    generalize hs4 : ({ s3 with heap := pushCells (s3.heap.push { cls := .type "dict", data := .dict #[] }) scope.names } : Shared) = s4 at I4 ⊢
    have st4 : tn 0 s4.heap := T.keep _ _ _ st3 fun b _ o e => by rw [← hs4]; exact pushCells_keeps _ _ _ _ (Heap.get?_push_of_some _ e)
    have stat : ∀ {σ' : L2.St} {H' : Hp} {s' : Shared}, Inv (X.blk s3 H3 scope ce fp) [] σ' H' s' → (∀ b ∈ fp, H' b = none) → ∀ b ∈ fp, FpOk (X.blk s3 H3 scope ce fp) [] H' b := fun {σ' H' s'} I' hn b hb =>
      ⟨hn b hb, (I'.ok.exf b hb).1, I'.ok.exfs b hb, .inl hb, fun x c e => (I'.ok.exf b hb).2 x c e, fun p hp => absurd (show p ∈ ([] : List (Addr × Obj)) ++ [] from hp) (by simp)⟩
    have loop : codeAny (model X.prog X.w) X.A (.compLoop (.DictComp kx vx [⟨tg, iter, ifs, 0⟩] scope pos) 0 (.ref it) (.ref D) ce) (compPost (model X.prog X.w) X.A X.xe use Qf (.ref D) s3.heap.objs.size) s4 := by
      refine compLoop_anyD (Blok X (X.blk s3 H3 scope ce fp) (wipe σ (own.map (·.2))) fp tn W) ?_ m0 ⟨0, H3, I4, st4, fun b hb => (f3 b hb).1.1, w0⟩
      rintro n s5 ⟨i, H5, I5, st5, n5, w5⟩
      rcases turn i n H5 w5 with ⟨stop, qq⟩ | ⟨go, Nx, hNx, step⟩
      · refine thnF (T.done (X.blk s3 H3 scope ce fp) rfl rfl rfl hc i [] s5 _ H5 (fun _ _ => False) I5 (stat I5 n5) st5 stop) fun r s6 ⟨hr, I6⟩ => ?_
        subst hr
        obtain ⟨m, hn, _⟩ := id I6.loc
        have nC : H5 s3.heap.objs.size = none := (congrArg H5 cL).symm.trans I6.free
        refine out D s3.heap.objs.size s6 m H5 (I3.call' (ch := fp) I6.os I6.base I6.hok I6.bare fun b hb => ?_) qq ?_ (I3.fpOk (Nat.le_refl _) nC)
        · obtain ⟨⟨_, g1, _, g3, g4, g5⟩, _⟩ := f3 b hb
          exact ⟨g3, g1, g4, g5⟩
        · rw [← cL]; exact hn
      · refine thnF (T.item (X.blk s3 H3 scope ce fp) rfl rfl rfl hc i [] s5 _ H5 (fun _ _ => False) I5 (stat I5 n5) st5 go) fun r s6 ⟨u, hr, h6⟩ => ?_
        subst hr
        refine thnF h6 fun _ s7 ⟨x, H7, I7, r7, y7, st7, n7⟩ => ?_
        refine thnF (pg.run _ s7 _ H7 x u _ (I7.pinned (stat I7 n7) (T.obj _ _ st7)) r7 (step x H7 y7)) fun _ s8 ⟨σ8, H8, I8, hw8, q8⟩ => ?_
        refine thnF (pt.run _ s8 σ8 H8 _ I8 q8) fun b s9 ⟨H9, I9, q9⟩ => ?_
        cases b with
        | false => exact Blok.next T st7 hw8 hNx I9 q9
        | true =>
          refine thnF (pk.run _ s9 σ8 H9 _ I9 q9) fun z s10 ⟨yk, H10, I10, r10, q10⟩ => ?_
          refine thnF (pe.run _ s10 σ8 H10 _ I10 q10) fun z2 s11 ⟨yv, H11, I11, r11, kvs, k, b, ek, hb11, hD11, hz11, nx⟩ => ?_
          subst ek
          obtain rfl : z = Value.ref b := r10
          exact put_tuple (X := X.blk s3 H3 scope ce fp) hu I11 hD11 hb11 hz11 r11 fun s12 I12 => Blok.next T st7 hw8 hNx I12 nx
    exact codeAny_compStart_dict loop (T.self X.A 0 _ _ _ st4 loop)
  subst hcl
  exact home
/-- as a value -/
theorem pe_dct {kx vx tg iter : Expr} {ifs : List Expr} {scope : Scope} {own : List (Str × Nat)} {pos : Pos} {wi : TI} {g : TG} {tt : TT} {tk tv : TE} (hc : X.calm = true) (hu : X.A.units < cLine) (hN : X.N.Nodup) (hi : PI X tg iter wi) (ok : BlkOk X.N X.env.scope scope own)
    (hg : ∀ s H C cl fp, PG (X.blk s H scope (compEnvC scope cl C X.env) fp) tg g) (ht : ∀ s H C cl fp, PTs (X.blk s H scope (compEnvC scope cl C X.env) fp) ifs tt)
    (hk : ∀ s H C cl fp, PE (X.blk s H scope (compEnvC scope cl C X.env) fp) kx tk) (he : ∀ s H C cl fp, PE (X.blk s H scope (compEnvC scope cl C X.env) fp) vx tv)
    (hs : ∀ x, foldedSetIterable iter X.env x = pure x := by intro _; rfl) : PE X (.DictComp kx vx [⟨tg, iter, ifs, 0⟩] scope pos) (tDct wi g tt tk tv (own.map (·.2))) := by
  refine ⟨fun pins s σ H Q I h => ?_⟩
  rw [arm_eval_DictComp]
  refine dct_core hc hu hN I hi ok hg ht hk he hs h fun D C s' m H' I' q hn f => ⟨m, hn, fun h'' sb => ?_⟩
  obtain ⟨f0, f1, f2, f3, f4, f5⟩ := f
  exact ⟨.ref D, H', I'.turned (t' := s'.toks) (fun b o hb e => (sb.2 b hb).trans e) f0 f1 f3 f4 f5, rfl, q⟩
/-- over anything that is walked -/
theorem dct_it {J : It} {n : Nat} {G : Hp → Prop} {Y : Nat → Hp → V → Hp → Prop} (w : Walk J n G Y) {g : TG} {tt : TT} {tk tv : TE} {vs : List Nat} {σ : L2.St} {H1 : Hp} {D : Addr} {Qd : Hp → Prop} (Pv : Nat → Hp → Prop) (h0 : Pv 0 (upd H1 D (.dT []))) (hG : ∀ i H, i ≤ n → Pv i H → G H)
    (hs : ∀ i x H H', i < n → Pv i H → Y i H x H' → g x (wipe σ vs) H' fun σ2 H2 => wipe σ2 vs = wipe σ vs ∧ tt σ2 H2 fun b H3 =>
      if b = true then tk σ2 H3 fun y H4 => tv σ2 H4 fun z H5 => ∃ kvs k q, y = .ref q ∧ H5 q = some (.tup (k.map kV)) ∧ H5 D = some (.dT kvs) ∧ kvs.length < sizeLine ∧ Pv (i + 1) (upd H5 D (.dT (putK kvs k z))) else Pv (i + 1) H3)
    (hd : ∀ H, Pv n H → Qd H) :
    ∃ W : Nat → Nat → Hp → Prop, (∃ m, W 0 m (upd H1 D (.dT []))) ∧ ∀ i m H, W i m H →
      (J.stop i H ∧ Qd H) ∨ (J.go i H ∧ ∃ Nx : Hp → Prop, (∀ H', Nx H' → ∃ m', m' < m ∧ W (i + 1) m' H') ∧ ∀ x H', J.yld i H x H' → g x (wipe σ vs) H' fun σ2 H2 => wipe σ2 vs = wipe σ vs ∧ tt σ2 H2 fun b H3 =>
        if b = true then tk σ2 H3 fun y H4 => tv σ2 H4 fun z H5 => ∃ kvs k q, y = .ref q ∧ H5 q = some (.tup (k.map kV)) ∧ H5 D = some (.dT kvs) ∧ kvs.length < sizeLine ∧ Nx (upd H5 D (.dT (putK kvs k z))) else Nx H3) := by
  refine ⟨fun i m H => m + i = n ∧ Pv i H, ⟨n, rfl, h0⟩, fun i m H ⟨e, p⟩ => ?_⟩
  have G1 := hG i H (by omega) p
  cases m with
  | zero =>
    obtain rfl : i = n := by omega
    exact .inl ⟨w.stops H G1, hd H p⟩
  | succ m =>
    have hi : i < n := by omega
    exact .inr ⟨w.goes i H hi G1, Pv (i + 1), fun H' p' => ⟨m, Nat.lt_succ_self m, by omega, p'⟩, fun x H' y => hs i x H H' hi p (w.yields i H x H' hi G1 y)⟩
end
end Dw
/-! max of a dict whose keys are tuples of ints; min of a tuple of ints. -/
namespace Dw
open PySem PySem.Spec PyProof.Rows L2

/-- a table of exponents and coefficients as the dict's pairs -/
abbrev ik (k : List Int) : List Key := k.map Sum.inl
def enc (L : List (List Int × Int)) : List (List Key × V) := L.map fun p => (ik p.1, .int p.2)
theorem ik_V (k : List Int) : (ik k).map kV = k.map V.int := by
  rw [List.map_map]
  exact List.map_congr_left fun _ _ => rfl
theorem ik_inj {a b : List Int} (h : ik a = ik b) : a = b := by
  have e := congrArg (List.map (fun z : Key => match z with | .inl i => i | .inr _ => (0 : Int))) h
  rw [List.map_map, List.map_map] at e
  have f : ∀ l : List Int, List.map ((fun z : Key => match z with | .inl i => i | .inr _ => (0 : Int)) ∘ Sum.inl) l = l := fun l => by
    induction l with
    | nil => rfl
    | cons x r ih => rw [List.map_cons, ih]; rfl
  rw [f, f] at e
  exact e

theorem lex_irr : ∀ k : List Int, HT.lexLt k k = false
  | [] => HT.lexLt_nil_nil
  | x :: r => by rw [HT.lexLt_cons, if_pos rfl]; exact lex_irr r
/-! ### t > u -/
theorem lexAt_gt (ns ms : List Int) : ∀ (k i : Nat), i + k = min ns.length ms.length →
    Ob.lexAt (fun j => decide (ns.getD j 0 = ms.getD j 0)) (fun j => decide (ms.getD j 0 < ns.getD j 0)) (decide (ns.length > ms.length)) i k = HT.lexLt (ms.drop i) (ns.drop i)
  | 0, i, h => by
    rw [Ob.lexAt_zero]
    by_cases c : ms.length < ns.length
    · have e1 : ms.drop i = [] := List.drop_of_length_le (by omega)
      obtain ⟨y, r, e2⟩ : ∃ y r, ns.drop i = y :: r := ⟨_, _, List.drop_eq_getElem_cons (by omega)⟩
      rw [e1, e2, HT.lexLt_nil_cons, decide_eq_true c]
    · have e2 : ns.drop i = [] := List.drop_of_length_le (by omega)
      rw [e2, decide_eq_false c]
      cases ms.drop i with
      | nil => rw [HT.lexLt_nil_nil]
      | cons a r => rw [HT.lexLt_cons_nil]
  | k + 1, i, h => by
    have h1 : i < ns.length := by omega
    have h2 : i < ms.length := by omega
    rw [Ob.lexAt_succ, List.drop_eq_getElem_cons h1, List.drop_eq_getElem_cons h2, HT.lexLt_cons]
    have g1 : ns.getD i 0 = ns[i] := by rw [List.getD_eq_getElem?_getD, List.getElem?_eq_getElem h1]; rfl
    have g2 : ms.getD i 0 = ms[i] := by rw [List.getD_eq_getElem?_getD, List.getElem?_eq_getElem h2]; rfl
    rw [g1, g2]
    by_cases c : ns[i] = ms[i]
    · rw [if_pos (decide_eq_true c), if_pos c.symm]
      exact lexAt_gt ns ms k (i + 1) (by omega)
    · rw [if_neg (by simp [c]), if_neg (fun z => c z.symm)]
section
variable {prog : Program} {w : World} {A : Around} {E : Value → Shared → Prop} {s : Shared}
theorem gt_tupInts {l b : Addr} {items items2 : Array Value} {ns ms : List Int} {Q : Value → Shared → Prop} (hl : IsTup s.heap l items) (hb : IsTup s.heap b items2) (hi : IntsAre items.toList ns) (hj : IntsAre items2.toList ms)
    (hu : A.units < cLine) (h : Q (.bool (HT.lexLt ms ns)) s) : wpAny (model prog w) A (richCompare .Gt (.ref l) (.ref b)) Q E s := by
  have l1 : items.size = ns.length := by rw [← Array.length_toList]; exact hi.length
  have l2 : items2.size = ms.length := by rw [← Array.length_toList]; exact hj.length
  have at_ : ∀ (vs : Array Value) (zs : List Int), IntsAre vs.toList zs → ∀ j (hj : j < vs.size), ∃ t, vs[j] = .int (zs.getD j 0) t := fun vs zs hz j hj =>
    hz.int_at j vs[j] (by rw [Array.getElem?_toList, Array.getElem?_eq_getElem hj])
  have e0 := lexAt_gt ns ms (min items.size items2.size) 0 (by rw [l1, l2]; omega)
  rw [List.drop_zero, List.drop_zero] at e0
  refine Ob.RcOp.tuples_gt (e := fun j => decide (ns.getD j 0 = ms.getD j 0)) (r := fun j => decide (ms.getD j 0 < ns.getD j 0)) (show s.heap.IsTuple l items from hl) (show s.heap.IsTuple b items2 from hb) hu
    (fun j h1 h2 => ?_) (fun j h1 h2 _ => ?_) prog w E Q ?_
  · obtain ⟨t, e1⟩ := at_ items ns hi j h1
    obtain ⟨u, e2⟩ := at_ items2 ms hj j h2
    rw [e1, e2]
    have z := SeqAt.EqAt.int_int (A := A.in1) (s := s) (ns.getD j 0) t (ms.getD j 0) u
    rw [Bool.beq_eq_decide_eq] at z
    exact z
  · obtain ⟨t, e1⟩ := at_ items ns hi j h1
    obtain ⟨u, e2⟩ := at_ items2 ms hj j h2
    rw [e1, e2]
    exact Ob.RcOp.gt_int _ _ t u
  · rw [l1, l2] at e0 ⊢
    rw [e0]
    exact h

/-! ### max(d), by hand over the heap -/
/-- the items' order -/
def btK (ks : Nat → List Int) (i j : Nat) : Bool := HT.lexLt (ks j) (ks i)
theorem best_max (ks : Nat → List Int) : ∀ k, argBest (btK ks) k ≤ k ∧ ∀ j, j ≤ k → HT.lexLt (ks (argBest (btK ks) k)) (ks j) = false
  | 0 => ⟨Nat.le_refl _, fun j hj => by
    obtain rfl : j = 0 := by omega
    exact lex_irr _⟩
  | k + 1 => by
    obtain ⟨h1, h2⟩ := best_max ks k
    have step : argBest (btK ks) (k + 1) = if btK ks (k + 1) (argBest (btK ks) k) then k + 1 else argBest (btK ks) k := rfl
    rw [step]
    cases c : btK ks (k + 1) (argBest (btK ks) k) with
    | true =>
      refine ⟨Nat.le_refl _, fun j hj => ?_⟩
      have c' : HT.lexLt (ks (argBest (btK ks) k)) (ks (k + 1)) = true := c
      have c2 := NtL.lex_asym _ _ c'
      simp only [if_true]
      rcases Nat.lt_or_ge j (k + 1) with hj' | hj'
      · exact NtL.lex_tr _ _ _ (h2 j (by omega)) c2
      · obtain rfl : j = k + 1 := by omega
        exact lex_irr _
    | false =>
      simp only [Bool.false_eq_true, if_false]
      refine ⟨by omega, fun j hj => ?_⟩
      rcases Nat.lt_or_ge j (k + 1) with hj' | hj'
      · exact h2 j (by omega)
      · obtain rfl : j = k + 1 := by omega
        exact c

/-- the dict's table at d, its keys tuples of the ints ks i -/
structure KeysAt (h0 : Heap) (d : Addr) (es : Array DictEntry) (ep n : Nat) (ks : Nat → List Int) : Prop where
  raw : DT.Raw h0 d es ep
  sz : es.size = n
  key : ∀ i, i < n → ∃ (en : DictEntry) (q : Addr) (its : Array Value), es[i]? = some en ∧ en.key = .ref q ∧ IsTup h0 q its ∧ IntsAre its.toList (ks i)
theorem max_step {h0 : Heap} {d : Addr} {es : Array DictEntry} {ep n : Nat} {ks : Nat → List Int} (D : KeysAt h0 d es ep n ks) (hu : A.units + 1 < cLine) {h : Heap} (keep : ∀ b o, h0.get? b = some o → h.get? b = some o) {i j : Nat} (hi : i < n) (hj : j < n)
    {ei ej : DictEntry} (e1 : es[i]? = some ei) (e2 : es[j]? = some ej) {Q : Value → Shared → Prop} (hQ : Q (.bool (btK ks i j)) { s with heap := h }) : wpAny (model prog w) A.in1 (richCompare .Gt ei.key ej.key) Q E { s with heap := h } := by
  obtain ⟨en, q, its, g1, g2, g3, g4⟩ := D.key i hi
  obtain ⟨en', q', its', g1', g2', g3', g4'⟩ := D.key j hj
  rw [e1] at g1
  cases g1
  rw [e2] at g1'
  cases g1'
  rw [g2, g2']
  have mv : ∀ {q : Addr} {its : Array Value}, IsTup h0 q its → IsTup h q its := fun ⟨o, ho, r⟩ => ⟨o, keep _ _ ho, r⟩
  exact gt_tupInts (s := { s with heap := h }) (mv g3) (mv g3') g4 g4' hu hQ

theorem name_loop : (toString "max" ++ toString ".loop" : String) = "max.loop" := by decide
/-- from the (j + 1)-th key on; the best so far stands in the list at S -/
theorem max_on {h0 : Heap} {d I S : Addr} {es : Array DictEntry} {ep n : Nat} {ks : Nat → List Int} {R : Result → Shared → Prop} (D : KeysAt h0 d es ep n ks) (hh : A.handled = none) (hu : A.units + 1 < cLine) (hIS : I ≠ S) (hI : h0.objs.size ≤ I) (hS : h0.objs.size ≤ S)
    (hR : ∀ (h' : Heap) (eb : DictEntry), (∀ b o, h0.get? b = some o → h'.get? b = some o) → es[argBest (btK ks) (n - 1)]? = some eb → R (.ok (.ret eb.key)) { s with heap := h' }) :
    ∀ (m j : Nat) (h : Heap) (c : Nat) (eb : DictEntry), n - (j + 1) = m → j + 1 ≤ n → (∀ b o, h0.get? b = some o → h.get? b = some o) → h.IsKeyIter I d (j + 1) n ep → es[argBest (btK ks) j]? = some eb →
      h.get? S = some { cls := .type "list", dict := none, data := .seq #[eb.key, eb.key] c, slots := #[] } → codeAny (model prog w) A (.builtin "max.loop" ⟨[.ref I, .none, .ref S], []⟩) R { s with heap := h } := by
  have old : ∀ {b : Addr} {o : Obj} {x : Addr}, h0.objs.size ≤ x → h0.get? b = some o → b ≠ x := fun hx e z => absurd (Nat.lt_of_lt_of_le (Heap.lt_size e) (by rw [z]; exact hx)) (Nat.lt_irrefl _)
  obtain ⟨od, hod, _, hdd⟩ := id D.raw
  intro m
  induction m with
  | zero =>
    intro j h c eb hm hj keep it hb hl
    refine codeAny_builtin F.entry_max_loop ?_
    rw [Around.under_plainId F.plain_max_loop _]
    show wpAny _ A.in1 (seqItems? (.ref S) >>= _) _ _ _
    refine wpAny_bind (wpAny_seqItems hl rfl ?_)
    show wpAny _ A.in1 (tryCatch (pyNext (.ref I)) _ >>= _) _ _ _
    refine wpAny_bind (wpAny_tryCatch (next_key_end (A := A.in1) hh it (keep _ _ hod) hdd D.sz (by omega) fun h' eb' => ?_))
    have hl' := eb' S _ (Ne.symm hIS) hl
    show wpAny _ A.in1 (updateSeq S (fun _ => #[]) >>= _) _ _ _
    refine wpAny_bind (wpAny_updateSeq hl' rfl (wpAny_bind (wpAny_letGo (wpAny_pure ?_))))
    have en : n - 1 = j := by omega
    exact hR _ eb (fun b o e => (Heap.get?_update_other _ _ (Ne.symm (old hS e))).trans (eb' b o (old hI e) (keep b o e))) (by rw [en]; exact hb)
  | succ m ih =>
    intro j h c eb hm hj keep it hb hl
    obtain ⟨en, q, its, g1, g2, g3, g4⟩ := D.key (j + 1) (by omega)
    refine codeAny_builtin F.entry_max_loop ?_
    rw [Around.under_plainId F.plain_max_loop _]
    show wpAny _ A.in1 (seqItems? (.ref S) >>= _) _ _ _
    refine wpAny_bind (wpAny_seqItems hl rfl ?_)
    show wpAny _ A.in1 (tryCatch (pyNext (.ref I)) _ >>= _) _ _ _
    refine wpAny_bind (wpAny_tryCatch (next_key_item (A := A.in1) it (keep _ _ hod) hdd D.sz g1 fun h' it' sb => ?_))
    have hl' := (sb.2 S (Ne.symm hIS)).trans hl
    have keep' : ∀ b o, h0.get? b = some o → h'.get? b = some o := fun b o e => (sb.2 b (old hI e)).trans (keep b o e)
    have lb := (best_max ks j).1
    show wpAny _ A.in1 (tryCatch (holding [en.key, en.key] (richCompare .Gt en.key eb.key >>= _)) _ >>= _) _ _ _
    refine wpAny_bind (wpAny_tryCatch (wpAny_holding (wpAny_bind (max_step D hu keep' (i := j + 1) (j := argBest (btK ks) j) (by omega) (by omega) g1 hb ?_))))
    refine wpAny_bind (wpAny_holding (wpAny_truthy_bool ?_))
    refine wpAny_bind (wpAny_letGo (wpAny_pure ?_))
    have step : argBest (btK ks) (j + 1) = if btK ks (j + 1) (argBest (btK ks) j) then j + 1 else argBest (btK ks) j := rfl
    cases c2 : btK ks (j + 1) (argBest (btK ks) j) with
    | true =>
      rw [c2] at step
      simp only [if_true] at step ⊢
      refine wpAny_bind (wpAny_updateSeq hl' rfl (wpAny_bind (wpAny_letGo ?_)))
      rw [name_loop]
      refine wpAny_pure ⟨plainId_quiet F.plain_max_loop _, ih (j + 1) _ _ en (by omega) (by omega) (fun b o e => (Heap.get?_update_other _ _ (Ne.symm (old hS e))).trans (keep' b o e)) ?_ (by rw [step]; exact g1) (Heap.get?_update_self _ hl' rfl)⟩
      obtain ⟨oi, hoi, r⟩ := it'
      exact ⟨oi, (Heap.get?_update_other _ _ (Ne.symm hIS)).trans hoi, r⟩
    | false =>
      rw [c2] at step
      simp only [Bool.false_eq_true, if_false] at step ⊢
      refine wpAny_bind (wpAny_letGo ?_)
      rw [name_loop]
      exact wpAny_pure ⟨plainId_quiet F.plain_max_loop _, ih (j + 1) _ _ eb (by omega) (by omega) keep' it' (by rw [step]; exact hb) hl'⟩

theorem max_dict {d : Addr} {es : Array DictEntry} {ep n : Nat} {ks : Nat → List Int} {Q : Value → Shared → Prop} (D : KeysAt s.heap d es ep n ks) (hs : (d == sysModules) = false) (hn : 0 < n) (hh : A.handled = none) (hu : A.units + 2 < cLine)
    (hQ : ∀ (h' : Heap) (eb : DictEntry), (∀ b o, s.heap.get? b = some o → h'.get? b = some o) → es[argBest (btK ks) (n - 1)]? = some eb → Q eb.key { s with heap := h' }) : wpAny (model prog w) A (call (.builtin "max") [.ref d]) Q E s := by
  obtain ⟨od, hod, hx, hdd⟩ := id D.raw
  refine call_function_tree F.kind_max F.plain_max F.entry_max (F.args_max1 _) ?_
  show wpAny _ A.in1 (Builtin.Builtins.bindParams "max" ["key", "default"] 0 ⟨[], []⟩ >>= _) _ _ s
  refine wpAny_bind (wpAny_of_eq (show Builtin.Builtins.bindParams "max" ["key", "default"] 0 ⟨[], []⟩ = pure [none, none] from rfl) ?_)
  refine wpAny_bind (wpAny_pure (wpAny_bind (iter_keys (A := A.in1) hs hod hx hdd ?_)))
  refine wpAny_bind (wpAny_newObj_type ?_)
  rw [name_loop]
  obtain ⟨en, q, its, g1, g2, g3, g4⟩ := D.key 0 hn
  have e1 : (s.heap.push { cls := .type "dict_keyiterator", data := .fields #[.ref d, .int 0 0, .int es.size 0, .int ep 0] }).objs.size = s.heap.objs.size + 1 := Heap.size_push ..
  generalize hk : s.heap.push { cls := .type "dict_keyiterator", data := .fields #[.ref d, .int 0 0, .int es.size 0, .int ep 0] } = h1 at e1 ⊢
  have it1 : h1.IsKeyIter s.heap.objs.size d 0 n ep := ⟨_, by rw [← hk]; exact Heap.get?_push_size _ rfl, rfl, by rw [D.sz]; rfl⟩
  have keep1 : ∀ b o, s.heap.get? b = some o → h1.get? b = some o := fun b o e => by rw [← hk]; exact Heap.get?_push_of_some _ e
  have hl2 : (h1.push { cls := .type "list", data := .seq ([] : List Value).toArray }).get? h1.objs.size = some { cls := .type "list", dict := none, data := .seq #[], slots := #[] } := Heap.get?_push_size _ rfl
  generalize hk2 : h1.push { cls := .type "list", data := .seq ([] : List Value).toArray } = h2 at hl2 ⊢
  have keep2 : ∀ b o, h1.get? b = some o → h2.get? b = some o := fun b o e => by rw [← hk2]; exact Heap.get?_push_of_some _ e
  have neIS : s.heap.objs.size ≠ h1.objs.size := by omega
  refine wpAny_pure ⟨plainId_quiet F.plain_max_loop _, ?_⟩
  refine codeAny_builtin F.entry_max_loop ?_
  rw [Around.under_plainId F.plain_max_loop _]
  show wpAny _ A.in1 (seqItems? (.ref h1.objs.size) >>= _) _ _ _
  refine wpAny_bind (wpAny_seqItems hl2 rfl ?_)
  show wpAny _ A.in1 (tryCatch (pyNext (.ref s.heap.objs.size)) _ >>= _) _ _ _
  have it2 : h2.IsKeyIter s.heap.objs.size d 0 n ep := let ⟨oi, hoi, r⟩ := it1; ⟨oi, keep2 _ _ hoi, r⟩
  refine wpAny_bind (wpAny_tryCatch (next_key_item (A := A.in1) it2 (keep2 _ _ (keep1 _ _ hod)) hdd D.sz g1 fun h' it' sb => ?_))
  have hl' := (sb.2 h1.objs.size (Ne.symm neIS)).trans hl2
  show wpAny _ A.in1 (updateSeq h1.objs.size (fun _ => #[en.key, en.key]) >>= _) _ _ _
  refine wpAny_bind (wpAny_updateSeq hl' rfl ?_)
  rw [name_loop]
  have lo : ∀ {b : Addr} {o : Obj}, s.heap.get? b = some o → b ≠ s.heap.objs.size ∧ b ≠ h1.objs.size := fun e =>
    ⟨Nat.ne_of_lt (Heap.lt_size e), Nat.ne_of_lt (by rw [e1]; exact Nat.lt_succ_of_lt (Heap.lt_size e))⟩
  refine wpAny_pure ⟨plainId_quiet F.plain_max_loop _, max_on (s := s) (h0 := s.heap) (A := A) D hh (by omega) neIS (Nat.le_refl _) (by omega) (fun h'' eb kp hb => hQ h'' eb kp hb) _ 0 _ _ en rfl (by omega) (fun b o e => ?_) ?_ g1 (Heap.get?_update_self _ hl' rfl)⟩
  · exact (Heap.get?_update_other _ _ (Ne.symm (lo e).2)).trans ((sb.2 b (lo e).1).trans (keep2 _ _ (keep1 _ _ e)))
  · obtain ⟨oi, hoi, r⟩ := it'
    exact ⟨oi, (Heap.get?_update_other _ _ (Ne.symm neIS)).trans hoi, r⟩
end
section
variable {X : Cx}
/-- max(d), d a dict of tuples of ints: the key's own tuple -/
def rMaxT : List V → Hp → VK → Prop := fun vs H Q => ∃ (d : Addr) (L : List (List Int × Int)), vs = [.ref d] ∧ Rd H d (.dT (enc L)) ∧ L ≠ [] ∧
  ∀ (q : Addr) (k : List Int), k ∈ L.map (·.1) → (∀ j ∈ L.map (·.1), HT.lexLt k j = false) → H q = some (.tup (k.map V.int)) → Q (.ref q) H
theorem cr_maxT (hc : X.calm = true) (hu : X.A.units + 2 < cLine) : CallR X (.builtin "max") rMaxT := by
  intro pins s σ H vs us Q I r h
  obtain ⟨d, L, rfl, hd, hne, q⟩ := h
  obtain rfl := Vals.ref1 r
  obtain ⟨hs, xs, rel, o, es, ep, ho, hx, hdt, he, _⟩ := (show (enc L).length ≤ sizeLine ∧ _ from hd.ok I.hok).2
  have l2 : es.size = xs.length := size_of_entries he
  have l3 : (enc L).length = xs.length := Paired.length rel
  have l4 : (enc L).length = L.length := List.length_map ..
  have ent : ∀ i (hi : i < L.length), ∃ (en : DictEntry) (q : Addr), es[i]? = some en ∧ en.key = .ref q ∧ H q = some (.tup (L[i].1.map V.int)) := fun i hi => by
    have e0 : (enc L)[i]? = some (ik L[i].1, .int L[i].2) := by
      unfold enc
      rw [List.getElem?_map, List.getElem?_eq_getElem hi]
      rfl
    obtain ⟨b, hb, e1, e2, e3⟩ := paired_get rel e0
    have q := entry_at he i
    rw [hb] at q
    refine ⟨_, b.2.1, q, rfl, ?_⟩
    have e2' : H b.2.1 = some (.tup ((ik L[i].1).map kV)) := e2
    rw [ik_V] at e2'
    exact e2'
  have key : ∀ i (hi : i < L.length), (L.getD i ([], 0)).1 = L[i].1 := fun i hi => by rw [List.getD_eq_getElem?_getD, List.getElem?_eq_getElem hi]; rfl
  have hn : 0 < L.length := List.length_pos_iff.mpr hne
  have D : KeysAt s.heap d es ep L.length (fun i => (L.getD i ([], 0)).1) := by
    refine ⟨⟨o, ho, hx, hdt⟩, by omega, fun i hi => ?_⟩
    obtain ⟨en, q, g1, g2, g3⟩ := ent i hi
    obtain ⟨its, rv, p, _⟩ := I.tuple (.inl (.inl g3))
    refine ⟨en, q, its.toArray, g1, g2, p, ?_⟩
    dsimp only
    rw [key i hi]
    exact rv.ints
  refine max_dict D hs hn (I.ok.hd hc) hu fun h' eb kp hb => ?_
  obtain ⟨b1, b2⟩ := best_max (fun i => (L.getD i ([], 0)).1) (L.length - 1)
  have hlt : argBest (btK fun i => (L.getD i ([], 0)).1) (L.length - 1) < L.length := by omega
  obtain ⟨en, p, g1, g2, g3⟩ := ent _ hlt
  rw [hb] at g1
  cases g1
  refine ⟨.ref p, H, I.kept (t' := s.toks) kp, g2, q p _ (List.mem_map.mpr ⟨_, List.getElem_mem hlt, rfl⟩) (fun j hj => ?_) g3⟩
  obtain ⟨z, hz, rfl⟩ := List.mem_map.mp hj
  obtain ⟨i, hi, rfl⟩ := List.mem_iff_getElem.mp hz
  have e := b2 i (by omega)
  rw [key i hi, key _ hlt] at e
  exact e
/-- min(t), t a tuple of ints -/
def rMinT (K : PySem.W.Frag) : List V → Hp → VK → Prop := fun vs H Q => ∃ (a : Addr) (ns : List Int), vs = [.ref a] ∧ SqT K H a (ns.map V.int) ∧ ns ≠ [] ∧ ∀ m, m ∈ ns → (∀ j ∈ ns, m ≤ j) → Q (.int m) H
theorem cr_minT (hc : X.calm = true) : CallR X (.builtin "min") (rMinT X.K) := by
  intro pins s σ H vs us Q I r h
  obtain ⟨a, ns, rfl, ha, hne, q⟩ := h
  obtain rfl := Vals.ref1 r
  obtain ⟨its, rv, p, _⟩ := I.tuple ha
  have hi := rv.ints
  have hlt : a < s.heap.objs.size := p.lt
  have hl : its.length = ns.length := hi.length
  have hn : 0 < ns.length := List.length_pos_iff.mpr hne
  have hval : ∀ (i : Nat) (v : Value), its.toArray[i]? = some v → ∃ t, v = .int (ns.getD i 0) t := fun i v e => hi.int_at i v (by simpa using e)
  refine call_min_walk (wpAny_pyIter_tuple (show s.heap.IsTuple a its.toArray from p) ?_)
  refine ⟨_, _, _, _, _, _, _, rfl, Walks.tuple (A := X.A.in1) (I.ok.hd hc) s.heap.objs.size a (Nat.ne_of_lt hlt) its.toArray, ⟨⟨_, Heap.get?_push_size _ rfl, rfl, rfl⟩, ?_⟩, fun b hb => ?_, by simpa using (show 0 < its.length by omega), CmpOf.ints_lt (fun i => ns.getD i 0) hval, fun v h' tk hP hk => ?_⟩
  · obtain ⟨o, ho, r⟩ := (show IsTup s.heap a its.toArray from p)
    exact ⟨o, Heap.get?_push_of_some _ ho, r⟩
  · show b < (s.heap.push _).objs.size
    rw [Heap.size_push]
    rcases List.mem_cons.mp hb with e | hb
    · rw [e]
      exact Nat.lt_succ_self _
    · rw [List.mem_singleton.mp hb]
      exact Nat.lt_succ_of_lt hlt
  · obtain ⟨t, rfl⟩ := hval _ v hP
    obtain ⟨b1, b2⟩ := argBest_lt (fun i => ns.getD i 0) (its.toArray.size - 1)
    have hsz : its.toArray.size = ns.length := by simpa using hl
    refine ⟨.int _, H, I.kept (t' := tk) fun b u e => hk b u (fun hm => ?_) (Heap.get?_push_of_some _ e), ⟨t, rfl⟩, q _ ?_ fun j hj => ?_⟩
    · exact absurd (Heap.lt_size e) (by rw [List.mem_singleton.mp hm]; exact Nat.lt_irrefl _)
    · have hb : argBest (fun i j => decide (ns.getD i 0 < ns.getD j 0)) (its.toArray.size - 1) < ns.length := by omega
      rw [List.getD_eq_getElem?_getD, List.getElem?_eq_getElem hb]
      exact List.getElem_mem hb
    · obtain ⟨i, hi, e⟩ := List.mem_iff_getElem.mp hj
      have e2 : ns.getD i 0 = j := by rw [List.getD_eq_getElem?_getD, List.getElem?_eq_getElem hi, ← e]; rfl
      rw [← e2]
      exact b2 i (by omega)
end
end Dw
/-! Sorting pairs of a tuple of ints and an int, no two with the same tuple. -/
namespace Dw
open PySem PySem.Spec PyProof.Rows L2
open PySem.W (KatTups)

/-- v is a pair: a tuple of ints, an int -/
def IsPr (h : Heap) (v : Value) (x : List Int × Int) : Prop :=
  ∃ (t q : Addr) (its : Array Value) (tk : Tok), v = .ref t ∧ IsTup h t #[.ref q, .int x.2 tk] ∧ IsTup h q its ∧ IntsAre its.toList x.1
theorem IsPr.move {h h' : Heap} {v : Value} {x : List Int × Int} (p : IsPr h v x) (k : ∀ b o, h.get? b = some o → o.cls = .type "tuple" → h'.get? b = some o) : IsPr h' v x := by
  obtain ⟨t, q, its, tk, e, ⟨o, ho, hc, r⟩, ⟨o2, ho2, hc2, r2⟩, hi⟩ := p
  exact ⟨t, q, its, tk, e, ⟨o, k _ _ ho hc, hc, r⟩, ⟨o2, k _ _ ho2 hc2, hc2, r2⟩, hi⟩
theorem ints_key {P : Program} {w : World} : ∀ {vs : List Value} {ns : List Int}, IntsAre vs ns → ItemsAre (mixKind P w) (ik ns) vs
  | _, _, .nil => .nil
  | _, _, .cons n t r => .cons (mixKind_int P w n t) (ints_key r)
abbrev ltPr (k : Value → List Int × Int) (v u : Value) : Bool := HT.lexLt (k v).1 (k u).1
theorem swo_pr (k : Value → List Int × Int) : SrtO.Swo (ltPr k) := NtL.swo_lexL fun v => (k v).1
section
variable {prog : Program} {w : World} {A : Around} {E : Value → Shared → Prop} {s : Shared}
theorem pr_firsts {h : Heap} {k : Value → List Int × Int} : ∀ vs : List Value, (∀ v ∈ vs, IsPr h v (k v)) → ∃ fs : List Value, KatTups h vs fs ∧ fs.length = vs.length ∧ ∀ f ∈ fs, ∃ (q : Addr) (o : Obj), f = Value.ref q ∧ h.get? q = some o ∧ o.cls = .type "tuple"
  | [], _ => ⟨[], KatTups.nil, rfl, fun f hf => nomatch hf⟩
  | v :: vs, x => by
    obtain ⟨fs, t, hl, hi⟩ := pr_firsts vs fun u hu => x u (List.mem_cons_of_mem _ hu)
    obtain ⟨a, q, its, tk, e, ⟨o, ho, hc, n, hd⟩, ⟨o2, ho2, hc2, _⟩, _⟩ := x v List.mem_cons_self
    refine ⟨.ref q :: fs, by rw [e]; exact KatTups.cons ho hc hd rfl t, by rw [List.length_cons, List.length_cons, hl], fun f hf => ?_⟩
    rcases List.mem_cons.mp hf with rfl | hf
    · exact ⟨q, o2, rfl, ho2, hc2⟩
    · exact hi f hf
theorem pr_cmp {vs : List Value} {k : Value → List Int × Int} (hu : A.units < cLine) (hp : ∀ v ∈ vs, IsPr s.heap v (k v)) (hd : ∀ v ∈ vs, ∀ u ∈ vs, (k v).1 = (k u).1 → (k v).2 = (k u).2) :
    SrtO.Cmp prog w A s (tuples' false) (fun p => p.1 ∈ vs) (SrtO.lt2 (ltPr k)) := by
  intro p q hm hm'
  have hsame := hd _ hm _ hm'
  have h1 := hp _ hm
  have h2 := hp _ hm'
  show wpAny (model prog w) A (keyLt' (tuples' false) p.1 q.1) (fun r s' => s' = s ∧ r = HT.lexLt (k p.1).1 (k q.1).1) (fun _ _ => False) s
  generalize k p.1 = x at h1 hsame ⊢
  generalize k q.1 = y at h2 hsame ⊢
  obtain ⟨a, ka, its, tk, e1, ⟨o, ho, hc, n, hd1⟩, t2, i1⟩ := h1
  obtain ⟨b, kb, its', tk', e2, ⟨o', ho', hc', n', hd2⟩, t2', i2⟩ := h2
  rw [e1, e2]
  refine PySem.W.kat_lt ho hd1 ho' hd2 ?_
  show PySem.W.KatLex prog w A false (decide (2 < 2)) _ [(Value.ref ka, Value.ref kb), (Value.int x.2 tk, Value.int y.2 tk')] 0 s
  have k1 : IsTupleKey (mixKind prog w) s.heap (ik x.1) ka := let ⟨ok, hok, ck, nk, dk⟩ := t2; ⟨ok, _, nk, hok, ck, dk, ints_key i1⟩
  have k2 : IsTupleKey (mixKind prog w) s.heap (ik y.1) kb := let ⟨ok, hok, ck, nk, dk⟩ := t2'; ⟨ok, _, nk, hok, ck, dk, ints_key i2⟩
  refine PySem.W.kat_cons (wpAny_eqBool_tuple hu k1 k2 ?_)
  refine PySem.W.kat_go (fun e0 => ?_) (fun e0 => ?_)
  · have ex : x.1 = y.1 := ik_inj (of_decide_eq_true e0)
    have ec : x.2 = y.2 := hsame ex
    refine PySem.W.kat_yes (PySem.W.kat_cons (SeqAt.EqAt.int_int x.2 tk y.2 tk' prog w _ _ ?_))
    refine PySem.W.kat_go (fun _ => ?_) (fun e3 => absurd ec (by simpa using e3))
    refine PySem.W.kat_yes (PySem.W.kat_nil ⟨rfl, ?_⟩)
    rw [ex, lex_irr]
    rfl
  · refine PySem.W.kat_no ?_
    show wpAny _ _ (oneLt' false _ _) _ _ _
    exact PySem.W.kat_one _ _ (HT.lt_tupInts t2 t2' i1 i2 hu ⟨rfl, rfl⟩)
theorem pr_sortable {a : Addr} {vs : List Value} {k : Value → List Int × Int} (h0 : 0 < vs.length) (hu : A.units < cLine) (hp : ∀ v ∈ vs, IsPr s.heap v (k v)) (hd : ∀ v ∈ vs, ∀ u ∈ vs, (k v).1 = (k u).1 → (k v).2 = (k u).2)
    (ha : ∀ o, s.heap.get? a = some o → o.cls ≠ .type "tuple") : SrtO.SortableO prog w A s a vs (ltPr k) := by
  intro h' keep
  have hp' : ∀ v ∈ vs, IsPr h' v (k v) := fun v hm => (hp v hm).move fun b o e c => keep b o (fun z => by subst z; exact ha o e c) e
  obtain ⟨fs, t, hl, hi⟩ := pr_firsts vs hp'
  refine ⟨tuples' false, fun Q E hq => ?_, pr_cmp (s := { s with heap := h' }) hu hp' hd⟩
  refine PySem.W.kat_kind (T := .type "tuple") t (by omega) (fun f hf => ?_) rfl ?_
  · obtain ⟨q, o, rfl, ho, hc⟩ := hi f hf
    have z : PySem.W.Looks (model prog w) h' (typeOf (.ref q)) o.cls := (PySem.W.Looks.ld ho).andThen .now
    rw [hc] at z
    exact z
  · have hb : (Value.type "tuple" != Value.type "tuple") = false := by first | rfl | decide
    rw [hb]
    exact hq
end

/-! ### as rules of the layer -/
/-- at t: a pair of a tuple of these ints and this int -/
def PairAt (H : Hp) (t : Addr) (x : List Int × Int) : Prop := ∃ q, H t = some (.tup [.ref q, .int x.2]) ∧ H q = some (.tup (x.1.map V.int))
theorem ints_inj {a b : List Int} (h : a.map V.int = b.map V.int) : a = b := by
  have f : ∀ l : List Int, (l.map V.int).map (fun v : V => match v with | .int i => i | _ => (0 : Int)) = l := fun l => by
    induction l with
    | nil => rfl
    | cons x r ih => rw [List.map_cons, List.map_cons, ih]
  rw [← f a, ← f b, h]
theorem PairAt.inj {H : Hp} {t : Addr} {x y : List Int × Int} (a : PairAt H t x) (b : PairAt H t y) : x = y := by
  obtain ⟨q, h1, h2⟩ := a
  obtain ⟨q', h1', h2'⟩ := b
  rw [h1] at h1'
  injection h1' with e
  injection e with e
  injection e with e1 e
  injection e with e2 _
  injection e1 with e1
  injection e2 with e2
  subst e1
  rw [h2] at h2'
  injection h2' with e
  injection e with e
  exact Prod.ext (ints_inj e) e2
theorem PairAt.keep {H H' : Hp} {t : Addr} {x : List Int × Int} (a : PairAt H t x) (k : ∀ b xs, H b = some (.tup xs) → H' b = some (.tup xs)) : PairAt H' t x := let ⟨q, h1, h2⟩ := a; ⟨q, k _ _ h1, k _ _ h2⟩
abbrev Pairs (H : Hp) : List Addr → List (List Int × Int) → Prop := Paired (PairAt H)
theorem Pairs.keep {H H' : Hp} {ps : List Addr} {L : List (List Int × Int)} (a : Pairs H ps L) (k : ∀ b xs, H b = some (.tup xs) → H' b = some (.tup xs)) : Pairs H' ps L := Paired.mapP a fun _ _ z => z.keep k
/-- the pair at t -/
noncomputable def prOf (H : Hp) (t : Addr) : List Int × Int := by
  classical
  exact if h : ∃ x, PairAt H t x then Classical.choose h else ([], 0)
theorem prOf_eq {H : Hp} {t : Addr} {x : List Int × Int} (h : PairAt H t x) : prOf H t = x := by
  have e : ∃ x, PairAt H t x := ⟨x, h⟩
  unfold prOf
  rw [dif_pos e]
  exact (Classical.choose_spec e).inj h
theorem Pairs.map_eq {H : Hp} : ∀ {ps : List Addr} {L : List (List Int × Int)}, Pairs H ps L → L = ps.map (prOf H)
  | _, _, .nil => rfl
  | _, _, .cons h t => by rw [List.map_cons, prOf_eq h, ← Pairs.map_eq t]
theorem pairs_of {H : Hp} : ∀ {ps : List Addr}, (∀ t ∈ ps, ∃ x, PairAt H t x) → Pairs H ps (ps.map (prOf H))
  | [], _ => .nil
  | t :: ps, h => by
    obtain ⟨x, hx⟩ := h t List.mem_cons_self
    refine .cons ?_ (pairs_of fun u hu => h u (List.mem_cons_of_mem _ hu))
    rw [prOf_eq hx]
    exact hx
theorem Pairs.mem {H : Hp} {ps : List Addr} {L : List (List Int × Int)} (a : Pairs H ps L) : ∀ t ∈ ps, ∃ x ∈ L, PairAt H t x := by
  induction a with
  | nil => exact fun t h => nomatch h
  | cons h _ ih =>
    intro t ht
    rcases List.mem_cons.mp ht with rfl | ht
    · exact ⟨_, List.mem_cons_self, h⟩
    · obtain ⟨x, hx, p⟩ := ih t ht
      exact ⟨x, List.mem_cons_of_mem _ hx, p⟩
/-- ascending by the exponents, no two alike -/
def Asc (L : List (List Int × Int)) : Prop := L.Pairwise fun x y => HT.lexLt x.1 y.1 = true
theorem lex_tot : ∀ {a b : List Int}, HT.lexLt a b = false → HT.lexLt b a = false → a = b
  | [], [], _, _ => rfl
  | [], y :: ys, h, _ => by rw [HT.lexLt_nil_cons] at h; cases h
  | x :: xs, [], _, h => by rw [HT.lexLt_nil_cons] at h; cases h
  | x :: xs, y :: ys, h1, h2 => by
    rw [HT.lexLt_cons] at h1 h2
    by_cases e : x = y
    · subst e
      rw [if_pos rfl] at h1 h2
      rw [lex_tot h1 h2]
    · rw [if_neg e] at h1
      rw [if_neg (fun z => e z.symm)] at h2
      have a := of_decide_eq_false h1
      have b := of_decide_eq_false h2
      omega
theorem asc_of {L : List (List Int × Int)} (hn : (L.map (·.1)).Nodup) (h : L.Pairwise fun x y => HT.lexLt y.1 x.1 = false) : Asc L := by
  have hn' : L.Pairwise fun x y => x.1 ≠ y.1 := List.pairwise_map.mp hn
  refine (hn'.and h).imp fun {x y} ⟨ne, z⟩ => ?_
  cases c : HT.lexLt x.1 y.1 with
  | true => rfl
  | false => exact absurd (lex_tot c z) ne
theorem nodup_at {L : List (List Int × Int)} (hn : (L.map (·.1)).Nodup) {x y : List Int × Int} (hx : x ∈ L) (hy : y ∈ L) (e : x.1 = y.1) : x = y := by
  obtain ⟨i, hi, rfl⟩ := List.mem_iff_getElem.mp hx
  obtain ⟨j, hj, rfl⟩ := List.mem_iff_getElem.mp hy
  have q : (L.map (·.1))[i]'(by simpa using hi) = (L.map (·.1))[j]'(by simpa using hj) := by simpa using e
  have ij : i = j := (List.getElem_inj hn).mp q
  subst ij
  rfl
section
variable {X : Cx} {pins : List (Addr × Obj)} {σ : L2.St} {H : Hp} {s : Shared}
theorem inv_pr {t : Addr} {x : List Int × Int} (I : Inv X pins σ H s) (h : PairAt H t x) : IsPr s.heap (.ref t) x := by
  obtain ⟨q, h1, h2⟩ := h
  obtain ⟨its, rv, p, _⟩ := I.tuple (.inl (.inl h1))
  obtain ⟨its2, rv2, p2, _⟩ := I.tuple (.inl (.inl h2))
  obtain ⟨u1, u2, rfl, r1, r2⟩ := vals2 rv
  obtain ⟨tk, rfl⟩ := r2
  obtain rfl : u1 = Value.ref q := r1
  exact ⟨t, q, its2.toArray, tk, rfl, p, p2, rv2.ints⟩
/-- the sort's answer, over the addresses -/
theorem sorted_back {ps : List Addr} {L : List (List Int × Int)} {out : List Value} {kf : Value → List Int × Int} (hP : Pairs H ps L) (hn : (L.map (·.1)).Nodup) (hk : ∀ t ∈ ps, kf (.ref t) = prOf H t)
    (h1 : SrtO.Srtd (ltPr kf) out) (h2 : SrtO.Stb (ltPr kf) out (ps.map Value.ref)) : ∃ ps' : List Addr, out = ps'.map Value.ref ∧ ps'.Perm ps ∧ ∃ L', Pairs H ps' L' ∧ L'.Perm L ∧ Asc L' := by
  have hm : ∀ v ∈ out, ∃ t ∈ ps, v = Value.ref t := fun v hv => by
    obtain ⟨t, ht, e⟩ := List.mem_map.mp (h2.perm.mem_iff.mp hv)
    exact ⟨t, ht, e.symm⟩
  obtain ⟨ps', rfl⟩ : ∃ ps' : List Addr, out = ps'.map Value.ref := ⟨out.map adO, ref_map fun v hv => let ⟨t, _, e⟩ := hm v hv; ⟨t, e⟩⟩
  have hperm : ps'.Perm ps := by
    have q := h2.perm.map adO
    rw [ad_map, ad_map] at q
    exact q
  have hsub : ∀ t ∈ ps', ∃ x, PairAt H t x := fun t ht => let ⟨x, _, p⟩ := hP.mem t (hperm.mem_iff.mp ht); ⟨x, p⟩
  have eL := hP.map_eq
  have pL : (ps'.map (prOf H)).Perm L := by
    rw [eL]
    exact hperm.map _
  refine ⟨ps', rfl, hperm, ps'.map (prOf H), pairs_of hsub, pL, asc_of ((pL.map (·.1)).nodup_iff.mpr hn) ?_⟩
  rw [List.pairwise_map]
  have h1' : ps'.Pairwise fun t u => ltPr kf (.ref u) (.ref t) = false := List.pairwise_map.mp h1
  refine h1'.imp_of_mem fun {t u} ht hu h => ?_
  have e1 := hk t (hperm.mem_iff.mp ht)
  have e2 := hk u (hperm.mem_iff.mp hu)
  have h' : HT.lexLt (kf (.ref u)).1 (kf (.ref t)).1 = false := h
  rw [e1, e2] at h'
  exact h'
/-- sorted(l), l a list of pairs, no two with the same tuple -/
def rSortQ (K : PySem.W.Frag) : List V → Hp → VK → Prop := fun vs H Q => ∃ (a : Addr) (ps : List Addr) (L : List (List Int × Int)), vs = [.ref a] ∧ SqL K H a (ps.map V.ref) ∧ Pairs H ps L ∧ (L.map (·.1)).Nodup ∧
  ∀ (ps' : List Addr) (L' : List (List Int × Int)) (p : Addr), Pairs H ps' L' → L'.Perm L → Asc L' → H p = none → Q (.ref p) (upd H p (.lst (ps'.map V.ref)))
theorem cr_sortQ (hu : X.A.units + 2 < cLine) : CallR X (.builtin "sorted") (rSortQ X.K) := by
  intro pins s σ H vs us Q I r h
  obtain ⟨a, ps, L, rfl, hs, hP, hn, q⟩ := h
  obtain rfl := Vals.ref1 r
  obtain ⟨its, rv, hl, hz⟩ := I.list hs
  obtain rfl := nts_of rv
  have hz' : (ps.map Value.ref).length ≤ sizeLine := by rw [List.length_map] at hz ⊢; exact hz
  have hk : ∀ v ∈ ps.map Value.ref, IsPr s.heap v (prOf H (adO v)) := fun v hv => by
    obtain ⟨t, ht, rfl⟩ := List.mem_map.mp hv
    obtain ⟨x, _, px⟩ := hP.mem t ht
    show IsPr s.heap (.ref t) (prOf H t)
    rw [prOf_eq px]
    exact inv_pr I px
  have hd : ∀ v ∈ ps.map Value.ref, ∀ u ∈ ps.map Value.ref, (prOf H (adO v)).1 = (prOf H (adO u)).1 → (prOf H (adO v)).2 = (prOf H (adO u)).2 := fun v hv u hu e => by
    obtain ⟨t, ht, rfl⟩ := List.mem_map.mp hv
    obtain ⟨t', ht', rfl⟩ := List.mem_map.mp hu
    obtain ⟨x, hx, px⟩ := hP.mem t ht
    obtain ⟨y, hy, py⟩ := hP.mem t' ht'
    have e' : (prOf H t).1 = (prOf H t').1 := e
    show (prOf H t).2 = (prOf H t').2
    rw [prOf_eq px, prOf_eq py] at e' ⊢
    rw [nodup_at hn hx hy e']
  refine SrtO.sorted_ord (swo_pr fun v => prOf H (adO v)) hl.isList hz' (fun h2 h1 b hb keep => ?_) fun out o1 o2 => ?_
  · refine pr_sortable (s := { s with heap := h1 }) (by omega) (by show X.A.units + 1 + 1 < cLine; omega) (fun v hv => (hk v hv).move fun c o e _ => (keep c o e).2) hd fun o e => ?_
    have e' : some o = some (PyProof.Rows.seqObj "list" (ps.map Value.ref).toArray 0) := e.symm.trans hb
    cases e'
    intro z
    exact absurd (Value.type.inj z) (by decide)
  · obtain ⟨ps', rfl, hperm, L', p1, p2, p3⟩ := sorted_back hP hn (fun t _ => rfl) o1 o2
    obtain ⟨n, hn'⟩ := PyProof.Rows.sortedAll_at s.heap (ps.map Value.ref) (ps'.map Value.ref).toArray
    have hz2 : (ps'.map V.ref).length ≤ sizeLine := by rw [List.length_map, hperm.length_eq, ← List.length_map (f := Value.ref)]; exact hz'
    have hf : H (s.heap.objs.size + 1) = none := I.hok.fresh (Nat.le_succ _)
    exact ⟨.ref (s.heap.objs.size + 1), upd H (s.heap.objs.size + 1) (.lst (ps'.map V.ref)), I.laid (t' := s.toks) (fun b o e => PyProof.Rows.sortedAll_old e) (Nat.le_succ _) ⟨hz2, ps'.map Value.ref, n, of_nts ps', hn'⟩, rfl, q ps' L' _ p1 p2 p3 hf⟩
end
end Dw
/-! sorted(d.items()), tuple(d.items()): keys tuples of ints, values ints. -/
namespace Dw
open PySem PySem.Spec PyProof.Rows L2
section
variable {X : Cx} {pins : List (Addr × Obj)} {σ : L2.St} {H : Hp} {s : Shared}
/-- the dict's table, by its pairs -/
theorem ent_enc {d : Addr} {L : List (List Int × Int)} (I : Inv X pins σ H s) (hd : H d = some (.dT (enc L))) :
    (d == sysModules) = false ∧ ∃ (es : Array DictEntry) (ep : Nat), DT.Raw s.heap d es ep ∧ es.size = L.length ∧ L.length ≤ sizeLine ∧ (L.map (·.1)).Nodup ∧
      ∀ (i : Nat) (x : List Int × Int), L[i]? = some x → ∃ (en : DictEntry) (q : Addr), es[i]? = some en ∧ en.key = .ref q ∧ H q = some (.tup (x.1.map V.int)) ∧ RelV (.int x.2) en.val := by
  obtain ⟨z, hs, xs, rel, o, es, ep, ho, hx, hdt, he, hn⟩ := I.hok d _ hd
  have l2 : es.size = xs.length := size_of_entries he
  have l3 : (enc L).length = xs.length := Paired.length rel
  have l4 : (enc L).length = L.length := List.length_map ..
  refine ⟨hs, es, ep, ⟨o, ho, hx, hdt⟩, by omega, by omega, ?_, fun i x e => ?_⟩
  · have all : ∀ {l : List (List Key × V)} {m : List (List Key × Addr × Value)}, KT H l m → l.map (·.1) = m.map (·.1) := by
      intro l m q
      induction q with
      | nil => rfl
      | cons h t ih => rw [List.map_cons, List.map_cons, ih, h.1]
    rw [← all rel] at hn
    have e : (enc L).map (·.1) = (L.map (·.1)).map ik := by
      unfold enc
      rw [List.map_map, List.map_map]
      exact List.map_congr_left fun _ _ => rfl
    rw [e] at hn
    have hn' := List.pairwise_map.mp hn
    exact hn'.imp fun {a b} ne z => ne (by rw [z])
  · have e0 : (enc L)[i]? = some (ik x.1, .int x.2) := by
      unfold enc
      rw [List.getElem?_map, e]
      rfl
    obtain ⟨b, hb, e1, e2, e3⟩ := paired_get rel e0
    have q := entry_at he i
    rw [hb] at q
    refine ⟨_, b.2.1, q, rfl, ?_, e3⟩
    have e2' : H b.2.1 = some (.tup ((ik x.1).map kV)) := e2
    rw [ik_V] at e2'
    exact e2'

/-- pairs laid anew are tracked -/
theorem take_pairs {h' : Heap} {tk : Nat} {H1 : Hp} {es : Array DictEntry} {L : List (List Int × Int)} {as : List Addr} (I : Inv X pins σ H s) (I1 : Inv X pins σ H1 { s with heap := h', toks := tk }) (mono : ∀ b o, H b = some o → H1 b = some o)
    (nd : as.Nodup) (len : as.length = L.length) (fresh : ∀ a ∈ as, s.heap.objs.size ≤ a ∧ H1 a = none) (made : ∀ (j : Nat) (a : Addr), as[j]? = some a → ∃ e, es[j]? = some e ∧ h'.get? a = some { cls := .type "tuple", data := .seq #[e.key, e.val] })
    (ent : ∀ (i : Nat) (x : List Int × Int), L[i]? = some x → ∃ (en : DictEntry) (q : Addr), es[i]? = some en ∧ en.key = .ref q ∧ H q = some (.tup (x.1.map V.int)) ∧ RelV (.int x.2) en.val) :
    ∃ H2, Inv X pins σ H2 { s with heap := h', toks := tk } ∧ (∀ b o, H1 b = some o → H2 b = some o) ∧ Pairs H2 as L := by
  obtain ⟨H2, I2, g, q⟩ := L2.DX.takeT (P := fun a vs => ∃ (j : Nat) (x : List Int × Int) (q : Addr), as[j]? = some a ∧ L[j]? = some x ∧ H q = some (.tup (x.1.map V.int)) ∧ vs = [.ref q, .int x.2]) I as H1 I1 nd fun a ha => by
    obtain ⟨j, hj⟩ := List.mem_iff_getElem?.mp ha
    have hlt : j < L.length := by rw [← len]; exact (List.getElem?_eq_some_iff.mp hj).1
    obtain ⟨e, he, hg⟩ := made j a hj
    obtain ⟨en, q, e1, e2, e3, e4⟩ := ent j L[j] (List.getElem?_eq_getElem hlt)
    rw [he] at e1
    cases e1
    obtain ⟨f1, f2⟩ := fresh a ha
    exact ⟨f1, f2, _, ⟨j, L[j], q, hj, List.getElem?_eq_getElem hlt, e3, rfl⟩, fun H3 => ⟨by show 2 ≤ sizeLine; decide, [e.key, e.val], .cons e2 (.cons e4 .nil), ⟨_, hg, rfl, 0, rfl⟩⟩⟩
  refine ⟨H2, I2, g, ?_⟩
  have at_ : ∀ (j : Nat) (a : Addr) (x : List Int × Int), as[j]? = some a → L[j]? = some x → PairAt H2 a x := fun j a x ha hx => by
    obtain ⟨vs, ⟨i, y, q, e1, e2, e3, e4⟩, hH⟩ := q a (List.mem_of_getElem? ha)
    have ij : i = j := (List.getElem?_inj (List.getElem?_eq_some_iff.mp e1).1 nd).mp (e1.trans ha.symm)
    subst ij
    rw [hx] at e2
    cases e2
    subst e4
    exact ⟨q, hH, g _ _ (mono _ _ e3)⟩
  clear fresh made ent nd q I I1 I2
  induction as generalizing L with
  | nil =>
    obtain rfl : L = [] := List.eq_nil_of_length_eq_zero len.symm
    exact .nil
  | cons a as ih =>
    match L, len with
    | x :: L, len => exact .cons (at_ 0 a x rfl rfl) (ih (by simpa using len) fun j b y hb hy => at_ (j + 1) b y (by simpa using hb) (by simpa using hy))

theorem made_nodup {es : Array DictEntry} {lo : Addr} {h : Heap} {as : List Addr} (g : DT.Made es lo h as) : as.Nodup := List.Pairwise.imp (fun h => Nat.ne_of_lt h) g.rise

/-- tuple(d.items()) -/
def rTupI : List V → Hp → VK → Prop := fun vs H Q => ∃ (p d : Addr) (L : List (List Int × Int)), vs = [.ref p] ∧ H p = some (L2.DX.itemsO p d) ∧ H d = some (.dT (enc L)) ∧
  ∀ (H' : Hp) (t : Addr) (ps : List Addr), (∀ b o, H b = some o → H' b = some o) → H t = none → H' t = some (.tup (ps.map V.ref)) → Pairs H' ps L → Q (.ref t) H'
end
section
open PySem.AutoSeq1 (wpAny_loadPart')
theorem meets_tup_items (p d : Addr) (es : Array DictEntry) (ep : Nat) (hz : es.size ≤ sizeLine) :
    Meets (Builtin.«tuple.__new__» ⟨[.type "tuple", .ref p], []⟩)
      (fun A R s => A.handled = none ∧ s.heap.IsItemsView p d ∧ DT.Raw s.heap d es ep ∧ ∀ (h' : Heap) (tk : Nat) (as : List Addr), (∀ b o, s.heap.get? b = some o → h'.get? b = some o) → s.heap.objs.size < h'.objs.size → as.length = es.size → DT.Made es s.heap.objs.size h' as →
        R (.ok (.ret (.ref h'.objs.size))) { s with heap := h'.push { cls := .type "tuple", data := .seq (as.map Value.ref).toArray }, toks := tk }) :=
  .of_wp fun prog w A R s h => by
    obtain ⟨hp, g, dr, tk, os⟩ := s
    obtain ⟨hh, hv, hm, h⟩ := h
    have hsub := sub_tuple_self
    have hinit := init_tuple_lookup
    have hmh := madeHere_tuple
    have hT : Shared.TypeIs ⟨hp, g, dr, tk, os⟩ (.ref p) "dict_items" := hv.typeIs
    obtain ⟨ov, hov, hcv, hdv⟩ := id hv
    wp_walk using wpAny_loadPart' hov, wpAny_typeOf hT, DT.collectI (A := A.in1) (s := ⟨hp, g, dr, tk, os⟩) (es := es) (ep := ep) hh hv hm hz
    intro h' tk' as hk hlt hl hG
    show wpAny _ _ (Builtin.Tuple.tupleExact (as.map Value.ref).toArray >>= fun v => ret v) _ _ _
    unfold Builtin.Tuple.tupleExact
    refine wpAny_bind (wpAny_newObj_type ?_ (by show (as.map Value.ref).toArray.size ≤ sizeLine; simp only [List.size_toArray, List.length_map]; omega))
    exact wpAny_pure ⟨_, rfl, h h' tk' as hk hlt hl hG⟩
end
section
variable {X : Cx}
theorem cr_tupItems (hc : X.calm = true) : CallR X (.type "tuple") rTupI := by
  intro pins s σ H vs us Q I r h
  obtain ⟨p, d, L, rfl, hp, hd, q⟩ := h
  obtain rfl := Vals.ref1 r
  have view : s.heap.IsItemsView p d := (show ObjOk X.prog X.w H s.heap p (L2.DX.itemsO p d) from I.hok p _ hp).1
  obtain ⟨hs, es, ep, raw, hsz, hz, hn, ent⟩ := ent_enc I hd
  refine callType_new F.called_tuple (by decide) (F.typeCall_tuple_1 _) (F.newCall_tuple_1 _) (fun obj => F.args_object_init_2 obj _) F.entry_tuple_new
    (meets_tup_items p d es ep (by omega)) ⟨I.ok.hd hc, view, raw, fun h' tk as hk hlt hl hG => ⟨⟨_, Heap.get?_push_size _ rfl, rfl⟩, ?_⟩⟩
  have old : ∀ b o, h'.get? b = some o → (h'.push { cls := .type "tuple", data := .seq (as.map Value.ref).toArray }).get? b = some o := fun b o e => Heap.get?_push_of_some _ e
  have fresh : ∀ a, s.heap.objs.size ≤ a → H a = none := fun a h => I.hok.fresh h
  have nT : H h'.objs.size = none := fresh _ (Nat.le_of_lt hlt)
  have I1 : Inv X pins σ (upd H h'.objs.size (.tup (as.map V.ref))) { s with heap := h'.push { cls := .type "tuple", data := .seq (as.map Value.ref).toArray }, toks := tk } :=
    I.laid (t' := tk) (fun b o e => old b o (hk b o e)) (Nat.le_of_lt hlt) ⟨by rw [List.length_map]; omega, as.map Value.ref, of_nts as, ⟨_, Heap.get?_push_size _ rfl, rfl, 0, rfl⟩⟩
  obtain ⟨H2, I2, g, P2⟩ := take_pairs (es := es) (L := L) (as := as) I I1 (fun b o e => by rw [upd_ne (ne_of_none e nT)]; exact e) (made_nodup hG) (by omega)
    (fun a ha => ⟨Nat.le_of_lt (hG.above a ha), by rw [upd_ne (Nat.ne_of_lt (hG.there ha))]; exact fresh a (Nat.le_of_lt (hG.above a ha))⟩)
    (fun j a hj => let ⟨e, e1, e2⟩ := hG.pairs j a hj; ⟨e, e1, old _ _ e2⟩) ent
  exact ⟨.ref h'.objs.size, H2, I2, rfl, q H2 _ as (fun b o e => g b o (by rw [upd_ne (ne_of_none e nT)]; exact e)) nT (g _ _ upd_same) P2⟩

theorem IsPr.inj {h : Heap} {v : Value} {x y : List Int × Int} (a : IsPr h v x) (b : IsPr h v y) : x = y := by
  obtain ⟨t, q, its, tk, e, ⟨o, ho, _, n, hd⟩, ⟨o2, ho2, _, n2, hd2⟩, hi⟩ := a
  obtain ⟨t', q', its', tk', e', ⟨o', ho', _, n', hd'⟩, ⟨o2', ho2', _, n2', hd2'⟩, hi'⟩ := b
  rw [e] at e'
  cases e'
  rw [ho] at ho'
  cases ho'
  rw [hd] at hd'
  injection hd' with e1 _
  have e2 := congrArg Array.toList e1
  injection e2 with e3 e4
  injection e4 with e5 _
  injection e3 with e3
  injection e5 with e5 _
  subst e3
  rw [ho2] at ho2'
  cases ho2'
  rw [hd2] at hd2'
  injection hd2' with e6 _
  subst e6
  exact Prod.ext (hi.numsOf.symm.trans hi'.numsOf) e5
/-- the pair at v, read off the heap -/
noncomputable def prAt (h : Heap) (v : Value) : List Int × Int := by
  classical
  exact if e : ∃ x, IsPr h v x then Classical.choose e else ([], 0)
theorem prAt_eq {h : Heap} {v : Value} {x : List Int × Int} (p : IsPr h v x) : prAt h v = x := by
  have e : ∃ x, IsPr h v x := ⟨x, p⟩
  unfold prAt
  rw [dif_pos e]
  exact (Classical.choose_spec e).inj p
/-- sorted(d.items()) -/
def rSortI : List V → Hp → VK → Prop := fun vs H Q => ∃ (p d : Addr) (L : List (List Int × Int)), vs = [.ref p] ∧ H p = some (L2.DX.itemsO p d) ∧ H d = some (.dT (enc L)) ∧
  ∀ (H' : Hp) (l : Addr) (ps' : List Addr) (L' : List (List Int × Int)), (∀ b o, H b = some o → H' b = some o) → H l = none → Pairs H' ps' L' → L'.Perm L → Asc L' → H' l = some (.lst (ps'.map V.ref)) → Q (.ref l) H'
theorem cr_sortItems (hc : X.calm = true) (hu : X.A.units + 2 < cLine) : CallR X (.builtin "sorted") rSortI := by
  intro pins s σ H vs us Q I r h
  obtain ⟨p, d, L, rfl, hp, hd, q⟩ := h
  obtain rfl := Vals.ref1 r
  have view : s.heap.IsItemsView p d := (show ObjOk X.prog X.w H s.heap p (L2.DX.itemsO p d) from I.hok p _ hp).1
  obtain ⟨hs, es, ep, raw, hsz, hz, hn, ent⟩ := ent_enc I hd
  refine DT.sortedI (es := es) (ep := ep) (I.ok.hd hc) view raw (by omega) fun h' tk as hk hlt hl hG => ?_
  have hlist : (h'.push { cls := .type "list", data := .seq (as.map Value.ref).toArray }).get? h'.objs.size = some (PyProof.Rows.seqObj "list" (as.map Value.ref).toArray 0) := Heap.get?_push_size _ rfl
  have old : ∀ b o, h'.get? b = some o → b ≠ h'.objs.size ∧ (h'.push { cls := .type "list", data := .seq (as.map Value.ref).toArray }).get? b = some o := fun b o e => ⟨Nat.ne_of_lt (Heap.lt_size e), Heap.get?_push_of_some _ e⟩
  generalize h'.push { cls := .type "list", data := .seq (as.map Value.ref).toArray } = h2 at hlist old ⊢
  -- what the pairs are, at h2
  have isp : ∀ (j : Nat) (a : Addr), as[j]? = some a → ∃ x, L[j]? = some x ∧ IsPr h2 (.ref a) x := fun j a hj => by
    have hlt : j < L.length := by have := (List.getElem?_eq_some_iff.mp hj).1; omega
    obtain ⟨e, he, hg⟩ := hG.pairs j a hj
    obtain ⟨en, kq, e1, e2, e3, tk', e4⟩ := ent j L[j] (List.getElem?_eq_getElem hlt)
    rw [he] at e1
    cases e1
    obtain ⟨its, rv, pq, _⟩ := I.tuple (.inl (.inl e3))
    refine ⟨L[j], List.getElem?_eq_getElem hlt, a, kq, its.toArray, tk', rfl, ⟨_, (old _ _ hg).2, rfl, 0, ?_⟩, ?_, rv.ints⟩
    · have e2' : e.key = Value.ref kq := e2
      rw [e2', e4]
    · obtain ⟨o, ho, r⟩ := (show IsTup s.heap kq its.toArray from pq)
      exact ⟨o, (old _ _ (hk _ _ ho)).2, r⟩
  have isv : ∀ v ∈ as.map Value.ref, ∃ (j : Nat) (a : Addr) (x : List Int × Int), v = .ref a ∧ as[j]? = some a ∧ L[j]? = some x ∧ IsPr h2 v x := fun v hv => by
    obtain ⟨a, ha, rfl⟩ := List.mem_map.mp hv
    obtain ⟨j, hj⟩ := List.mem_iff_getElem?.mp ha
    obtain ⟨x, hx, px⟩ := isp j a hj
    exact ⟨j, a, x, rfl, hj, hx, px⟩
  have hzv : (as.map Value.ref).length ≤ sizeLine := by rw [List.length_map]; omega
  refine wpAny_call_entry PyProof.Rows.slot_list_sort ⟨_, hlist, rfl⟩ PyProof.Rows.entry_list_sort
    (SrtO.list_sort_ord (s := { s with heap := h2, toks := tk }) (swo_pr (prAt h2)) hlist hzv (fun h2' => pr_sortable (s := { s with heap := h2, toks := tk }) (by omega) (by show X.A.units + 1 + 1 < cLine; omega) (fun v hv => ?_) (fun v hv u hu e => ?_) fun o e => ?_) fun out o1 o2 => ⟨.none, rfl, ?_⟩) (PyProof.Rows.args_list_sort _)
  · obtain ⟨j, a, x, _, _, _, px⟩ := isv v hv
    rw [prAt_eq px]
    exact px
  · obtain ⟨j, a, x, _, _, hx, px⟩ := isv v hv
    obtain ⟨j', a', y, _, _, hy, py⟩ := isv u hu
    rw [prAt_eq px, prAt_eq py] at e ⊢
    rw [nodup_at hn (List.mem_of_getElem? hx) (List.mem_of_getElem? hy) e]
  · have e' : some o = some (PyProof.Rows.seqObj "list" (as.map Value.ref).toArray 0) := e.symm.trans hlist
    cases e'
    intro z
    exact absurd (Value.type.inj z) (by decide)
  · show EP X pins σ Q (.ref h'.objs.size) { s with heap := PyProof.Rows.sortedHeap h2 h'.objs.size (as.map Value.ref) out.toArray, toks := tk }
    obtain ⟨n, hF⟩ := PyProof.Rows.sortedHeap_at (vs := as.map Value.ref) (out := out.toArray) hlist
    have kF : ∀ b o, b ≠ h'.objs.size → h2.get? b = some o → (PyProof.Rows.sortedHeap h2 h'.objs.size (as.map Value.ref) out.toArray).get? b = some o := fun b o hb e => (PyProof.Rows.sortedHeap_old hb (Heap.lt_size e)).trans e
    have kN : ∀ b o, h'.get? b = some o → (PyProof.Rows.sortedHeap h2 h'.objs.size (as.map Value.ref) out.toArray).get? b = some o := fun b o e => kF b o (old b o e).1 (old b o e).2
    generalize PyProof.Rows.sortedHeap h2 h'.objs.size (as.map Value.ref) out.toArray = hE at hF kN ⊢
    have nl : H h'.objs.size = none := I.hok.fresh (Nat.le_of_lt hlt)
    obtain ⟨ps0, rfl⟩ : ∃ ps0 : List Addr, out = ps0.map Value.ref := ⟨out.map adO, ref_map fun v hv => let ⟨t, _, e⟩ := List.mem_map.mp (o2.perm.mem_iff.mp hv); ⟨t, e.symm⟩⟩
    have len0 : (ps0.map V.ref).length ≤ sizeLine := by
      have e := o2.perm.length_eq
      rw [List.length_map, List.length_map] at e
      rw [List.length_map]
      omega
    have I1 : Inv X pins σ (upd H h'.objs.size (.lst (ps0.map V.ref))) { s with heap := hE, toks := tk } := I.laid (t' := tk) (fun b o e => kN b o (hk b o e)) (Nat.le_of_lt hlt) ⟨len0, ps0.map Value.ref, n, of_nts ps0, hF⟩
    obtain ⟨H2, I2, g, P2⟩ := take_pairs (es := es) (L := L) (as := as) I I1 (fun b o e => by rw [upd_ne (ne_of_none e nl)]; exact e) (made_nodup hG) (by omega)
      (fun a ha => ⟨Nat.le_of_lt (hG.above a ha), by rw [upd_ne (Nat.ne_of_lt (hG.there ha))]; exact I.hok.fresh (Nat.le_of_lt (hG.above a ha))⟩) (fun j a hj => let ⟨e, e1, e2⟩ := hG.pairs j a hj; ⟨e, e1, kN _ _ e2⟩) ent
    have kfe : ∀ t ∈ as, prAt h2 (.ref t) = prOf H2 t := fun t ht => by
      obtain ⟨j, hj⟩ := List.mem_iff_getElem?.mp ht
      obtain ⟨x, hx, px⟩ := isp j t hj
      obtain ⟨y, hy, py⟩ := paired_get P2 hj
      rw [hx] at hy
      cases hy
      rw [prAt_eq px, prOf_eq py]
    obtain ⟨ps', epp, hperm, L', p1, p2, p3⟩ := sorted_back P2 hn kfe o1 o2
    have e0 : ps0 = ps' := by
      have q := congrArg (List.map adO) epp
      rw [ad_map, ad_map] at q
      exact q
    subst e0
    exact ⟨.ref h'.objs.size, H2, I2, rfl, q H2 _ ps0 L' (fun b o e => g b o (by rw [upd_ne (ne_of_none e nl)]; exact e)) nl p1 p2 p3 (g _ _ upd_same)⟩
end
end Dw
/-! Tuples whose object is known to have no dict of its own; dict(..) of a tuple or a list of pairs. -/
namespace Dw
open PySem PySem.Spec PyProof.Rows L2

/-- at a: a tuple of these, its object without a dict of its own -/
def TupF (H : Hp) (a : Addr) (xs : List V) : Prop := ∃ o, H a = some (.frz o (.tup xs)) ∧ o.dict = none
theorem TupF.sq {K : PySem.W.Frag} {H : Hp} {a : Addr} {xs : List V} (h : TupF H a xs) : SqT K H a xs := let ⟨o, e, _⟩ := h; .inl (.inr ⟨o, e⟩)
section
variable {X : Cx}
/-- tuple(l) -/
def rTupF (K : PySem.W.Frag) : List V → Hp → VK → Prop := fun xs H Q => ∃ p ys, xs = [.ref p] ∧ SqL K H p ys ∧ ∀ l o, H l = none → o.dict = none → Q (.ref l) (upd H l (.frz o (.tup ys)))
theorem cr_tupF : CallR X (.type "tuple") (rTupF X.K) := by
  intro pins s σ H xs us Q I r h
  obtain ⟨p, ys, rfl, hq, q⟩ := h
  obtain rfl := Vals.ref1 r
  obtain ⟨its, r', pl, hz⟩ := I.list hq
  have hlen := r'.length
  refine call_tuple_list pl.isList (fun h' kp => ?_) (by simp only [List.size_toArray]; omega)
  have I1 : Inv X pins σ H { s with heap := h' } := I.kept (t' := s.toks) kp
  have I2 : Inv X pins σ (upd H h'.objs.size (.frz { cls := .type "tuple", data := .seq its.toArray } (.tup ys))) { s with heap := h'.push { cls := .type "tuple", data := .seq its.toArray } } :=
    I1.laid (t' := s.toks) (fun b o e => Heap.get?_push_of_some _ e) (Nat.le_refl _) ⟨Heap.get?_push_size _ rfl, hz, its, r', IsTup.new _ _⟩
  exact ⟨.ref h'.objs.size, _, I2, rfl, q _ _ (I1.hok.fresh (Nat.le_refl _)) rfl⟩
/-- () -/
def tUnit : TE := fun _ H Q => ∀ p o, H p = none → o.dict = none → Q (.ref p) (upd H p (.frz o (.tup [])))
theorem pe_unit {k : Nat} {pos : Pos} : PE X (.Tuple [] k pos) tUnit := by
  refine ⟨fun pins s σ H Q I hq => ?_⟩
  refine wpAny_Tuple_spliced (thn ((pa_nil (X := X)).run pos pins s σ H (fun vs H1 => vs = [] ∧ H1 = H) I ⟨rfl, rfl⟩) fun us s1 ⟨xs, H1, I1, r, e1, e2⟩ => ?_)
  subst e1 e2
  cases r
  refine ⟨Nat.zero_le _, .ref s1.heap.objs.size, upd H1 s1.heap.objs.size (.frz { cls := .type "tuple", data := .seq #[] } (.tup [])), I1.laid (t' := s1.toks) (fun b u e => Heap.get?_push_of_some _ e) (Nat.le_refl _) ?_, rfl, hq _ _ (I1.hok.fresh (Nat.le_refl _)) rfl⟩
  exact ⟨Heap.get?_push_size _ rfl, Nat.zero_le _, [], .nil, ⟨_, Heap.get?_push_size _ rfl, rfl, _, rfl⟩⟩

/-! ### dict(x) -/
theorem stored_fresh {K : Type} [DecidableEq K] {xs : List (K × Addr × Value)} {k : K} {a : Addr} {v : Value} (h : ∀ x ∈ xs, x.1 ≠ k) : storedH xs k a v = xs ++ [(k, a, v)] := by
  unfold storedH
  have e : atKey xs k = none := by
    unfold atKey
    rw [Option.map_eq_none_iff, List.find?_eq_none]
    intro x hx
    simpa using h x hx
  rw [e]
  rfl
theorem stored_all {K : Type} [DecidableEq K] : ∀ (ps xs : List (K × Addr × Value)), ((xs ++ ps).map (·.1)).Nodup → storedAllH xs ps = xs ++ ps
  | [], xs, _ => (List.append_nil xs).symm
  | p :: ps, xs, h => by
    have hx : ∀ x ∈ xs, x.1 ≠ p.1 := fun x hx e => by
      rw [List.map_append, List.map_cons] at h
      exact (List.nodup_append.mp h).2.2 _ (List.mem_map.mpr ⟨x, hx, rfl⟩) _ List.mem_cons_self e
    show storedAllH (storedH xs p.1 p.2.1 p.2.2) ps = xs ++ p :: ps
    rw [stored_fresh hx, stored_all ps (xs ++ [(p.1, p.2.1, p.2.2)]) (by rw [List.append_assoc]; exact h), List.append_assoc]
    rfl
/-- a tuple or a list of pairs, no two with the same tuple -/
def rDictT : List V → Hp → VK → Prop := fun vs H Q => ∃ (a : Addr) (ps : List Addr) (L : List (List Int × Int)), vs = [.ref a] ∧ (TupF H a (ps.map V.ref) ∨ H a = some (.lst (ps.map V.ref))) ∧ Pairs H ps L ∧ (L.map (·.1)).Nodup ∧
  ∀ d, H d = none → Q (.ref d) (upd H d (.dT (enc L)))
theorem dict_pairs {T : String} {pins : List (Addr × Obj)} {σ : L2.St} {H : Hp} {s : Shared} {Q : VK} {a : Addr} {ps : List Addr} {L : List (List Int × Int)} {items : Array Value} (hc : X.calm = true) (hu : X.A.units + 2 < cLine) (I : Inv X pins σ H s)
    (arg : ∀ (Ts : Nat → Addr) (zs : List (Value × Value)), PairArg X.prog X.w T a (a :: (List.range zs.length).map Ts) [] zs.length (PairRel zs) (fun h => PlainSeq T h a items ∧ PairItems h items Ts zs))
    (hpl : PlainSeq T s.heap a items) (hit : items.toList = ps.map Value.ref) (hP : Pairs H ps L) (hn : (L.map (·.1)).Nodup) (hz : ps.length ≤ sizeLine) (q : ∀ d, H d = none → Q (.ref d) (upd H d (.dT (enc L)))) :
    wpAny (model X.prog X.w) X.A (call (.type "dict") [.ref a]) (EP X pins σ Q) X.xe s := by
  -- what stands at each pair
  have len : ps.length = L.length := Paired.length hP
  have ex : ∃ qs : List (Addr × Tok), qs.length = L.length ∧ ∀ (j : Nat) (t : Addr) (x : List Int × Int) (z : Addr × Tok), ps[j]? = some t → L[j]? = some x → qs[j]? = some z → H z.1 = some (.tup (x.1.map V.int)) ∧ s.heap.IsTuple t #[.ref z.1, .int x.2 z.2] := by
    clear hn q hit hpl arg len hz
    induction hP with
    | nil => exact ⟨[], rfl, fun j t x z h => by simp at h⟩
    | @cons t x ps L h _ ih =>
      obtain ⟨qs, e1, e2⟩ := ih
      obtain ⟨kq, h1, h2⟩ := h
      obtain ⟨its, rv, p, _⟩ := I.tuple (.inl (.inl h1))
      obtain ⟨u1, u2, rfl, r1, tk, rfl⟩ := vals2 rv
      obtain rfl : u1 = Value.ref kq := r1
      refine ⟨(kq, tk) :: qs, by rw [List.length_cons, List.length_cons, e1], fun j t' x' z a1 a2 a3 => ?_⟩
      cases j with
      | zero =>
        cases a1
        cases a2
        cases a3
        exact ⟨h2, p⟩
      | succ j => exact e2 j t' x' z (by simpa using a1) (by simpa using a2) (by simpa using a3)
  obtain ⟨qs, lq, hq⟩ := ex
  -- the entries that will stand in the dict
  generalize hys : (L.zip qs).map (fun p => ((ik p.1.1, p.2.1, Value.int p.1.2 p.2.2) : List Key × Addr × Value)) = ys
  have ly : ys.length = L.length := by rw [← hys, List.length_map, List.length_zip, lq, Nat.min_self]
  have yat : ∀ (j : Nat) (y : List Key × Addr × Value), ys[j]? = some y → ∃ x z, L[j]? = some x ∧ qs[j]? = some z ∧ y = (ik x.1, z.1, Value.int x.2 z.2) := fun j y e => by
    rw [← hys, List.getElem?_map] at e
    obtain ⟨⟨x, z⟩, e1, e2⟩ := Option.map_eq_some_iff.mp e
    obtain ⟨e3, e4⟩ := List.getElem?_zip_eq_some.mp e1
    exact ⟨x, z, e3, e4, e2.symm⟩
  have keys : ys.map (·.1) = (L.map (·.1)).map ik := by
    refine List.ext_getElem? fun j => ?_
    rw [List.getElem?_map, List.getElem?_map, List.getElem?_map]
    cases e : ys[j]? with
    | none =>
      have h1 : L[j]? = none := List.getElem?_eq_none_iff.mpr (by have := List.getElem?_eq_none_iff.mp e; omega)
      rw [h1]
      rfl
    | some y =>
      obtain ⟨x, z, e1, _, e3⟩ := yat j y e
      rw [e1, e3]
      rfl
  have nd : (ys.map (·.1)).Nodup := by
    rw [keys]
    exact List.pairwise_map.mpr (hn.imp fun {a b} ne z => ne (ik_inj z))
  have rel : KT H (enc L) ys := by
    have at_ : ∀ (j : Nat) (x : List Int × Int) (y : List Key × Addr × Value), L[j]? = some x → ys[j]? = some y → ik x.1 = y.1 ∧ H y.2.1 = some (.tup ((ik x.1).map kV)) ∧ RelV (.int x.2) y.2.2 := fun j x y e1 e2 => by
      obtain ⟨x', z, e3, e4, e5⟩ := yat j y e2
      rw [e1] at e3
      cases e3
      have hp : ∃ t, ps[j]? = some t := ⟨ps[j]'(by rw [len]; exact (List.getElem?_eq_some_iff.mp e1).1), List.getElem?_eq_getElem _⟩
      obtain ⟨t, ht⟩ := hp
      obtain ⟨g1, g2⟩ := hq j t x z ht e1 e4
      rw [e5]
      exact ⟨rfl, by rw [ik_V]; exact g1, z.2, rfl⟩
    clear yat keys nd hys hq lq hP hn q hit hpl len hz arg
    unfold enc
    induction L generalizing ys with
    | nil =>
      obtain rfl : ys = [] := List.eq_nil_of_length_eq_zero ly
      exact .nil
    | cons x L ih =>
      match ys, ly with
      | y :: ys, ly =>
        rw [List.map_cons]
        refine .cons (at_ 0 x y rfl rfl) (ih ys (by simpa using ly) fun j x' y' h1 h2 => at_ (j + 1) x' y' (by simpa using h1) (by simpa using h2))
  have ok : PlainSeq T s.heap a items ∧ PairItems s.heap items (fun j => ps.getD j 0) (ys.map fun y => (Value.ref y.2.1, y.2.2)) := by
    have li : items.size = ps.length := by rw [← Array.length_toList, hit, List.length_map]
    refine ⟨hpl, by rw [List.length_map]; omega, fun j k v e => ?_⟩
    rw [List.getElem?_map] at e
    obtain ⟨y, e1, e2⟩ := Option.map_eq_some_iff.mp e
    obtain ⟨x, z, e3, e4, e5⟩ := yat j y e1
    have hlt : j < ps.length := by rw [len]; exact (List.getElem?_eq_some_iff.mp e3).1
    have hp : ps[j]? = some ps[j] := List.getElem?_eq_getElem hlt
    obtain ⟨g1, g2⟩ := hq j ps[j] x z hp e3 e4
    have eD : ps.getD j 0 = ps[j] := by rw [List.getD_eq_getElem?_getD, hp]; rfl
    rw [e5] at e2
    injection e2 with k1 k2
    subst k1 k2
    dsimp only
    rw [eD]
    refine ⟨?_, .inl g2⟩
    rw [← Array.getElem?_toList, hit, List.getElem?_map, hp]
    rfl
  have key : ∀ (h' : Heap), (∀ b o, s.heap.get? b = some o → h'.get? b = some o) → ∀ x ∈ ys, (tupleKind (mixKind X.prog X.w)).is h' x.1 x.2.1 := fun h' hk x hx => by
    obtain ⟨j, hj⟩ := List.mem_iff_getElem?.mp hx
    obtain ⟨x', z, e3, e4, e5⟩ := yat j x hj
    have hp : ps[j]? = some (ps[j]'(by rw [len]; exact (List.getElem?_eq_some_iff.mp e3).1)) := List.getElem?_eq_getElem _
    obtain ⟨g1, g2⟩ := hq j _ x' z hp e3 e4
    rw [e5]
    exact tupleKind_stays.stays (fun b o vs n e _ => hk b o e) (key_of I.hok (show H z.1 = some (.tup ((ik x'.1).map kV)) by rw [ik_V]; exact g1))
  refine call_dict_pairsH (knd := tupleKind (mixKind X.prog X.w)) (ps := ys) (arg _ _) (I.ok.hd hc) (show X.A.units + 1 + 1 < cLine from hu) ok ⟨(List.length_map ..).symm, fun i k v e => ?_⟩
    (fun h' hk x hx => key h' (fun b o e => hk b o (Nat.ne_of_lt (Heap.lt_size e)) (fun z => nomatch z) e) x hx) (by rw [List.length_map, ly, ← len]; exact hz) fun h' tk dd kp => ?_
  · have e' : (ys.map fun y => (Value.ref y.2.1, y.2.2))[i]? = some (k, v) := e
    rw [List.getElem?_map] at e'
    obtain ⟨y, e1, e2⟩ := Option.map_eq_some_iff.mp e'
    injection e2 with k1 k2
    subst k1 k2
    exact ⟨y.1, y.2.1, e1, rfl⟩
  · have kp' : ∀ b o, s.heap.get? b = some o → h'.get? b = some o := fun b o e => kp b o (fun z => nomatch z) e
    rw [stored_all ys [] (by rw [List.nil_append]; exact nd), List.nil_append] at dd
    obtain ⟨o, es, ep, h1, h2, h3, h4, _, h5⟩ := dd
    have hf : H s.heap.objs.size = none := I.hok.fresh (Nat.le_refl _)
    have len2 : (enc L).length ≤ sizeLine := by unfold enc; rw [List.length_map, ← len]; exact hz
    refine ⟨.ref s.heap.objs.size, upd H s.heap.objs.size (.dT (enc L)), I.laid (t' := tk) kp' (Nat.le_refl _) ⟨len2, beq_eq_false_iff_ne.mpr (Nat.ne_of_gt I.big), ys, ?_, o, es, ep, h1, h2, h3, h4, h5⟩, rfl, q _ hf⟩
    exact rel.keeps fun b zs e => by rw [upd_ne (ne_of_none e hf)]; exact e
theorem cr_dictT (hc : X.calm = true) (hu : X.A.units + 2 < cLine) : CallR X (.type "dict") rDictT := by
  intro pins s σ H vs us Q I r h
  obtain ⟨a, ps, L, rfl, ha, hP, hn, q⟩ := h
  obtain rfl := Vals.ref1 r
  rcases ha with ⟨o, e, hd⟩ | e
  · obtain ⟨ho, hz, its, rv, o', ho', hcls, n, hdat⟩ := I.hok a _ e
    rw [ho] at ho'
    cases ho'
    obtain rfl := nts_of rv
    rw [List.length_map] at hz
    exact dict_pairs hc hu I (fun Ts zs => PairArg.tuple a _ Ts zs) ⟨o, n, ho, hcls, hd, hdat⟩ rfl hP hn hz q
  · obtain ⟨hz, its, n, rv, ho⟩ := I.hok a _ e
    obtain rfl := nts_of rv
    rw [List.length_map] at hz
    exact dict_pairs hc hu I (fun Ts zs => PairArg.list a _ Ts zs) ⟨_, n, ho, rfl, rfl, rfl⟩ rfl hP hn hz q
end
end Dw
/-! d != {}, d.pop(k), zip(tuple, list), t * 1. -/
namespace Dw
open PySem PySem.Spec PyProof.Rows L2

/-! ### d != {} -/
section
variable {prog : Program} {w : World} {A : Around} {E : Value → Shared → Prop} {s : Shared}
theorem ne_empty {a b : Addr} {es : Array DictEntry} {ep ep' : Nat} {Q : Value → Shared → Prop} (ha : (a == sysModules) = false) (hb : (b == sysModules) = false) (ra : DT.Raw s.heap a es ep) (rb : DT.Raw s.heap b #[] ep') (hu : A.units < cLine)
    (h : Q (.bool (!es.isEmpty)) s) : wpAny (model prog w) A (compareOp .NotEq (.ref a) (.ref b)) Q E s := by
  obtain ⟨oa, hoa, hxa, hda⟩ := id ra
  obtain ⟨ob, hob, hxb, hdb⟩ := id rb
  refine wpAny_richCompare_same_room (op := .NotEq) ra.typeIs rb.typeIs PySem.F.slot_dict_ne (wpAny_call_entry PySem.F.slot_dict_ne ra.typeIs PySem.F.entry_dict_ne ?_ (PySem.F.args_dict_ne_2 _ _)) hu
  show wpAny _ _ (Builtin.Dict.dictSlotArgs "__ne__" ⟨[.ref a, .ref b], []⟩ >>= _) _ _ s
  refine wpAny_bind ?_
  unfold Builtin.Dict.dictSlotArgs
  refine wpAny_bind (wpAny_notOrdered_dict ra.typeIs ?_)
  show wpAny _ _ (pure (Value.ref a, Value.ref b)) _ _ s
  refine wpAny_pure (wpAny_bind (wpAny_isInstance (T := "dict") rb.typeIs PySem.F.sub_dict_dict ?_))
  simp only [Bool.not_true, Bool.false_eq_true, if_false]
  refine wpAny_bind (wpAny_pure (wpAny_bind (wpAny_pure ?_)))
  have same : wpAny (model prog w) A.in1 (Builtin.Dict.samePairs "dict.__ne__" a b) (fun r s' => r = es.isEmpty ∧ s' = s) E s := by
    unfold Builtin.Dict.samePairs
    have sa : ∀ {x : Addr} {Q : Unit → Shared → Prop}, (x == sysModules) = false → Q () s → wpAny (model prog w) A.in1 (Builtin.Dict.showsAll x) Q E s := fun {x Q} hx hq => by
      unfold Builtin.Dict.showsAll
      rw [if_neg (by rw [hx]; exact Bool.false_ne_true)]
      exact wpAny_pure hq
    refine wpAny_bind (sa ha (wpAny_bind (sa hb ?_)))
    refine wpAny_bind (wpAny_dictEntries hoa hda (wpAny_bind (wpAny_dictEntries hob hdb ?_)))
    by_cases c : es.size = 0
    · have e0 : es = #[] := Array.eq_empty_of_size_eq_zero c
      subst e0
      rw [if_neg (by simp)]
      refine wpAny_bind (wpAny_dictEpoch hoa hda ?_)
      simp only [Std.Legacy.Range.forIn_eq_forIn_range', Std.Legacy.Range.size, Array.size_empty]
      exact wpAny_bind (wpAny_pure (wpAny_pure ⟨rfl, rfl⟩))
    · rw [if_pos (by simpa using c)]
      exact wpAny_bind (wpAny_rule (wpAny_pure ⟨by simp [Array.isEmpty, c], rfl⟩))
  refine wpAny_bind (wpAny_mono same (fun r s' ⟨e1, e2⟩ => ?_) fun _ _ x => x)
  subst e1 e2
  refine wpAny_pure ⟨_, rfl, (fun z => nomatch z), ?_⟩
  have e : ((es.isEmpty == false) : Bool) = !es.isEmpty := by cases es.isEmpty <;> rfl
  rw [e]
  exact h
end
section
variable {X : Cx}
/-- d != e, e an empty dict -/
def rNeE : R2 := fun x y H Q => ∃ a b kvs, x = .ref a ∧ y = .ref b ∧ H a = some (.dT kvs) ∧ H b = some (.dT []) ∧ Q (.bl (!kvs.isEmpty)) H
theorem op_neE (hu : X.A.units < cLine) : OpR X (compareOp .NotEq) rNeE := by
  intro pins s σ H x y v u Q I rx ry h
  obtain ⟨a, b, kvs, rfl, rfl, ea, eb, q⟩ := h
  obtain rfl : v = Value.ref a := rx
  obtain rfl : u = Value.ref b := ry
  obtain ⟨z, hs, xs, rel, o, es, ep, ho, hx, hdt, he, _⟩ := I.hok a _ ea
  obtain ⟨z', hs', xs', rel', o', es', ep', ho', hx', hdt', he', _⟩ := I.hok b _ eb
  cases rel'
  have l2 : es.size = xs.length := size_of_entries he
  have l3 : kvs.length = xs.length := Paired.length rel
  have e0 : es' = #[] := by
    have : es'.size = 0 := size_of_entries he'
    exact Array.eq_empty_of_size_eq_zero this
  subst e0
  have em : es.isEmpty = kvs.isEmpty := by
    rw [Array.isEmpty, l2, ← l3]
    cases kvs <;> simp
  refine ne_empty hs hs' ⟨o, ho, hx, hdt⟩ ⟨o', ho', hx', hdt'⟩ hu ?_
  rw [em]
  exact ⟨.bl _, H, I, rfl, q⟩
end

/-! ### d.pop(k), k there -/
section
variable {K : Type} [DecidableEq K] {prog : Program} {w : World} {knd : HeapKind prog w K}
theorem meets_pop1 {d b : Addr} {k : K} (hd : (d == sysModules) = false) :
    MeetsIn prog w (Builtin.«dict.pop» ⟨[.ref d, .ref b], []⟩) (fun A R s => ∃ xs p, knd.room A.in1 ∧ knd.is s.heap k b ∧ s.heap.DictOfH knd d xs ∧ xs.length ≤ sizeLine ∧ atKey xs k = some p ∧
      ∀ h' tk, h'.DictOfH knd d (DT.dropH xs k) → Heap.SameBut d s.heap h' → R (.ok (.ret p.2)) { s with heap := h', toks := tk }) :=
  .of_wp fun A R s ⟨xs, p, hu, hkey, hm, hsz, hp, hr⟩ => by
    obtain ⟨o, es, ep, ho, hc, hdat, he, his, hn⟩ := id hm
    have hpart : (keyPart (Value.ref b)).isSome = false := rfl
    unfold Builtin.«dict.pop»
    refine wpAny_bind ?_
    unfold Builtin.Dict.keyAndDefault
    refine wpAny_bind (wpAny_notOrdered_dict hm.typeIs ?_)
    show wpAny _ _ (pure (d, Value.ref b, none)) _ _ s
    refine wpAny_pure ?_
    simp only [hpart, Bool.false_eq_true, if_false]
    refine wpAny_bind (wpAny_dictEntries ho hdat (wpAny_bind (wpAny_pure ?_)))
    have nem : es.isEmpty = false := by
      have l2 : es.size = xs.length := size_of_entries he
      have ne : xs ≠ [] := fun z => by rw [z] at hp; cases hp
      have := List.length_pos_iff.mpr ne
      rw [Array.isEmpty, decide_eq_false (by omega)]
    rw [nem]
    simp only [Bool.false_eq_true, if_false]
    refine wpAny_bind (DT.takeH hu hkey hm hsz (fun hno => ?_) fun p' e hp' hev h' hm' hs' => ?_)
    · rw [hp] at hno
      cases hno
    · rw [hp] at hp'
      cases hp'
      simp only [Option.isNone_some, Bool.false_eq_true, if_false]
      exact wpAny_bind (wpAny_letGo (wpAny_pure ⟨e.val, rfl, by rw [hev]; exact hr h' _ hm' hs'⟩))
end
section
variable {X : Cx}
def rPop1 : V → List V → Hp → VK → Prop := fun x xs H Q => ∃ (a : Addr) (kvs : List (List Key × V)) (k : List Key) (b : Addr) (v : V), x = .ref a ∧ xs = [.ref b] ∧ H a = some (.dT kvs) ∧ H b = some (.tup (k.map kV)) ∧
  valV kvs k = some v ∧ Q v (upd H a (.dT (dropK kvs k)))
theorem mt_pop1T (hu : X.A.units + 1 < cLine) : MtR X "dict.pop" rPop1 := by
  intro pins s σ H x xs v us Q I rx rxs h
  obtain ⟨a, kvs, k, b, v0, rfl, rfl, ha, hb, hv, q⟩ := h
  cases rx
  obtain ⟨u1, rfl, r1⟩ := vals1 rxs
  cases r1
  obtain ⟨z, hd, xs', rel, dd⟩ := dt_of I.hok ha
  have hz : xs'.length ≤ sizeLine := by rw [← Paired.length rel]; exact z
  have r := rel.val k
  rw [hv] at r
  obtain ⟨p, hp, rp⟩ : ∃ p, atKey xs' k = some p ∧ RelV v0 p.2 := by
    cases e : atKey xs' k with
    | none =>
      rw [e] at r
      exact (show False from r).elim
    | some p =>
      rw [e] at r
      exact ⟨p, rfl, r⟩
  refine call_meetsIn PySem.F.slot_dict_pop dd.typeIs PySem.F.entry_dict_pop (PySem.F.args_dict_pop_2 _ _) (meets_pop1 (knd := tupleKind (mixKind X.prog X.w)) (k := k) hd)
    ⟨xs', p, tupleKind_room_in1 hu, key_of I.hok hb, dd, hz, hp, fun h' tk dd' hs => ?_⟩
  obtain ⟨o, es, ep, hq, h2, h3, h4, _, h5⟩ := dd'
  have I2 : Inv X pins σ (upd H a (.dT (dropK kvs k))) { s with heap := h', toks := tk } :=
    d_write I (by rw [ha]; exact True.intro) hs ⟨o, hq⟩ ⟨Nat.le_trans (dropK_le kvs k) z, hd, _, (L2.DX.KT_drop k rel).keeps (fun c ys ec => (by rw [upd_ne (ne_of ec ha (fun z => nomatch z))]; exact ec)), o, es, ep, hq, h2, h3, h4, h5⟩
  exact ⟨v0, _, I2, rp, q⟩

/-! ### t * 1 -/
theorem tuple_mul1 (l : Addr) (items : Array Value) (n : Nat) (dd : Option Addr) (sl : Array (Option Value)) (u : Tok) :
    Meets (Builtin.«tuple.__mul__» ⟨[.ref l, .int 1 u], []⟩) (fun _ R s => s.heap.get? l = some { cls := .type "tuple", dict := dd, data := .seq items n, slots := sl } ∧ R (.ok (.ret (Value.ref l))) s) :=
  .of_wp fun prog w A R s h => by
    obtain ⟨hp, g, d, tk, os⟩ := s
    obtain ⟨hl, h⟩ := h
    have f1 := AutoSeq1.idx_int
    wp_walk using AutoSeq1.wpAny_loadPart' hl
    exact ⟨_, rfl, h⟩
/-- t * k, k from 1 on -/
def rRepA (K : PySem.W.Frag) : R2 := fun x y H Q => ∃ l k xs, x = .ref l ∧ y = .int k ∧ SqT K H l xs ∧ xs ≠ [] ∧ 1 ≤ k ∧ k ≤ 1000 ∧ xs.length ≤ 1000 ∧ (k = 1 → Q (.ref l) H) ∧ (2 ≤ k → ∀ p, H p = none → Q (.ref p) (upd H p (.tup (List.replicate k.toNat xs).flatten)))
theorem op_repA : OpR X (binaryOp .Mult) (rRepA X.K) := by
  intro pins s σ H x y v u Q I rx ry h
  obtain ⟨l, k, xs, rfl, rfl, hT, hne, h1, h2, hz, q1, q2⟩ := h
  by_cases c : k = 1
  · subst c
    cases rx
    obtain ⟨t, rfl⟩ := ry
    obtain ⟨its, r, ⟨⟨cls, dd, data, sl⟩, ho, hc, n, hd⟩, hs⟩ := I.tuple hT
    simp only at hc hd
    subst hc hd
    exact wpAny_binaryOp_repeat_ref (T := "tuple") (U := "int") (by decide) ⟨_, ho, rfl⟩ (fun s' => typeIs_int s' 1 t) noFill_tuple_mul F.fills_int_mul F.slot_int_rmul repeat_tuple F.slot_int_index.lookup
      (call_meets F.slot_int_rmul (typeIs_int s 1 t) F.entry_int_rmul (F.args_int_rmul_2 _ _) (int_rmul_tuple 1 t l its.toArray n dd sl)
        ⟨ho, rfl, ⟨_, ho, rfl⟩, call_meets F.slot_tuple_mul ⟨_, ho, rfl⟩ F.entry_tuple_mul (F.args_tuple_mul_2 _ _) (tuple_mul1 l its.toArray n dd sl t) ⟨ho, .ref l, H, I, rfl, q1 rfl⟩⟩)
  · exact op_repT pins s σ H _ _ v u Q I rx ry ⟨l, k, xs, rfl, rfl, hT, hne, by omega, h2, hz, q2 (by omega)⟩

/-! ### zip(tuple, list) -/
/-- the tuple at a, the list at b as they stand at each turn, the items in new pairs -/
def ItzM (K : PySem.W.Frag) (a b : Addr) : It :=
  ⟨fun i H => ∃ (xs ys : List V) (x y : V), SqT K H a xs ∧ SqL K H b ys ∧ xs[i]? = some x ∧ ys[i]? = some y,
    fun i H v H' => ∃ T x y, v = .ref T ∧ H T = none ∧ H' = upd H T (.tup [x, y]) ∧ (∀ xs, SqT K H a xs → xs[i]? = some x) ∧ ∀ ys, SqL K H b ys → ys[i]? = some y,
    fun i H => ∃ xs ys : List V, SqT K H a xs ∧ SqL K H b ys ∧ i = min xs.length ys.length⟩
theorem turn_zipM {P : Program} {w : World} {K : PySem.W.Frag} {elts : List Expr} {kk : Nat} {tpos : Pos} {a b z TI TO i1 i2 : Addr} (S : ZipSep2 z TI TO i1 i2 [i1, a] [i2, b]) (n1 : a ≠ i1) (n2 : b ≠ i2) :
    Turn P w K (.Tuple elts kk tpos) (ItzM K a b) [z, TI, TO, i1, i2] z (fun i h => IsZip h z TI TO .none ∧ IsTupOf2 h TI (.ref i1) (.ref i2) ∧ (∃ x y, IsTupOf2 h TO x y) ∧ h.IsTupleIter i1 a i ∧ h.IsListIter i2 b i) where
  mem := by simp
  obj := fun i h st c hc => by
    obtain ⟨hz, hTI, ⟨x, y, hTO⟩, ⟨o1, e1, _, d1⟩, ⟨o2, e2, _, d2⟩⟩ := st
    have e' : c = z ∨ c = TI ∨ c = TO ∨ c = i1 ∨ c = i2 := by simpa using hc
    rcases e' with q | q | q | q | q
    · rw [q]; exact ⟨_, hz, fun v q => nomatch q⟩
    · rw [q]; exact ⟨_, hTI, fun v q => nomatch q⟩
    · rw [q]; exact ⟨_, hTO, fun v q => nomatch q⟩
    · rw [q]; exact ⟨o1, e1, fun v q => by rw [d1] at q; cases q⟩
    · rw [q]; exact ⟨o2, e2, fun v q => by rw [d2] at q; cases q⟩
  keep := fun i h h' st k => by
    obtain ⟨hz, hTI, ⟨x, y, hTO⟩, h1, h2⟩ := st
    exact ⟨k z (by simp) _ hz, k TI (by simp) _ hTI, ⟨x, y, k TO (by simp) _ hTO⟩, h1.at fun o q => k i1 (by simp) o q, h2.at fun o q => k i2 (by simp) o q⟩
  item := by
    intro X hP hw hK hc i pins s σ H E I hf st hg
    subst hP hw hK
    obtain ⟨hz, hTI, hTO, h1, h2⟩ := st
    obtain ⟨xs, ys, x, y, hqx, hqy, hx, hy⟩ := hg
    obtain ⟨its, rv, p, _⟩ := I.tuple hqx
    obtain ⟨its2, rv2, p2, _⟩ := I.list hqy
    obtain ⟨u, hu, ru⟩ := rv.get hx
    obtain ⟨u2, hu2, ru2⟩ := rv2.get hy
    have hh : X.A.handled = none := I.ok.hd hc
    have Wk := WalksT.zipD2 (A := X.A) S (Draws.tuple (prog := X.prog) (w := X.w) (A := X.A.in1) hh i1 a n1 its.toArray) (Draws.list (prog := X.prog) (w := X.w) (A := X.A.in1) hh i2 b n2 its2.toArray)
    have l1 : i < its.toArray.size := by
      have := (List.getElem?_eq_some_iff.mp hu).1
      simpa using this
    have l2 : i < its2.toArray.size := by
      have := (List.getElem?_eq_some_iff.mp hu2).1
      simpa using this
    refine Wk.item i s _ _ (by omega) ⟨hz, hTI, hTO, ⟨h1, p⟩, h2, p2.isList⟩ fun T vals h' tk ⟨x1, x2, g1, g2, g3⟩ hsz hT mid kp => ?_
    subst g3
    have ex1 : u = x1 := by
      have z : its.toArray[i]? = some x1 := g1
      rw [List.getElem?_toArray, hu] at z
      exact Option.some.inj z
    have ex2 : u2 = x2 := by
      have z : its2.toArray[i]? = some x2 := g2
      rw [List.getElem?_toArray, hu2] at z
      exact Option.some.inj z
    subst ex1 ex2
    refine ⟨_, rfl, Wk.go elts kk tpos i T { s with heap := h', toks := tk } _ _ mid fun h'' st2 kp2 => ?_⟩
    have Tn := Wk.apart i T h' mid
    have hT2 : h''.IsTuple T #[u, u2] := hT.at fun o e => kp2 T o Tn e
    have hn : H T = none := I.hok.fresh hsz
    have nw : ObjOk X.prog X.w (upd H T (.tup [x, y])) h'' T (.tup [x, y]) := ⟨by show 2 ≤ sizeLine; decide, [u, u2], .cons ru (.cons ru2 .nil), hT2⟩
    have sub : ∀ c ∈ ([z, TO, i1, i2] : List Addr), c ∈ ([z, TI, TO, i1, i2] : List Addr) := fun c hc => by
      have e' : c = z ∨ c = TO ∨ c = i1 ∨ c = i2 := by simpa using hc
      rcases e' with q | q | q | q <;> simp [q]
    have I1 : Inv X pins σ (upd H T (.tup [x, y])) { s with heap := h'', toks := tk } :=
      I.turnedNew (ch := [z, TI, TO, i1, i2]) (fun c o hb e => kp2 c o (fun m => hb (sub c m)) (kp c o (fun m => hb (sub c m)) e)) hf hsz nw
    obtain ⟨z2, TI2, TO2, ⟨a1, _⟩, a2, _⟩ := st2
    refine ⟨.ref T, _, I1, rfl, ⟨T, x, y, rfl, hn, rfl, fun l hl => by rw [I.tuple_inj hl hqx]; exact hx, fun l hl => by rw [I.list_inj hl hqy]; exact hy⟩, ⟨z2, TI2, TO2, a1, a2⟩, fun c hcm => ?_⟩
    have hlt : c < s.heap.objs.size := by
      obtain ⟨x0, y0, hTO⟩ := hTO
      have e' : c = z ∨ c = TI ∨ c = TO ∨ c = i1 ∨ c = i2 := by simpa using hcm
      rcases e' with q | q | q | q | q
      · rw [q]; exact Heap.lt_size hz
      · rw [q]; exact Heap.lt_size hTI
      · rw [q]; exact Heap.lt_size hTO
      · rw [q]; obtain ⟨_, e1, _⟩ := h1; exact Heap.lt_size e1
      · rw [q]; obtain ⟨_, e2, _⟩ := h2; exact Heap.lt_size e2
    rw [upd_ne (Nat.ne_of_lt (Nat.lt_of_lt_of_le hlt hsz))]
    exact (hf c hcm).1
  done := by
    intro X hP hw hK hc i pins s σ H E I hf st hg
    subst hP hw hK
    obtain ⟨hz, hTI, hTO, h1, h2⟩ := st
    obtain ⟨xs, ys, hqx, hqy, hend⟩ := hg
    obtain ⟨its, rv, p, _⟩ := I.tuple hqx
    obtain ⟨its2, rv2, p2, _⟩ := I.list hqy
    have l1 := rv.length
    have l2 := rv2.length
    have hh : X.A.handled = none := I.ok.hd hc
    have Wk := WalksT.zipD2 (A := X.A) S (Draws.tuple (prog := X.prog) (w := X.w) (A := X.A.in1) hh i1 a n1 its.toArray) (Draws.list (prog := X.prog) (w := X.w) (A := X.A.in1) hh i2 b n2 its2.toArray)
    have ei : i = min its.toArray.size its2.toArray.size := by simp only [List.size_toArray]; omega
    subst ei
    refine Wk.done s _ _ ⟨hz, hTI, hTO, ⟨h1, p⟩, h2, p2.isList⟩ fun h' tk kp => ⟨rfl, I.turnedL (ch := [z, TI, TO, i1, i2]) (fun c o hb e => kp c o (fun m => hb ?_) e) hf⟩
    have e' : c = z ∨ c = TO ∨ c = i1 ∨ c = i2 := by simpa using m
    rcases e' with q | q | q | q <;> simp [q]
  self := fun A i s Q E st h => wpAny_pyIter_zip st.1 h
def iZipM (K : PySem.W.Frag) (ta : TA) : TI := fun σ H R => ta σ H fun vs H1 => ∃ a b xs ys, vs = [.ref a, .ref b] ∧ SqT K H1 a xs ∧ SqL K H1 b ys ∧ R (ItzM K a b) H1
theorem pi_zipM {e e2 : Expr} {ta : TA} {p pos tpos : Pos} {elts : List Expr} {kk : Nat} (hg : Gl X "zip") (hm : X.mg "zip" = none) (ha : PA X [e, e2] ta)
    (hs : starEach [e, e2] X.env = (false, eval e X.env) :: starEach [e2] X.env := by rfl) (hpl : (backTo pos (starEach [e2] X.env)).any (·.1) = false := by rfl) :
    PI X (.Tuple elts kk tpos) (.Call (.Name "zip" p) [e, e2] [] pos) (iZipM X.K ta) := by
  refine ⟨fun pins s σ H R I h => ?_⟩
  refine Call_ (ld_blt I hg hm PyProof.Rows.boot_zip (PyProof.Rows.callWith_type1 (thn (ha.run pos pins s σ H _ I h) fun us s1 ⟨vs, H1, I1, r1, a, b, xs, ys, ex, hqx, hqy, q⟩ => ?_) hs hpl))
  subst ex
  obtain ⟨u1, u2, rfl, ra, rb⟩ := vals2 r1
  obtain rfl : u1 = Value.ref a := ra
  obtain rfl : u2 = Value.ref b := rb
  obtain ⟨its, rv, p1, _⟩ := I1.tuple hqx
  obtain ⟨its2, rv2, p2, _⟩ := I1.list hqy
  have la : a < s1.heap.objs.size := p1.lt
  have lb : b < s1.heap.objs.size := p2.lt
  refine zip_begins2 (begins_tuple a its.toArray) (begins_list b its2.toArray) p1 p2.isList fun h' hz hTI hTO h1 h2 hsz kp => wpAny_pyIter_zip hz ?_
  have I2 : Inv X pins σ H1 { s1 with heap := h' } := I1.kept (t' := s1.toks) kp
  have S := zip_sep2 (N := s1.heap.objs.size) (fp1 := [a]) (fp2 := [b]) (fun c hc => by rw [List.mem_singleton.mp hc]; exact la) (fun c hc => by rw [List.mem_singleton.mp hc]; exact lb)
  refine ⟨s1.heap.objs.size + 4, [s1.heap.objs.size + 4, s1.heap.objs.size + 2, s1.heap.objs.size + 3, s1.heap.objs.size, s1.heap.objs.size + 1], _, _, H1, rfl, I2,
    turn_zipM S (Nat.ne_of_lt la) (Nat.ne_of_lt (Nat.lt_succ_of_lt lb)), ⟨hz, hTI, ⟨_, _, hTO⟩, ⟨_, h1, rfl, rfl⟩, ⟨_, h2, rfl, rfl⟩⟩, fun c hcm => ?_, q⟩
  have e' : c = s1.heap.objs.size + 4 ∨ c = s1.heap.objs.size + 2 ∨ c = s1.heap.objs.size + 3 ∨ c = s1.heap.objs.size ∨ c = s1.heap.objs.size + 1 := by simpa using hcm
  have hle : s1.heap.objs.size ≤ c := by
    rcases e' with z | z | z | z | z <;> rw [z] <;> first | exact Nat.le_refl _ | exact Nat.le_add_right _ _
  exact I1.fpOk hle (I1.hok.fresh hle)
theorem walk_zipM {K : PySem.W.Frag} {a b : Addr} {xs ys : List V} {n : Nat} (hn : n = min xs.length ys.length) : Walk (ItzM K a b) n (fun H => SqT K H a xs ∧ SqL K H b ys) (YPair (fun i => xs[i]?) (fun i => ys[i]?)) where
  goes := fun i H hi ⟨q1, q2⟩ => ⟨xs, ys, xs[i]'(by omega), ys[i]'(by omega), q1, q2, List.getElem?_eq_getElem _, List.getElem?_eq_getElem _⟩
  stops := fun H ⟨q1, q2⟩ => ⟨xs, ys, q1, q2, hn⟩
  yields := fun i H x H' _ ⟨q1, q2⟩ ⟨T, x', y', e1, e2, e3, f1, f2⟩ => ⟨T, x', y', e1, e2, e3, f1 xs q1, f2 ys q2⟩
/-- zip of two tuples -/
theorem walk_zipT {K : PySem.W.Frag} {a b : Addr} {xs ys : List V} {n : Nat} (hn : n = min xs.length ys.length) : Walk (RZ.ItzT K a b) n (fun H => SqT K H a xs ∧ SqT K H b ys) (YPair (fun i => xs[i]?) (fun i => ys[i]?)) where
  goes := fun i H hi ⟨q1, q2⟩ => ⟨xs, ys, xs[i]'(by omega), ys[i]'(by omega), q1, q2, List.getElem?_eq_getElem _, List.getElem?_eq_getElem _⟩
  stops := fun H ⟨q1, q2⟩ => ⟨xs, ys, q1, q2, by omega⟩
  yields := fun i H x H' _ ⟨q1, q2⟩ ⟨T, x', y', e1, e2, e3, f1, f2⟩ => ⟨T, x', y', e1, e2, e3, f1 xs q1, f2 ys q2⟩
end
end Dw
/-! A list comprehension over a tuple, its target a tuple of names, while an error is handled; an own error without arguments. -/
namespace Dw
open PySem PySem.Spec PyProof.Rows L2 HotX

section
variable {prog : Program} {w : World} {A : Around} {E : Value → Shared → Prop} {s : Shared}
theorem tuple_end_hot {it t x1 : Addr} {i : Nat} {items : Array Value} {Q : Option Value → Shared → Prop} (hot : HotAt A x1 s.heap) (hit : s.heap.IsTupleIter it t i) (ht : s.heap.IsTuple t items) (hx : items[i]? = none) (hne : x1 ≠ it)
    (hQ : ∀ h', (∀ b o, b ≠ it → s.heap.get? b = some o → h'.get? b = some o) → Q none { s with heap := h' }) : wpAny (model prog w) A (pyNext (.ref it)) Q E s := by
  obtain ⟨o, ho, hc, hd⟩ := id hit
  obtain ⟨ol, hol, _, nl, hdl⟩ := ht
  obtain ⟨hh, o1, vs1, h1, d1, c1⟩ := hot
  unfold pyNext
  refine wpAny_bind (wpAny_attempt (wpAny_callSpecial?_slot (name := Str.ofString "__next__") hit.typeIs F.slot_tuple_iterator_next
    (wpAny_call_entry F.slot_tuple_iterator_next hit.typeIs F.entry_tuple_iterator_next ?_ (F.args_tuple_iterator_next_1 _))))
  show wpAny _ _ (field (.ref it) 0 >>= _) _ _ s
  refine wpAny_bind (wpAny_field ho hd (x := .ref t) rfl ?_)
  show wpAny _ _ (if (Value.ref t == Value.none) = true then _ else _) _ _ s
  rw [if_neg (show ¬ ((Value.ref t == Value.none) = true) from Bool.false_ne_true)]
  show wpAny _ _ (field (.ref it) 1 >>= _) _ _ s
  refine wpAny_bind (wpAny_field ho hd (x := .int i 0) rfl ?_)
  show wpAny _ _ (seqItems? (.ref t) >>= _) _ _ s
  refine wpAny_bind (wpAny_seqItems hol hdl ?_)
  simp only [Int.toNat_natCast, hx]
  refine wpAny_bind (wpAny_rule (wpAny_bind (wpAny_setField ho hd (by simp) ?_)))
  generalize hg : s.heap.update it (Obj.mapFields (·.setIfInBounds 0 Value.none)) = hp
  have kp : ∀ b o, b ≠ it → s.heap.get? b = some o → hp.get? b = some o := fun b o hb e => by rw [← hg]; exact (Heap.get?_update_other _ _ (Ne.symm hb)).trans e
  have h1' := kp _ _ hne h1
  show wpAny _ _ (newExc (.type "StopIteration") [] >>= _) _ _ _
  refine wpAny_bind ?_
  simp only [newExc, newTuple]
  refine wpAny_bind (wpAny_newObj_type ?_ (by size_fits))
  refine wpAny_bind (m := firstArgMember _ _) (wpAny_of_eq (a := Value.none) (by first | rfl | (simp only [firstArgMember]; rfl)) ?_)
  refine wpAny_newObj_type ?_ (by size_fits)
  refine raiseNew_hot ⟨hh, o1, vs1, Heap.get?_push_of_some _ (Heap.get?_push_of_some _ h1'), d1, c1⟩ (Nat.ne_of_lt (Heap.lt_size (Heap.get?_push_of_some _ h1'))) (Heap.get?_push_size _ rfl) rfl (by first | (simp; done) | (simp; omega) | (simp only [Array.size_append]; simp; omega)) ?_
  refine wpAny_bind (wpAny_isInstance (T := "StopIteration") (b := true) ⟨_, Heap.get?_update_self _ (Heap.get?_push_size _ rfl) rfl, rfl⟩ isSubtype_stop ?_)
  refine wpAny_pure (hQ _ fun b o hb e => ?_)
  rw [Heap.get?_update_other _ _ (Nat.ne_of_gt (Heap.lt_size (Heap.get?_push_of_some _ (kp b o hb e))))]
  exact Heap.get?_push_of_some _ (Heap.get?_push_of_some _ (kp b o hb e))

theorem unpack_hot {t x1 : Addr} {items : Array Value} {Q : List Value → Shared → Prop} (hot : HotAt A x1 s.heap) (ht : IsTup s.heap t items)
    (hQ : ∀ h', (∀ b o, s.heap.get? b = some o → h'.get? b = some o) → Q items.toList { s with heap := h' }) : wpAny (model prog w) A (unpackItems (.ref t) items.size none) Q E s := by
  have hlt : t ≠ s.heap.objs.size := by obtain ⟨o, ho, _⟩ := ht; exact Nat.ne_of_lt (Heap.lt_size ho)
  obtain ⟨hh, o1, vs1, h1, d1, c1⟩ := id hot
  have hx1 : x1 ≠ s.heap.objs.size := Nat.ne_of_lt (Heap.lt_size h1)
  unfold unpackItems
  refine wpAny_bind ?_
  unfold notIterableAtAll
  refine wpAny_bind (wpAny_specialOf ht.typeIs slot_tuple_iter.lookup (wpAny_pure ?_))
  simp only [Bool.false_eq_true, if_false]
  refine wpAny_bind (wpAny_holding (iter_tuple ht ?_))
  refine wpAny_bind (wpAny_holding (draw_tuple hlt items.size 0 _ _ ⟨_, Heap.get?_push_size _ rfl, rfl, rfl⟩ (ht.push _) (by omega) fun h2 hit2 sb2 => ?_))
  have hall : List.take items.size (List.drop 0 items.toList) = items.toList := by
    rw [List.drop_zero]; exact List.take_of_length_le (by simp)
  rw [hall, if_neg (by simp)]
  have kp : ∀ b o, s.heap.get? b = some o → h2.get? b = some o := fun b o e => (sb2.2 b (Nat.ne_of_lt (Heap.lt_size e))).trans (Heap.get?_push_of_some _ e)
  have ht2 : IsTup h2 t items := let ⟨o, ho, r⟩ := ht; ⟨o, kp _ _ ho, r⟩
  refine wpAny_bind (wpAny_holding (tuple_end_hot (s := { s with heap := h2 }) ⟨hh, o1, vs1, kp _ _ h1, d1, c1⟩ hit2 ht2 (by simp) hx1 fun h3 kp3 => ?_))
  simp only [Option.isSome_none, Bool.false_eq_true, if_false]
  exact wpAny_pure (hQ h3 fun b o e => kp3 b o (Nat.ne_of_lt (Heap.lt_size e)) (kp b o e))
theorem assign_hot {env : Env} {elts : List Expr} {k : Nat} {pos : Pos} {t x1 : Addr} {items : Array Value} {Q : Unit → Shared → Prop} (hot : HotAt A x1 s.heap) (ht : IsTup s.heap t items)
    (hn : (assignEach elts env).length = items.size) (hstar : (assignEach elts env).findIdx? (·.1) = none)
    (h : ∀ h', (∀ b o, s.heap.get? b = some o → h'.get? b = some o) → wpAny (model prog w) A (assignInOrder ((assignEach elts env).map (·.2)) items.toList) Q E { s with heap := h' }) :
    wpAny (model prog w) A (assign (.Tuple elts k pos) env (.ref t)) Q E s := by
  rw [assign_Tuple]
  refine wpAny_bind (wpAny_standAt ?_)
  unfold unpack
  rw [hn, hstar]
  exact wpAny_bind (wpAny_holding (unpack_hot hot ht h))
end

section
variable {X : Cx} {pos : Pos}
/-- (a, b, ..) = a tuple of that length, while an error is handled -/
theorem pg_tupH {es : List Expr} {k : Nat} {t : TGs} {n : Nat} (hc : L2H.HotC X) (h : PGs X es t)
    (hn : (assignEach es X.env).length = n := by rfl) (hst : (assignEach es X.env).findIdx? (·.1) = none := by rfl) : PG X (.Tuple es k pos) (gTup X.K n t) := by
  refine ⟨fun pins s σ H v u Q I r hw => ?_⟩
  obtain ⟨a, xs, e1, hq, hl, hw⟩ := hw
  subst e1
  cases r
  obtain ⟨its, rv, ht, hz⟩ := I.tuple hq
  obtain ⟨x1, hot⟩ := hc.at I
  refine assign_hot hot ht (by simp [hn, ← hl, rv.length]) hst fun h' hx => ?_
  have I1 : Inv X pins σ H { s with heap := h' } := I.kept (t' := s.toks) hx
  exact h.run pins _ σ H xs _ Q I1 (by simpa using rv) hw

/-- a block's context that bears one pinned object -/
abbrev blkH (X : Cx) (s : Shared) (H : Hp) (scope : Scope) (cenv : Env) (fp : List Addr) (p : Addr × Obj) : Cx := { X.blk s H scope cenv fp with pn := [p] }
theorem to_blkH {X : Cx} {s s' : Shared} {H H' : Hp} {scope : Scope} {cenv : Env} {fp : List Addr} {p : Addr × Obj} {σ : L2.St} (I : Inv (X.blk s H scope cenv fp) [] σ H' s')
    (hp : s'.heap.get? p.1 = some p.2 ∧ H' p.1 = none ∧ p.1 ≠ cenv.locals ∧ p.1 ∉ (X.blk s H scope cenv fp).fs ∧ ∀ v, p.2.data ≠ .cell v) : Inv (blkH X s H scope cenv fp p) [] σ H' s' := by
  have ok := I.ok
  refine ⟨⟨ok.mod, ok.kind, ok.glob, ok.blt, ok.above, ok.inj, ok.has, ok.cab, ok.hd, ok.frames, ok.stk, ok.exf, ok.bs, ok.bsz, ok.noex, ok.exfs, ok.funs, ok.frf⟩, I.os, I.bare, I.base, I.loc, I.cell, I.free, I.freeC, fun q hq => ?_, I.hok, I.len⟩
  have e : q = p := by simpa using (show q ∈ [p] ++ ([] : List (Addr × Obj)) from hq)
  rw [e]
  exact hp

/-- [elt for (a, b) in t if ..], t a tuple that stays; Pv by the turn and the heap, D the new list -/
def tLcH (K : PySem.W.Frag) (tl : TE) (g : TG) (tt : TT) (te : TE) (vs : List Nat) : TE := fun σ H Q => tl σ H fun x H1 => ∃ a xs, x = .ref a ∧ SqT K H1 a xs ∧ ∀ D, H1 D = none → ∃ Pv : Nat → Hp → Prop, Pv 0 (upd H1 D (.lst [])) ∧ (∀ i H, Pv i H → SqT K H a xs) ∧
  (∀ i x H, xs[i]? = some x → Pv i H → g x (wipe σ vs) H fun σ2 H2 => wipe σ2 vs = wipe σ vs ∧ tt σ2 H2 fun b H3 => if b = true then te σ2 H3 fun y H4 => ∃ acc, H4 D = some (.lst acc) ∧ acc.length < sizeLine ∧ Pv (i + 1) (upd H4 D (.lst (acc ++ [y]))) else Pv (i + 1) H3) ∧
  ∀ H, Pv xs.length H → Q (.ref D) H
theorem pe_lcH {elt tg iter : Expr} {ifs : List Expr} {scope : Scope} {own : List (Str × Nat)} {tl : TE} {g : TG} {tt : TT} {te : TE} (hot : L2H.HotC X) (hN : X.N.Nodup) (hi : PE X iter tl) (ok : BlkOk X.N X.env.scope scope own)
    (hg : ∀ s H C cl fp p, L2H.Hot1 X.A p → PG (blkH X s H scope (compEnvC scope cl C X.env) fp p) tg g) (ht : ∀ s H C cl fp p, PTs (blkH X s H scope (compEnvC scope cl C X.env) fp p) ifs tt)
    (he : ∀ s H C cl fp p, PE (blkH X s H scope (compEnvC scope cl C X.env) fp p) elt te) (hs : ∀ x, foldedSetIterable iter X.env x = pure x := by intro _; rfl) :
    PE X (.ListComp elt [⟨tg, iter, ifs, 0⟩] scope pos) (tLcH X.K tl g tt te (own.map (·.2))) := by
  refine ⟨fun pins s σ H Q I h => ?_⟩
  rw [eval_ListComp]
  obtain ⟨p, hot1, hpn⟩ := hot
  have cells : ∀ y ∈ scope.names, y.2 = .free → ∃ c, X.env.cells.lookup y.1 = some c := fun y hy e => (ok.free y hy e).elim (fun k => I.ok.has _ (.inl k)) fun k => I.ok.has _ (.inr k)
  refine wpAny_comprehension_free rfl hs (closure_ok cells) ok.kind (fun y hy e => by rw [ok.uniq y hy, e])
    (thn (hi.run pins s σ H _ I h) fun xv s1 ⟨x, H1, I1, r1, a, xs, ex, hq, q⟩ => ?_)
  subst ex
  obtain rfl : xv = Value.ref a := r1
  obtain ⟨its, rv, htup, _⟩ := I1.tuple hq
  refine wpAny_pyIter_tuple (show s1.heap.IsTuple a its.toArray from htup) ?_
  refine wpAny_newObj_type (newEnv_comp ?_) (by show 0 ≤ sizeLine; decide)
  -- the iterator, the new list
  have ip : (s1.heap.push { cls := .type "tuple_iterator", data := .fields #[.ref a, .int 0 0] }).IsTupleIter s1.heap.objs.size a 0 := ⟨_, Heap.get?_push_size _ rfl, rfl, rfl⟩
  have I2 : Inv X pins σ H1 { s1 with heap := s1.heap.push { cls := .type "tuple_iterator", data := .fields #[.ref a, .int 0 0] } } := I1.kept (t' := s1.toks) fun b o e => Heap.get?_push_of_some _ e
  have f2 : FpOk X pins H1 s1.heap.objs.size := I1.fpOk (Nat.le_refl _) (I1.hok.fresh (Nat.le_refl _))
  have itlt : s1.heap.objs.size < (s1.heap.push { cls := .type "tuple_iterator", data := .fields #[.ref a, .int 0 0] }).objs.size := by rw [Heap.size_push]; exact Nat.lt_succ_self _
  generalize hit : s1.heap.objs.size = it at ip f2 itlt ⊢
  generalize hs2 : ({ s1 with heap := s1.heap.push { cls := .type "tuple_iterator", data := .fields #[.ref a, .int 0 0] } } : Shared) = s2 at I2 ⊢
  have e2 : s2.heap = s1.heap.push { cls := .type "tuple_iterator", data := .fields #[.ref a, .int 0 0] } := by rw [← hs2]
  rw [← e2] at ip itlt
  obtain ⟨Pv, p0, psq, pstep, pend⟩ := q s2.heap.objs.size (I2.hok.fresh (Nat.le_refl _))
  have I3 : Inv X pins σ (upd H1 s2.heap.objs.size (.lst [])) { s2 with heap := s2.heap.push { cls := .type "list", data := .seq ([] : List Value).toArray } } :=
    I2.laid (t' := s2.toks) (fun b o e => Heap.get?_push_of_some _ e) (Nat.le_refl _) ⟨Nat.zero_le _, [], 0, .nil, Heap.get?_push_size _ rfl⟩
  have f3 : ∀ b ∈ [it], FpOk X pins (upd H1 s2.heap.objs.size (.lst [])) b ∧ b < (s2.heap.push { cls := .type "list", data := .seq ([] : List Value).toArray }).objs.size := fun b hb => by
    rw [List.mem_singleton.mp hb]
    exact ⟨⟨by rw [upd_ne (Nat.ne_of_lt itlt)]; exact f2.1, f2.2⟩, by rw [Heap.size_push]; exact Nat.lt_succ_of_lt itlt⟩
  have ip3 : (s2.heap.push { cls := .type "list", data := .seq ([] : List Value).toArray }).IsTupleIter it a 0 := let ⟨o, ho, r⟩ := ip; ⟨o, Heap.get?_push_of_some _ ho, r⟩
  generalize hD : s2.heap.objs.size = D at I3 f3 p0 pend pstep ⊢
  generalize hH3 : upd H1 D (.lst []) = H3 at I3 f3 p0
  generalize hs3 : ({ s2 with heap := s2.heap.push { cls := .type "list", data := .seq ([] : List Value).toArray } } : Shared) = s3 at I3 ⊢
  have e3 : s3.heap = s2.heap.push { cls := .type "list", data := .seq ([] : List Value).toArray } := by rw [← hs3]
  rw [← e3] at f3 ip3
  have I4 := block_start I3 ok hN f3
  obtain ⟨g1, g2, g3, g4, g5⟩ := I3.pin p (List.mem_append_left _ hpn)
  have plt : p.1 < s3.heap.objs.size := Heap.lt_size g1
  generalize hcl : cellsFrom (s3.heap.objs.size + 1) scope.names (cloFrom X.env.cells scope.names []) = cl at I4
  have I4' := to_blkH I4 (p := p) ⟨pushCells_keeps _ _ _ _ (Heap.get?_push_of_some _ g1), g2, Nat.ne_of_lt plt, fun hm => (List.mem_cons.mp (I3.stkSub p.1 hm)).elim g3 g4, g5⟩
  have pg := hg s3 H3 s3.heap.objs.size cl [it] p hot1
  have pt := ht s3 H3 s3.heap.objs.size cl [it] p
  have pe := he s3 H3 s3.heap.objs.size cl [it] p
  clear I4
  have home : codeAny (model X.prog X.w) X.A (.compStart (.ListComp elt [⟨tg, iter, ifs, 0⟩] scope pos) 0 (.ref it) (.ref D) (compEnvC scope cl s3.heap.objs.size X.env)) (compPost (model X.prog X.w) X.A X.xe none (EP X pins σ Q) (.ref D) s3.heap.objs.size)
      { s3 with heap := pushCells (s3.heap.push { cls := .type "dict", data := .dict #[] }) scope.names } := by
    have cL : (compEnvC scope cl s3.heap.objs.size X.env).locals = s3.heap.objs.size := rfl
    generalize compEnvC scope cl s3.heap.objs.size X.env = ce at I4' pg pt pe cL ⊢
    generalize hs4 : ({ s3 with heap := pushCells (s3.heap.push { cls := .type "dict", data := .dict #[] }) scope.names } : Shared) = s4 at I4' ⊢
    have ip4 : s4.heap.IsTupleIter it a 0 := let ⟨o, ho, r⟩ := ip3; ⟨o, by rw [← hs4]; exact pushCells_keeps _ _ _ _ (Heap.get?_push_of_some _ ho), r⟩
    have nit : H3 it = none := (f3 it (List.mem_singleton.mpr rfl)).1.1
    have stat : ∀ {σ' : L2.St} {H' : Hp} {s' : Shared}, Inv (blkH X s3 H3 scope ce [it] p) [] σ' H' s' → H' it = none → FpOk (blkH X s3 H3 scope ce [it] p) [] H' it := fun {σ' H' s'} I' hn =>
      ⟨hn, (I'.ok.exf it (List.mem_singleton.mpr rfl)).1, I'.ok.exfs it (List.mem_singleton.mpr rfl), .inl (List.mem_singleton.mpr rfl), fun x c e => (I'.ok.exf it (List.mem_singleton.mpr rfl)).2 x c e, fun r hr => by
        have er : r = p := by simpa using (show r ∈ [p] ++ ([] : List (Addr × Obj)) from hr)
        rw [er]
        exact fun z => by
          obtain ⟨_, _, _, _, _, f5⟩ := f2
          exact f5 p (List.mem_append_left _ hpn) z⟩
    have live : ∀ {i : Nat} {h : Heap}, h.IsTupleIter it a i → ∀ b ∈ [it], ∃ o, h.get? b = some o ∧ ∀ v, o.data ≠ .cell v := fun {i h} st b hb => by
      rw [List.mem_singleton.mp hb]
      obtain ⟨o, ho, _, hd⟩ := st
      exact ⟨o, ho, fun v z => by rw [hd] at z; cases z⟩
    have loop : codeAny (model X.prog X.w) X.A (.compLoop (.ListComp elt [⟨tg, iter, ifs, 0⟩] scope pos) 0 (.ref it) (.ref D) ce) (compPost (model X.prog X.w) X.A X.xe none (EP X pins σ Q) (.ref D) s3.heap.objs.size) s4 := by
      refine compLoop_any (fun n s' => ∃ i H', n + i = xs.length ∧ Inv (blkH X s3 H3 scope ce [it] p) [] (wipe σ (own.map (·.2))) H' s' ∧ s'.heap.IsTupleIter it a i ∧ H' it = none ∧ Pv i H') ?_ xs.length ⟨0, H3, rfl, I4', ip4, nit, p0⟩
      rintro n s5 ⟨i, H5, en, I5, ip5, n5, p5⟩
      obtain ⟨its5, rv5, ht5, _⟩ := I5.tuple (psq i H5 p5)
      have len5 := rv5.length
      cases n with
      | zero =>
        obtain ⟨x1, hotn⟩ := L2H.HotC.at (X := blkH X s3 H3 scope ce [it] p) ⟨p, hot1, List.mem_singleton.mpr rfl⟩ I5
        have ne1 : x1 ≠ it := fun z => by
          have ex : p.1 = x1 := by
            have e1 := hot1.1
            have e2 := hotn.1
            rw [e1] at e2
            exact Value.ref.inj (Option.some.inj e2)
          obtain ⟨_, _, _, _, _, f5⟩ := f2
          exact f5 p (List.mem_append_left _ hpn) (ex.trans z)
        refine tuple_end_hot hotn ip5 ht5 (by simp; omega) ne1 fun h6 kp6 => ?_
        have I6 : Inv (blkH X s3 H3 scope ce [it] p) [] (wipe σ (own.map (·.2))) H5 { s5 with heap := h6 } := by
          obtain ⟨q0, q1, q2, q3, q4, q5⟩ := stat I5 n5
          exact I5.turned (t' := s5.toks) kp6 q0 q1 q3 q4 q5
        obtain ⟨m, hn, _⟩ := id I6.loc
        have nC : H5 s3.heap.objs.size = none := (congrArg H5 cL).symm.trans I6.free
        have I7 : Inv X pins σ H5 { s5 with heap := h6 } := I3.call' (ch := [it]) I6.os I6.base I6.hok I6.bare fun b hb => by
          obtain ⟨⟨_, q1, _, q3, q4, q5⟩, _⟩ := f3 b hb
          exact ⟨q3, q1, q4, q5⟩
        refine ⟨m, by rw [← cL]; exact hn, fun h'' sb => ?_⟩
        obtain ⟨q0, q1, q2, q3, q4, q5⟩ := I3.fpOk (b := s3.heap.objs.size) (Nat.le_refl _) nC
        have ei : i = xs.length := by omega
        rw [ei] at p5
        exact ⟨.ref D, H5, I7.turned (t' := s5.toks) (fun b o hb e => (sb.2 b hb).trans e) q0 q1 q3 q4 q5, rfl, pend H5 p5⟩
      | succ m =>
        have hi : i < xs.length := by omega
        have hx : xs[i]? = some xs[i] := List.getElem?_eq_getElem hi
        obtain ⟨u, hu, ru⟩ := rv5.get hx
        refine wpAny_pyNext_tuple_item ip5 (show s5.heap.IsTuple a its5.toArray from ht5) (x := u) (by simpa using hu) fun h6 ip6 sb6 => ?_
        have I6 : Inv (blkH X s3 H3 scope ce [it] p) [] (wipe σ (own.map (·.2))) H5 { s5 with heap := h6 } := by
          obtain ⟨q0, q1, q2, q3, q4, q5⟩ := stat I5 n5
          exact I5.turned (t' := s5.toks) (fun b o hb e => (sb6.2 b hb).trans e) q0 q1 q3 q4 q5
        obtain ⟨o6, ho6, hc6, hd6⟩ := id ip6
        refine go_of (s := { s5 with heap := h6 }) ho6 hc6 hd6 (by decide) ?_
        have I6' := I6.pinned (fp := [it]) (fun b hb => by rw [List.mem_singleton.mp hb]; exact stat I6 n5) (live ip6)
        refine thnF (pg.run _ _ _ H5 xs[i] u _ I6' ru (pstep i xs[i] H5 hx p5)) fun _ s8 ⟨σ8, H8, I8, hw8, q8⟩ => ?_
        refine thnF (pt.run _ s8 σ8 H8 _ I8 q8) fun b s9 ⟨H9, I9, q9⟩ => ?_
        have fin : ∀ {s' : Shared} {H' : Hp}, Inv (blkH X s3 H3 scope ce [it] p) ([] ++ pinsAt [it] h6) σ8 H' s' → Pv (i + 1) H' →
            ∃ n', n' < m + 1 ∧ ∃ i H', n' + i = xs.length ∧ Inv (blkH X s3 H3 scope ce [it] p) [] (wipe σ (own.map (·.2))) H' s' ∧ s'.heap.IsTupleIter it a i ∧ H' it = none ∧ Pv i H' := fun {s' H'} I' p' => by
          have z := I'.pin (it, o6) (List.mem_append_right _ (List.mem_append_right _ (mem_pinsAt (List.mem_singleton.mpr rfl) ho6)))
          refine ⟨m, Nat.lt_succ_self m, i + 1, H', by omega, (I'.unpinned (pins := [])).weak (by rw [← hw8, wipe_length]) (fun j v e => ?_), ⟨o6, z.1, hc6, hd6⟩, z.2.1, p'⟩
          rw [← hw8] at e
          exact (wipe_some e).1
        cases b with
        | false => exact fin I9 q9
        | true =>
          refine thnF (pe.run _ s9 σ8 H9 _ I9 q9) fun z s10 ⟨yv, H10, I10, r10, acc, hD10, hz10, nx⟩ => ?_
          exact app_ok (X := blkH X s3 H3 scope ce [it] p) I10 hD10 hz10 r10 fun s11 I11 => fin I11 nx
    exact codeAny_compStart_list loop (wpAny_pyIter_tupleiter ip4 loop)
  subst hcl
  exact home
end

/-! ### an own error, raised without arguments; its context is None -/
section
variable {X : Cx} {C : Addr} {bmB : List Value} {B newId initId : String}
/-- X() -/
theorem pmk_own0 {x : Str} {p pos : Pos} (F : ExcBaseFacts B newId initId bmB) (q : PySem.W.excIn X.K C bmB newId = true) (gC : X.mg x = some (.ref C)) (kC : PySem.W.keepIn X.K (.ref C) = true) (r : Raises X (.ref C)) (hg : Gl X x)
    (hdb : (x == ("__debug__" : Str)) = false := by decide) : L2N.PMk X (.Call (.Name x p) [] [] pos) (fun _ H Q => Q (.ref C) none H) := by
  intro pins s σ H Q I h
  refine wpAny_Call_Name_kw (ld_glob I hg gC ?_ hdb)
  refine PySem.W.callWith_K0 I.kIn kC ?_
  show wpAny _ _ (call (.ref C) []) _ _ _
  obtain ⟨bm, N, nm, qn, bs, hdct, sn, sub, ab, col, dd, k0, k1, k2, k3, k5, mN, hC, hN, hni, T⟩ := exc_obj I.kIn q
  refine wpAny_call_exc_subT F T hC hN hni (fun h' e hm => ?_) (Nat.zero_le _)
  exact L2N.mk_of I hm r h (I.hok.gone hm.new)
end
section
variable {P : Program} {w : World} {K : PySem.W.Frag} {mg : Str → Option Value} {base : Heap}
/-- a def that may raise -/
theorem okN {x qual : Str} {st : Stmt} {f : Addr} {fd : FuncData} {N ps : List Str} {k : Nat} {sp : Sp} (F : Fun K x qual st f fd) (S : FnScope N ps (defScope st)) (len : ∀ vs H Q E, sp vs H Q E → vs.length = ps.length)
    (hbody : ∀ (cdv : Value) (A : Around) (outer : List Env) (s : Shared) (H : Hp) (vs : List V) (Q : VK) (E : XK), Room k (A.deeper (envOfC qual (defScope st) s.heap.objs.size f cdv)) → sp vs H Q E →
      ∃ t, PSs (cxOf (L2N.CX P w) P w K mg base N qual (defScope st) f cdv A outer s H E) (defBody st) t ∧ t { nx := fun _ H' => Q .non H', rt := Q } (L2.start N vs) H) : FnOk P w K mg base (L2N.CX P w) (k + 1) f fd ps sp := by
  obtain ⟨oc, od, kV, doc, pm, an, cdv, ct, osl, rfl, lk, hcd⟩ := F.ex
  exact fn_of lk hcd S len fun A outer s H vs Q E hr hsp => hbody cdv A outer s H vs Q E hr hsp
theorem takesN {X : Cx} : L2N.Takes X (fun _ _ _ _ => False) := fun _ _ x => by
  obtain ⟨_, _, _, _, _, _, _, _, _, _, _, _, _, _, _, _, z⟩ := x
  exact z.elim
end
end Dw
/-! Tables of exponents and coefficients: the mathematics, no program. -/
namespace Dw
open L2

abbrev Mon := List Int
abbrev Poly := List (List Int × Int)
def mAdd (a b : Mon) : Mon := List.zipWith (· + ·) a b
def mSub (a b : Mon) : Mon := List.zipWith (· - ·) a b
def mNeg (a : Mon) : Mon := a.map (- ·)

/-! ### exponents -/
theorem mAdd_len {a b : Mon} {n : Nat} (h : a.length = n) (g : b.length = n) : (mAdd a b).length = n := by unfold mAdd; rw [List.length_zipWith]; omega
theorem mSub_len {a b : Mon} {n : Nat} (h : a.length = n) (g : b.length = n) : (mSub a b).length = n := by unfold mSub; rw [List.length_zipWith]; omega
theorem mNeg_len (a : Mon) : (mNeg a).length = a.length := List.length_map ..
theorem mAdd_comm : ∀ a b : Mon, mAdd a b = mAdd b a
  | [], [] => rfl
  | [], _ :: _ => rfl
  | _ :: _, [] => rfl
  | x :: a, y :: b => by
    show (x + y) :: mAdd a b = (y + x) :: mAdd b a
    rw [mAdd_comm a b, Int.add_comm]
theorem mAdd_assoc : ∀ a b c : Mon, mAdd (mAdd a b) c = mAdd a (mAdd b c)
  | [], _, _ => by simp [mAdd]
  | _ :: _, [], _ => by simp [mAdd]
  | _ :: _, _ :: _, [] => by simp [mAdd]
  | x :: a, y :: b, z :: c => by
    show (x + y + z) :: mAdd (mAdd a b) c = (x + (y + z)) :: mAdd a (mAdd b c)
    rw [mAdd_assoc a b c, Int.add_assoc]
theorem mSub_add : ∀ {a b : Mon}, a.length = b.length → mSub (mAdd a b) b = a
  | [], [], _ => rfl
  | x :: a, y :: b, h => by
    show (x + y - y) :: mSub (mAdd a b) b = x :: a
    rw [mSub_add (by simpa using h), Int.add_sub_cancel]
theorem mAdd_sub : ∀ {a b : Mon}, a.length = b.length → mAdd (mSub a b) b = a
  | [], [], _ => rfl
  | x :: a, y :: b, h => by
    show (x - y + y) :: mAdd (mSub a b) b = x :: a
    rw [mAdd_sub (by simpa using h), Int.sub_add_cancel]
theorem mSub_eq : ∀ a b : Mon, mSub a b = mAdd a (mNeg b)
  | [], _ => by simp [mSub, mAdd]
  | _ :: _, [] => by simp [mSub, mAdd, mNeg]
  | x :: a, y :: b => by
    show (x - y) :: mSub a b = (x + -y) :: mAdd a (mNeg b)
    rw [mSub_eq a b, Int.sub_eq_add_neg]
theorem mNeg_cancel : ∀ {a b : Mon}, a.length = b.length → mAdd (mAdd a (mNeg b)) b = a
  | [], [], _ => rfl
  | x :: a, y :: b, h => by
    show (x + -y + y) :: mAdd (mAdd a (mNeg b)) b = x :: a
    rw [mNeg_cancel (by simpa using h), Int.neg_add_cancel_right]
theorem mAdd_inj {a b c : Mon} (h : a.length = c.length) (g : b.length = c.length) (e : mAdd a c = mAdd b c) : a = b := by
  rw [← mSub_add h, e, mSub_add g]
theorem mAdd_get {a b : Mon} {i : Nat} (h : i < a.length) (g : i < b.length) : (mAdd a b).getD i 0 = a.getD i 0 + b.getD i 0 := by
  unfold mAdd
  simp only [List.getD_eq_getElem?_getD, List.getElem?_zipWith]
  rw [List.getElem?_eq_getElem h, List.getElem?_eq_getElem g]
  rfl
theorem mSub_get {a b : Mon} {i : Nat} (h : i < a.length) (g : i < b.length) : (mSub a b).getD i 0 = a.getD i 0 - b.getD i 0 := by
  unfold mSub
  simp only [List.getD_eq_getElem?_getD, List.getElem?_zipWith]
  rw [List.getElem?_eq_getElem h, List.getElem?_eq_getElem g]
  rfl
theorem mNeg_get {a : Mon} {i : Nat} (h : i < a.length) : (mNeg a).getD i 0 = - a.getD i 0 := by
  unfold mNeg
  simp only [List.getD_eq_getElem?_getD, List.getElem?_map]
  rw [List.getElem?_eq_getElem h]
  rfl
/-- all in the like places -/
theorem mon_ext {a b : Mon} {n : Nat} (h : a.length = n) (g : b.length = n) (e : ∀ i, i < n → a.getD i 0 = b.getD i 0) : a = b := by
  refine List.ext_getElem (by omega) fun i h1 h2 => ?_
  have z := e i (by omega)
  rw [List.getD_eq_getElem?_getD, List.getD_eq_getElem?_getD, List.getElem?_eq_getElem h1, List.getElem?_eq_getElem h2] at z
  exact z

/-! ### the order -/
theorem lex_add : ∀ {a b c : Mon}, a.length = b.length → b.length = c.length → HT.lexLt (mAdd a c) (mAdd b c) = HT.lexLt a b
  | [], [], [], _, _ => rfl
  | x :: a, y :: b, z :: c, h, g => by
    show HT.lexLt ((x + z) :: mAdd a c) ((y + z) :: mAdd b c) = HT.lexLt (x :: a) (y :: b)
    rw [HT.lexLt_cons, HT.lexLt_cons, lex_add (by simpa using h) (by simpa using g)]
    by_cases e : x = y
    · rw [if_pos e, if_pos (by rw [e])]
    · rw [if_neg e, if_neg (by omega)]
      have q : (x + z < y + z) ↔ x < y := by omega
      exact decide_eq_decide.mpr q
theorem lex_add' {a b c : Mon} (h : a.length = b.length) (g : b.length = c.length) : HT.lexLt (mAdd c a) (mAdd c b) = HT.lexLt a b := by
  rw [mAdd_comm c a, mAdd_comm c b]
  exact lex_add h g
theorem lex_trans {a b c : Mon} (h : HT.lexLt a b = true) (g : HT.lexLt b c = true) : HT.lexLt a c = true :=
  (NtL.swo_lexL (α := List Int) id).ltle (y := b) h (NtL.lex_asym _ _ g)
theorem lex_lt_le {a b c : Mon} (h : HT.lexLt a b = true) (g : HT.lexLt c b = false) : HT.lexLt a c = true := (NtL.swo_lexL (α := List Int) id).ltle (y := b) h g
theorem lex_le_lt {a b c : Mon} (h : HT.lexLt b a = false) (g : HT.lexLt b c = true) : HT.lexLt a c = true := (NtL.swo_lexL (α := List Int) id).lelt (y := b) h g
theorem lex_ne {a b : Mon} (h : HT.lexLt a b = true) : a ≠ b := fun e => by rw [e, lex_irr] at h; cases h
theorem lex_lt_of {a b : Mon} (h : HT.lexLt b a = false) (ne : a ≠ b) : HT.lexLt a b = true := by
  cases c : HT.lexLt a b with
  | true => rfl
  | false => exact absurd (lex_tot c h) ne

/-! ### sums of ints -/
theorem sum_zero {α : Type} {f : α → Int} : ∀ {l : List α}, (∀ x ∈ l, f x = 0) → (l.map f).sum = 0
  | [], _ => rfl
  | x :: l, h => by
    rw [List.map_cons, List.sum_cons, h x List.mem_cons_self, sum_zero fun y hy => h y (List.mem_cons_of_mem _ hy)]
    rfl
theorem sum_add {α : Type} {f g : α → Int} : ∀ {l : List α}, (l.map fun x => f x + g x).sum = (l.map f).sum + (l.map g).sum
  | [] => rfl
  | x :: l => by
    simp only [List.map_cons, List.sum_cons]
    rw [sum_add (l := l)]
    omega
theorem sum_sub {α : Type} {f g : α → Int} : ∀ {l : List α}, (l.map fun x => f x - g x).sum = (l.map f).sum - (l.map g).sum
  | [] => rfl
  | x :: l => by
    simp only [List.map_cons, List.sum_cons]
    rw [sum_sub (l := l)]
    omega
theorem sum_mul {α : Type} {f : α → Int} (c : Int) : ∀ {l : List α}, (l.map fun x => c * f x).sum = c * (l.map f).sum
  | [] => by simp
  | x :: l => by
    simp only [List.map_cons, List.sum_cons]
    rw [sum_mul c (l := l), Int.mul_add]
theorem sum_perm {α : Type} {f : α → Int} {l m : List α} (h : l.Perm m) : (l.map f).sum = (m.map f).sum := by
  induction h with
  | nil => rfl
  | cons x _ ih => rw [List.map_cons, List.map_cons, List.sum_cons, List.sum_cons, ih]
  | swap x y l =>
    simp only [List.map_cons, List.sum_cons]
    omega
  | trans _ _ h1 h2 => rw [h1, h2]
theorem sum_one {α : Type} [DecidableEq α] {f : α → Int} {x : α} : ∀ {l : List α}, l.Nodup → x ∈ l → (∀ y ∈ l, y ≠ x → f y = 0) → (l.map f).sum = f x
  | y :: l, hn, hx, h => by
    rw [List.map_cons, List.sum_cons]
    rw [List.nodup_cons] at hn
    rcases List.mem_cons.mp hx with e | hx'
    · subst e
      rw [sum_zero fun z hz => h z (List.mem_cons_of_mem _ hz) fun e => hn.1 (e ▸ hz)]
      omega
    · rw [sum_one hn.2 hx' fun z hz => h z (List.mem_cons_of_mem _ hz), h y List.mem_cons_self fun e => hn.1 (e ▸ hx')]
      omega

/-! ### coefficients -/
def cf (L : Poly) (k : Mon) : Int := (L.map fun p => if p.1 = k then p.2 else 0).sum
theorem cf_nil (k : Mon) : cf [] k = 0 := rfl
theorem cf_cons (p : List Int × Int) (L : Poly) (k : Mon) : cf (p :: L) k = (if p.1 = k then p.2 else 0) + cf L k := by unfold cf; rw [List.map_cons, List.sum_cons]
theorem cf_append (L M : Poly) (k : Mon) : cf (L ++ M) k = cf L k + cf M k := by unfold cf; rw [List.map_append, List.sum_append]
theorem cf_perm {L M : Poly} (h : L.Perm M) (k : Mon) : cf L k = cf M k := sum_perm h
theorem cf_none {L : Poly} {k : Mon} (h : k ∉ L.map (·.1)) : cf L k = 0 := sum_zero fun p hp => if_neg fun e => h (List.mem_map.mpr ⟨p, hp, e⟩)
theorem cf_key {L : Poly} {k : Mon} (h : cf L k ≠ 0) : ∃ c, (k, c) ∈ L := by
  by_cases e : k ∈ L.map (·.1)
  · obtain ⟨p, hp, ep⟩ := List.mem_map.mp e
    exact ⟨p.2, by rw [← ep]; exact hp⟩
  · exact absurd (cf_none e) h
abbrev Keys (L : Poly) : Prop := (L.map (·.1)).Nodup
theorem Keys.nodup {L : Poly} (h : Keys L) : L.Nodup := (List.pairwise_map.mp h).imp fun {a b} ne e => ne (by rw [e])
theorem cf_mem {L : Poly} (hn : Keys L) {k : Mon} {c : Int} (h : (k, c) ∈ L) : cf L k = c := by
  have e : cf L k = (fun p : List Int × Int => if p.1 = k then p.2 else 0) (k, c) := sum_one (f := fun p : List Int × Int => if p.1 = k then p.2 else 0) (Keys.nodup hn) h fun y hy ne => if_neg fun e => ne (nodup_at hn hy h e)
  rw [e]
  exact if_pos rfl
theorem cf_filter (L : Poly) (k : Mon) : cf (L.filter fun p => decide (p.2 ≠ 0)) k = cf L k := by
  induction L with
  | nil => rfl
  | cons p L ih =>
    by_cases e : p.2 = 0
    · rw [List.filter_cons_of_neg (by simp [e]), ih, cf_cons, e]
      split <;> omega
    · rw [List.filter_cons_of_pos (by simp [e]), cf_cons, cf_cons, ih]
/-- a table without zeros -/
structure Tab (n : Nat) (L : Poly) : Prop where
  keys : Keys L
  len : ∀ p ∈ L, p.1.length = n
  nz : ∀ p ∈ L, p.2 ≠ 0
theorem Tab.at {n : Nat} {L : Poly} (t : Tab n L) {k : Mon} {c : Int} : (k, c) ∈ L ↔ c ≠ 0 ∧ cf L k = c := by
  constructor
  · exact fun h => ⟨t.nz _ h, cf_mem t.keys h⟩
  · rintro ⟨h0, e⟩
    obtain ⟨c', h⟩ := cf_key (L := L) (k := k) (by rw [e]; exact h0)
    rw [cf_mem t.keys h] at e
    rw [← e]
    exact h
theorem asc_ext : ∀ {L M : Poly}, Asc L → Asc M → (∀ x, x ∈ L ↔ x ∈ M) → L = M
  | [], [], _, _, _ => rfl
  | [], y :: M, _, _, h => absurd ((h y).mpr List.mem_cons_self) (by simp)
  | x :: L, [], _, _, h => absurd ((h x).mp List.mem_cons_self) (by simp)
  | x :: L, y :: M, a, b, h => by
    have a' := List.pairwise_cons.mp a
    have b' := List.pairwise_cons.mp b
    have exy : x = y := by
      rcases List.mem_cons.mp ((h x).mp List.mem_cons_self) with e | hx
      · exact e
      · rcases List.mem_cons.mp ((h y).mpr List.mem_cons_self) with e | hy
        · exact e.symm
        · have z := NtL.lex_asym _ _ (b'.1 x hx)
          rw [a'.1 y hy] at z
          cases z
    subst exy
    rw [asc_ext a'.2 b'.2 fun z => ?_]
    constructor
    · intro hz
      rcases List.mem_cons.mp ((h z).mp (List.mem_cons_of_mem _ hz)) with e | hz'
      · exact absurd rfl (lex_ne (e ▸ a'.1 z hz))
      · exact hz'
    · intro hz
      rcases List.mem_cons.mp ((h z).mpr (List.mem_cons_of_mem _ hz)) with e | hz'
      · exact absurd rfl (lex_ne (e ▸ b'.1 z hz))
      · exact hz'
theorem asc_keys {L : Poly} (h : Asc L) : Keys L := List.pairwise_map.mpr (h.imp fun {x y} z => lex_ne z)
/-- a sum in its one form -/
structure Can (n : Nat) (L : Poly) : Prop where
  asc : Asc L
  len : ∀ p ∈ L, p.1.length = n
  nz : ∀ p ∈ L, p.2 ≠ 0
theorem Can.tab {n : Nat} {L : Poly} (c : Can n L) : Tab n L := ⟨asc_keys c.asc, c.len, c.nz⟩
theorem can_eq {n : Nat} {L M : Poly} (a : Can n L) (b : Can n M) (h : ∀ k, k.length = n → cf L k = cf M k) : L = M := by
  refine asc_ext a.asc b.asc fun ⟨k, c⟩ => ?_
  constructor
  · intro hx
    have e := a.tab.at.mp hx
    exact b.tab.at.mpr ⟨e.1, (h k (a.len _ hx)).symm.trans e.2⟩
  · intro hx
    have e := b.tab.at.mp hx
    exact a.tab.at.mpr ⟨e.1, (h k (b.len _ hx)).trans e.2⟩
theorem cf_other {n : Nat} {L : Poly} (h : ∀ p ∈ L, p.1.length = n) {k : Mon} (hk : k.length ≠ n) : cf L k = 0 := cf_none fun hm => by
  obtain ⟨p, hp, e⟩ := List.mem_map.mp hm
  exact hk (by rw [← e]; exact h p hp)

/-! ### changes of a table -/
def lookI (L : Poly) (k : Mon) : Option Int := (L.find? fun p => decide (p.1 = k)).map (·.2)
def putI (L : Poly) (k : Mon) (c : Int) : Poly := if (L.any fun p => decide (p.1 = k)) = true then L.map (fun p => if p.1 = k then (p.1, c) else p) else L ++ [(k, c)]
def dropI (L : Poly) (k : Mon) : Poly := L.filter fun p => decide (p.1 ≠ k)
theorem lookI_none {L : Poly} {k : Mon} : lookI L k = none ↔ k ∉ L.map (·.1) := by
  unfold lookI
  rw [Option.map_eq_none_iff, List.find?_eq_none]
  constructor
  · intro h hm
    obtain ⟨p, hp, e⟩ := List.mem_map.mp hm
    exact h p hp (by simpa using e)
  · intro h p hp e
    exact h (List.mem_map.mpr ⟨p, hp, by simpa using e⟩)
theorem lookI_mem {L : Poly} {k : Mon} {c : Int} (h : lookI L k = some c) : (k, c) ∈ L := by
  unfold lookI at h
  obtain ⟨p, hp, e⟩ := Option.map_eq_some_iff.mp h
  have e1 : p.1 = k := by simpa using List.find?_some hp
  have e2 := List.mem_of_find?_eq_some hp
  have e3 : p = (k, c) := Prod.ext e1 e
  rw [← e3]
  exact e2
theorem lookI_cf {L : Poly} (hn : Keys L) (k : Mon) : (lookI L k).getD 0 = cf L k := by
  cases e : lookI L k with
  | none => rw [cf_none (lookI_none.mp e)]; rfl
  | some c => rw [cf_mem hn (lookI_mem e)]; rfl
theorem putI_new {L : Poly} {k : Mon} (c : Int) (h : k ∉ L.map (·.1)) : putI L k c = L ++ [(k, c)] := by
  unfold putI
  rw [if_neg]
  intro e
  obtain ⟨p, hp, e⟩ := List.any_eq_true.mp e
  exact h (List.mem_map.mpr ⟨p, hp, by simpa using e⟩)
theorem putI_keys {L : Poly} (hn : Keys L) (k : Mon) (c : Int) : Keys (putI L k c) := by
  by_cases h : k ∈ L.map (·.1)
  · have a : (L.any fun p => decide (p.1 = k)) = true := by
      obtain ⟨p, hp, e⟩ := List.mem_map.mp h
      exact List.any_eq_true.mpr ⟨p, hp, by simpa using e⟩
    unfold putI Keys
    rw [if_pos a, List.map_map]
    have e : L.map ((fun p : List Int × Int => p.1) ∘ fun p => if p.1 = k then (p.1, c) else p) = L.map (·.1) := List.map_congr_left fun p _ => by
      show (if p.1 = k then (p.1, c) else p).1 = p.1
      split <;> rfl
    rw [e]
    exact hn
  · rw [putI_new c h]
    unfold Keys
    rw [List.map_append]
    refine List.nodup_append.mpr ⟨hn, by simp, fun a ha b hb e => ?_⟩
    have e2 : b = k := by simpa using hb
    exact h (by rw [← e2, ← e]; exact ha)
theorem cf_map_put (k : Mon) (c : Int) (j : Mon) : ∀ {L : Poly}, Keys L → k ∈ L.map (·.1) → cf (L.map fun p => if p.1 = k then (p.1, c) else p) j = if j = k then c else cf L j
  | p :: L, hn, h => by
    unfold Keys at hn
    rw [List.map_cons, List.nodup_cons] at hn
    rw [List.map_cons, cf_cons]
    by_cases e : p.1 = k
    · rw [if_pos e]
      have e0 : L.map (fun p => if p.1 = k then (p.1, c) else p) = L := by
        refine (List.map_congr_left fun q hq => ?_).trans (List.map_id L)
        exact if_neg fun eq => hn.1 (by rw [e, ← eq]; exact List.mem_map.mpr ⟨q, hq, rfl⟩)
      rw [e0, cf_cons]
      by_cases ej : j = k
      · rw [if_pos ej, if_pos (e.trans ej.symm), cf_none (by rw [ej, ← e]; exact hn.1)]
        omega
      · rw [if_neg ej, if_neg (fun z => ej (z.symm.trans e)), if_neg (fun z => ej (z.symm.trans e))]
    · rw [if_neg e]
      have hk : k ∈ L.map (·.1) := by
        rw [List.map_cons] at h
        rcases List.mem_cons.mp h with z | z
        · exact absurd z.symm e
        · exact z
      rw [cf_map_put k c j hn.2 hk, cf_cons]
      by_cases ej : j = k
      · rw [if_pos ej, if_pos ej, if_neg (fun z => e (z.trans ej))]
        omega
      · rw [if_neg ej, if_neg ej]
theorem cf_put {L : Poly} (hn : Keys L) (k : Mon) (c : Int) (j : Mon) : cf (putI L k c) j = if j = k then c else cf L j := by
  by_cases h : k ∈ L.map (·.1)
  · have a : (L.any fun p => decide (p.1 = k)) = true := by
      obtain ⟨p, hp, e⟩ := List.mem_map.mp h
      exact List.any_eq_true.mpr ⟨p, hp, by simpa using e⟩
    unfold putI
    rw [if_pos a]
    exact cf_map_put k c j hn h
  · rw [putI_new c h, cf_append, cf_cons, cf_nil]
    by_cases ej : j = k
    · rw [if_pos ej.symm, if_pos ej, ej, cf_none h]
      omega
    · rw [if_neg (fun z => ej z.symm), if_neg ej]
      omega
theorem putI_mem {L : Poly} {k : Mon} {c : Int} {p : List Int × Int} (h : p ∈ putI L k c) : p ∈ L ∨ p = (k, c) := by
  unfold putI at h
  split at h
  · obtain ⟨q, hq, e⟩ := List.mem_map.mp h
    split at e
    · rename_i e1
      exact .inr (by rw [← e, e1])
    · exact .inl (by rw [← e]; exact hq)
  · rcases List.mem_append.mp h with h | h
    · exact .inl h
    · exact .inr (by simpa using h)
theorem putI_length (L : Poly) (k : Mon) (c : Int) : (putI L k c).length ≤ L.length + 1 := by
  unfold putI
  split
  · rw [List.length_map]; omega
  · rw [List.length_append]; exact Nat.le_refl _
theorem dropI_keys {L : Poly} (hn : Keys L) (k : Mon) : Keys (dropI L k) := hn.sublist (List.Sublist.map _ List.filter_sublist)
theorem cf_drop (L : Poly) (k j : Mon) : cf (dropI L k) j = if j = k then 0 else cf L j := by
  unfold dropI
  induction L with
  | nil => split <;> rfl
  | cons p L ih =>
    by_cases e : p.1 = k
    · rw [List.filter_cons_of_neg (by simp [e]), ih, cf_cons]
      by_cases ej : j = k
      · rw [if_pos ej, if_pos ej]
      · rw [if_neg ej, if_neg ej, if_neg (fun z => ej (z.symm.trans e))]
        omega
    · rw [List.filter_cons_of_pos (by simpa using e), cf_cons, cf_cons, ih]
      by_cases ej : j = k
      · rw [if_pos ej, if_pos ej, if_neg (fun z => e (z.trans ej))]
        rfl
      · rw [if_neg ej, if_neg ej]
theorem dropI_mem {L : Poly} {k : Mon} {p : List Int × Int} : p ∈ dropI L k ↔ p ∈ L ∧ p.1 ≠ k := by
  unfold dropI
  rw [List.mem_filter]
  simp
end Dw
/-! Products of tables, their greatest terms, tables moved. -/
namespace Dw
open L2

/-! ### adding up -/
def accum (L es : Poly) : Poly := es.foldl (fun acc e => putI acc e.1 ((lookI acc e.1).getD 0 + e.2)) L
theorem accum_nil (L : Poly) : accum L [] = L := rfl
theorem accum_cons (L : Poly) (e : List Int × Int) (es : Poly) : accum L (e :: es) = accum (putI L e.1 ((lookI L e.1).getD 0 + e.2)) es := rfl
theorem accum_snoc (L es : Poly) (e : List Int × Int) : accum L (es ++ [e]) = putI (accum L es) e.1 ((lookI (accum L es) e.1).getD 0 + e.2) := by
  unfold accum
  rw [List.foldl_append]
  rfl
theorem accum_append (L es fs : Poly) : accum L (es ++ fs) = accum (accum L es) fs := List.foldl_append
theorem accum_keys : ∀ (es : Poly) {L : Poly}, Keys L → Keys (accum L es)
  | [], _, h => h
  | e :: es, _, h => accum_keys es (putI_keys h _ _)
theorem accum_cf : ∀ (es : Poly) {L : Poly}, Keys L → ∀ k, cf (accum L es) k = cf L k + cf es k
  | [], _, _, k => by rw [accum_nil, cf_nil, Int.add_zero]
  | e :: es, L, h, k => by
    rw [accum_cons, accum_cf es (putI_keys h _ _), cf_put h, lookI_cf h, cf_cons]
    by_cases c : k = e.1
    · rw [if_pos c, if_pos c.symm, c]
      omega
    · rw [if_neg c, if_neg (fun z => c z.symm)]
      omega
theorem accum_len (n : Nat) : ∀ (es : Poly) {L : Poly}, (∀ p ∈ L, p.1.length = n) → (∀ p ∈ es, p.1.length = n) → ∀ p ∈ accum L es, p.1.length = n
  | [], _, h, _, p, hp => h p hp
  | e :: es, L, h, g, p, hp => accum_len n es (fun q hq => by
      rcases putI_mem hq with z | z
      · exact h q z
      · rw [z]; exact g e List.mem_cons_self) (fun q hq => g q (List.mem_cons_of_mem _ hq)) p hp
theorem accum_length : ∀ (es L : Poly), (accum L es).length ≤ L.length + es.length
  | [], L => Nat.le_refl _
  | e :: es, L => by
    have a := accum_length es (putI L e.1 ((lookI L e.1).getD 0 + e.2))
    have b := putI_length L e.1 ((lookI L e.1).getD 0 + e.2)
    rw [accum_cons, List.length_cons]
    omega
/-- each key is one of those -/
theorem accum_key {P : Mon → Prop} : ∀ (es : Poly) {L : Poly}, (∀ p ∈ L, P p.1) → (∀ p ∈ es, P p.1) → ∀ p ∈ accum L es, P p.1
  | [], _, h, _, p, hp => h p hp
  | e :: es, L, h, g, p, hp => accum_key es (fun q hq => by
      rcases putI_mem hq with z | z
      · exact h q z
      · rw [z]; exact g e List.mem_cons_self) (fun q hq => g q (List.mem_cons_of_mem _ hq)) p hp
/-- a table without its zeros -/
def noZero (L : Poly) : Poly := L.filter fun p => decide (p.2 ≠ 0)
theorem noZero_tab {n : Nat} {L : Poly} (h : Keys L) (g : ∀ p ∈ L, p.1.length = n) : Tab n (noZero L) :=
  ⟨h.sublist (List.Sublist.map _ List.filter_sublist), fun p hp => g p (List.mem_filter.mp hp).1, fun p hp => of_decide_eq_true (List.mem_filter.mp hp).2⟩
theorem noZero_cf (L : Poly) (k : Mon) : cf (noZero L) k = cf L k := cf_filter L k

/-! ### products -/
def mulE (P Q : Poly) : Poly := P.flatMap fun p => Q.map fun q => (mAdd p.1 q.1, p.2 * q.2)
theorem mulE_cons (p : List Int × Int) (P Q : Poly) : mulE (p :: P) Q = (Q.map fun q => (mAdd p.1 q.1, p.2 * q.2)) ++ mulE P Q := rfl
theorem mulE_append (P P' Q : Poly) : mulE (P ++ P') Q = mulE P Q ++ mulE P' Q := List.flatMap_append
theorem mulE_mem {P Q : Poly} {x : List Int × Int} : x ∈ mulE P Q ↔ ∃ p ∈ P, ∃ q ∈ Q, x = (mAdd p.1 q.1, p.2 * q.2) := by
  unfold mulE
  rw [List.mem_flatMap]
  constructor
  · rintro ⟨p, hp, h⟩
    obtain ⟨q, hq, e⟩ := List.mem_map.mp h
    exact ⟨p, hp, q, hq, e.symm⟩
  · rintro ⟨p, hp, q, hq, e⟩
    exact ⟨p, hp, List.mem_map.mpr ⟨q, hq, e.symm⟩⟩
theorem mulE_len {n : Nat} {P Q : Poly} (hP : ∀ p ∈ P, p.1.length = n) (hQ : ∀ p ∈ Q, p.1.length = n) : ∀ x ∈ mulE P Q, x.1.length = n := fun x hx => by
  obtain ⟨p, hp, q, hq, e⟩ := mulE_mem.mp hx
  rw [e]
  exact mAdd_len (hP p hp) (hQ q hq)
theorem mulE_length (P Q : Poly) : (mulE P Q).length = P.length * Q.length := by
  induction P with
  | nil => simp [mulE]
  | cons p P ih => rw [mulE_cons, List.length_append, List.length_map, ih, List.length_cons, Nat.succ_mul, Nat.add_comm]
/-- one term times Q -/
theorem cf_term {n : Nat} {Q : Poly} (hQ : ∀ p ∈ Q, p.1.length = n) {a : Mon} (ha : a.length = n) (c : Int) {k : Mon} (hk : k.length = n) : cf (Q.map fun q => (mAdd a q.1, c * q.2)) k = c * cf Q (mSub k a) := by
  unfold cf
  rw [List.map_map, ← sum_mul c]
  congr 1
  refine List.map_congr_left fun q hq => ?_
  show (if mAdd a q.1 = k then c * q.2 else 0) = c * (if q.1 = mSub k a then q.2 else 0)
  have hq' := hQ q hq
  by_cases e : mAdd a q.1 = k
  · have e2 : q.1 = mSub k a := by rw [← e, mAdd_comm, mSub_add (by omega)]
    rw [if_pos e, if_pos e2]
  · have e2 : ¬ q.1 = mSub k a := fun z => e (by rw [z, mAdd_comm, mAdd_sub (by omega)])
    rw [if_neg e, if_neg e2, Int.mul_zero]
/-- the coefficients of a product, over the terms of the second -/
theorem cf_mulE {n : Nat} {P Q : Poly} (hP : ∀ p ∈ P, p.1.length = n) (hQ : ∀ p ∈ Q, p.1.length = n) {k : Mon} (hk : k.length = n) : cf (mulE P Q) k = (Q.map fun q => q.2 * cf P (mSub k q.1)).sum := by
  induction P with
  | nil =>
    show (0 : Int) = _
    exact (sum_zero fun q _ => by show q.2 * cf [] _ = 0; rw [cf_nil, Int.mul_zero]).symm
  | cons p P ih =>
    rw [mulE_cons, cf_append, ih fun q hq => hP q (List.mem_cons_of_mem _ hq)]
    have e : cf (Q.map fun q => (mAdd p.1 q.1, p.2 * q.2)) k = (Q.map fun q => q.2 * (if p.1 = mSub k q.1 then p.2 else 0)).sum := by
      unfold cf
      rw [List.map_map]
      congr 1
      refine List.map_congr_left fun q hq => ?_
      show (if mAdd p.1 q.1 = k then p.2 * q.2 else 0) = q.2 * (if p.1 = mSub k q.1 then p.2 else 0)
      have h1 := hP p List.mem_cons_self
      have h2 := hQ q hq
      by_cases e : mAdd p.1 q.1 = k
      · have e2 : p.1 = mSub k q.1 := by rw [← e, mSub_add (by omega)]
        rw [if_pos e, if_pos e2, Int.mul_comm]
      · have e2 : ¬ p.1 = mSub k q.1 := fun z => e (by rw [z, mAdd_sub (by omega)])
        rw [if_neg e, if_neg e2, Int.mul_zero]
    rw [e, ← sum_add]
    congr 1
    refine List.map_congr_left fun q _ => ?_
    rw [cf_cons, Int.mul_add]
theorem mulE_congr {n : Nat} {P P' Q : Poly} (hP : ∀ p ∈ P, p.1.length = n) (hP' : ∀ p ∈ P', p.1.length = n) (hQ : ∀ p ∈ Q, p.1.length = n) (h : ∀ k, k.length = n → cf P k = cf P' k) {k : Mon} (hk : k.length = n) : cf (mulE P Q) k = cf (mulE P' Q) k := by
  rw [cf_mulE hP hQ hk, cf_mulE hP' hQ hk]
  congr 1
  exact List.map_congr_left fun q hq => by rw [h _ (mSub_len hk (hQ q hq))]
/-- the difference of two tables -/
theorem exists_diff {n : Nat} {P P' : Poly} (kP : Keys P) (hP : ∀ p ∈ P, p.1.length = n) (hP' : ∀ p ∈ P', p.1.length = n) : ∃ R, Tab n R ∧ ∀ k, cf R k = cf P k - cf P' k := by
  refine ⟨noZero (accum P (P'.map fun p => (p.1, - p.2))), noZero_tab (accum_keys _ kP) (accum_len n _ hP fun p hp => ?_), fun k => ?_⟩
  · obtain ⟨q, hq, e⟩ := List.mem_map.mp hp
    rw [← e]
    exact hP' q hq
  · rw [noZero_cf, accum_cf _ kP]
    have e : cf (P'.map fun p => (p.1, - p.2)) k = - cf P' k := by
      have : ∀ L : Poly, cf (L.map fun p => (p.1, - p.2)) k = - cf L k := fun L => by
        induction L with
        | nil => rfl
        | cons p L ih =>
          rw [List.map_cons, cf_cons, cf_cons, ih]
          dsimp only
          split <;> omega
      exact this P'
    rw [e]
    omega
theorem mulE_diff {n : Nat} {P P' R Q : Poly} (hP : ∀ p ∈ P, p.1.length = n) (hP' : ∀ p ∈ P', p.1.length = n) (hR : ∀ p ∈ R, p.1.length = n) (hQ : ∀ p ∈ Q, p.1.length = n) (h : ∀ k, cf R k = cf P k - cf P' k) {k : Mon} (hk : k.length = n) :
    cf (mulE R Q) k = cf (mulE P Q) k - cf (mulE P' Q) k := by
  rw [cf_mulE hP hQ hk, cf_mulE hP' hQ hk, cf_mulE hR hQ hk, ← sum_sub]
  congr 1
  exact List.map_congr_left fun q _ => by rw [h, Int.mul_sub]

/-! ### the greatest terms; φ looks at the exponents -/
/-- φ agrees with addition -/
structure Add (n : Nat) (φ : Mon → Mon) : Prop where
  add : ∀ a b, a.length = n → b.length = n → φ (mAdd a b) = mAdd (φ a) (φ b)
  len : ∀ a b, a.length = n → b.length = n → (φ a).length = (φ b).length
  inj : ∀ a b, a.length = n → b.length = n → φ a = φ b → a = b
theorem add_id (n : Nat) : Add n id := ⟨fun _ _ _ _ => rfl, fun a b h g => h.trans g.symm, fun _ _ _ _ e => e⟩
theorem add_high {n x : Nat} (hx : x < n) : Add n fun a => a.getD x 0 :: a := by
  refine ⟨fun a b h g => ?_, fun a b h g => by rw [List.length_cons, List.length_cons, h, g], fun a b _ _ e => (List.cons.inj e).2⟩
  show (mAdd a b).getD x 0 :: mAdd a b = (a.getD x 0 + b.getD x 0) :: mAdd a b
  rw [mAdd_get (by omega) (by omega)]
theorem add_low {n x : Nat} (hx : x < n) : Add n fun a => (- a.getD x 0) :: a := by
  refine ⟨fun a b h g => ?_, fun a b h g => by rw [List.length_cons, List.length_cons, h, g], fun a b _ _ e => (List.cons.inj e).2⟩
  show (- (mAdd a b).getD x 0) :: mAdd a b = (- a.getD x 0 + - b.getD x 0) :: mAdd a b
  rw [mAdd_get (by omega) (by omega), Int.neg_add]
/-- x is a greatest term -/
def Top (φ : Mon → Mon) (L : Poly) (x : List Int × Int) : Prop := x ∈ L ∧ ∀ y ∈ L, HT.lexLt (φ x.1) (φ y.1) = false
theorem exists_top (φ : Mon → Mon) : ∀ {L : Poly}, L ≠ [] → ∃ x, Top φ L x
  | [], h => absurd rfl h
  | [x], _ => ⟨x, List.mem_cons_self, fun y hy => by rw [List.mem_singleton.mp hy]; exact lex_irr _⟩
  | x :: y :: L, _ => by
    obtain ⟨z, hz, h⟩ := exists_top φ (L := y :: L) (by simp)
    cases c : HT.lexLt (φ z.1) (φ x.1) with
    | true =>
      refine ⟨x, List.mem_cons_self, fun w hw => ?_⟩
      rcases List.mem_cons.mp hw with e | hw
      · rw [e]; exact lex_irr _
      · cases d : HT.lexLt (φ x.1) (φ w.1) with
        | false => rfl
        | true =>
          have q := lex_trans c d
          rw [h w hw] at q
          cases q
    | false =>
      refine ⟨z, List.mem_cons_of_mem _ hz, fun w hw => ?_⟩
      rcases List.mem_cons.mp hw with e | hw
      · rw [e]; exact c
      · exact h w hw
theorem lex_sum_le {a b c d : Mon} (h1 : HT.lexLt c a = false) (h2 : HT.lexLt d b = false) (l1 : a.length = c.length) (l2 : b.length = d.length) (l3 : a.length = b.length) : HT.lexLt (mAdd c d) (mAdd a b) = false := by
  -- c >= a, d >= b : c + d >= a + d >= a + b
  have e1 : HT.lexLt (mAdd c d) (mAdd a d) = false := by rw [lex_add (by omega) (by omega)]; exact h1
  have e2 : HT.lexLt (mAdd a d) (mAdd a b) = false := by rw [lex_add' (by omega) (by omega)]; exact h2
  exact NtL.lex_tr _ _ _ e2 e1
theorem top_mul {n : Nat} {φ : Mon → Mon} (A : Add n φ) {P Q : Poly} (tP : Tab n P) (tQ : Tab n Q) {p q : List Int × Int} (hp : Top φ P p) (hq : Top φ Q q) :
    cf (mulE P Q) (mAdd p.1 q.1) = p.2 * q.2 ∧ ∀ k, k.length = n → cf (mulE P Q) k ≠ 0 → HT.lexLt (φ (mAdd p.1 q.1)) (φ k) = false := by
  have lp := tP.len p hp.1
  have lq := tQ.len q hq.1
  constructor
  · rw [cf_mulE tP.len tQ.len (mAdd_len lp lq)]
    have one : (Q.map fun q' => q'.2 * cf P (mSub (mAdd p.1 q.1) q'.1)).sum = (fun q' : List Int × Int => q'.2 * cf P (mSub (mAdd p.1 q.1) q'.1)) q := by
      refine sum_one (f := fun q' : List Int × Int => q'.2 * cf P (mSub (mAdd p.1 q.1) q'.1)) tQ.keys.nodup hq.1 fun q' hq' ne => ?_
      have lq' := tQ.len q' hq'
      show q'.2 * cf P (mSub (mAdd p.1 q.1) q'.1) = 0
      by_cases z : cf P (mSub (mAdd p.1 q.1) q'.1) = 0
      · rw [z, Int.mul_zero]
      · exfalso
        obtain ⟨c, hc⟩ := cf_key z
        have l1 : (mSub (mAdd p.1 q.1) q'.1).length = n := mSub_len (mAdd_len lp lq) lq'
        have e : mAdd (mSub (mAdd p.1 q.1) q'.1) q'.1 = mAdd p.1 q.1 := mAdd_sub (by rw [mAdd_len lp lq, lq'])
        have h1 := hp.2 _ hc
        have h2 := hq.2 _ hq'
        have e2 := congrArg φ e
        rw [A.add _ _ l1 lq', A.add _ _ lp lq] at e2
        -- q' < q or q' = q
        have ne2 : φ q'.1 ≠ φ q.1 := fun z => ne (nodup_at tQ.keys hq' hq.1 (A.inj _ _ lq' lq z))
        have lt2 : HT.lexLt (φ q'.1) (φ q.1) = true := lex_lt_of h2 ne2
        have s1 : HT.lexLt (mAdd (φ (mSub (mAdd p.1 q.1) q'.1)) (φ q'.1)) (mAdd (φ (mSub (mAdd p.1 q.1) q'.1)) (φ q.1)) = true := by
          rw [lex_add' (A.len _ _ lq' lq) (A.len _ _ lq l1)]
          exact lt2
        have s2 : HT.lexLt (mAdd (φ p.1) (φ q.1)) (mAdd (φ (mSub (mAdd p.1 q.1) q'.1)) (φ q.1)) = false := by
          rw [lex_add (A.len _ _ lp l1) (A.len _ _ l1 lq)]
          exact h1
        have s3 := lex_lt_le s1 s2
        rw [e2, lex_irr] at s3
        cases s3
    rw [one]
    show q.2 * cf P (mSub (mAdd p.1 q.1) q.1) = p.2 * q.2
    rw [mSub_add (by omega), cf_mem tP.keys hp.1, Int.mul_comm]
  · intro k hk hne
    obtain ⟨c, hc⟩ := cf_key hne
    obtain ⟨p', hp', q', hq', e⟩ := mulE_mem.mp hc
    have e1 : k = mAdd p'.1 q'.1 := congrArg Prod.fst e
    have lp' := tP.len p' hp'
    have lq' := tQ.len q' hq'
    rw [e1, A.add _ _ lp lq, A.add _ _ lp' lq']
    exact lex_sum_le (hp.2 p' hp') (hq.2 q' hq') (A.len _ _ lp' lp) (A.len _ _ lq' lq) (A.len _ _ lp' lq')
theorem mul_nz {a b : Int} (h : a ≠ 0) (g : b ≠ 0) : a * b ≠ 0 := Int.mul_ne_zero h g
/-- a product that is nought has a nought factor -/
theorem mul_zero {n : Nat} {P Q : Poly} (tP : Tab n P) (tQ : Tab n Q) (hQ : Q ≠ []) (h : ∀ k, k.length = n → cf (mulE P Q) k = 0) : P = [] := by
  by_cases e : P = []
  · exact e
  · exfalso
    obtain ⟨p, hp⟩ := exists_top id e
    obtain ⟨q, hq⟩ := exists_top id hQ
    have z := (top_mul (add_id n) tP tQ hp hq).1
    rw [h _ (mAdd_len (tP.len p hp.1) (tQ.len q hq.1))] at z
    exact mul_nz (tP.nz p hp.1) (tQ.nz q hq.1) z.symm
/-- P * Q = P' * Q: P and P' are one -/
theorem mul_cancel {n : Nat} {P P' Q : Poly} (cP : Can n P) (cP' : Can n P') (tQ : Tab n Q) (hQ : Q ≠ []) (h : ∀ k, k.length = n → cf (mulE P Q) k = cf (mulE P' Q) k) : P = P' := by
  obtain ⟨R, tR, hR⟩ := exists_diff cP.tab.keys cP.len cP'.len
  have e : R = [] := mul_zero tR tQ hQ fun k hk => by rw [mulE_diff cP.len cP'.len tR.len tQ.len hR hk, h k hk]; omega
  refine can_eq cP cP' fun k _ => ?_
  have z := hR k
  rw [e, cf_nil] at z
  omega

/-! ### tables moved -/
def moveP (by_ : Mon) (L : Poly) : Poly := L.map fun p => (mAdd p.1 by_, p.2)
theorem moveP_len {n : Nat} {L : Poly} {b : Mon} (h : ∀ p ∈ L, p.1.length = n) (hb : b.length = n) : ∀ p ∈ moveP b L, p.1.length = n := fun p hp => by
  obtain ⟨q, hq, e⟩ := List.mem_map.mp hp
  rw [← e]
  exact mAdd_len (h q hq) hb
theorem moveP_keys {n : Nat} {L : Poly} {b : Mon} (k : Keys L) (h : ∀ p ∈ L, p.1.length = n) (hb : b.length = n) : Keys (moveP b L) := by
  unfold Keys moveP
  rw [List.map_map]
  refine List.pairwise_map.mpr ((List.pairwise_map.mp k).imp_of_mem fun {x y} hx hy ne e => ?_)
  exact ne (mAdd_inj (by rw [h x hx, hb]) (by rw [h y hy, hb]) e)
theorem moveP_tab {n : Nat} {L : Poly} {b : Mon} (t : Tab n L) (hb : b.length = n) : Tab n (moveP b L) :=
  ⟨moveP_keys t.keys t.len hb, moveP_len t.len hb, fun p hp => by
    obtain ⟨q, hq, e⟩ := List.mem_map.mp hp
    rw [← e]
    exact t.nz q hq⟩
theorem moveP_asc {n : Nat} {L : Poly} {b : Mon} (a : Asc L) (h : ∀ p ∈ L, p.1.length = n) (hb : b.length = n) : Asc (moveP b L) := by
  unfold Asc moveP
  refine List.pairwise_map.mpr (List.Pairwise.imp_of_mem (fun {x y} hx hy z => ?_) a)
  rw [lex_add (by rw [h x hx, h y hy]) (by rw [h y hy, hb])]
  exact z
theorem cf_move {n : Nat} {L : Poly} {b k : Mon} (h : ∀ p ∈ L, p.1.length = n) (hb : b.length = n) (hk : k.length = n) : cf (moveP b L) k = cf L (mSub k b) := by
  unfold cf moveP
  rw [List.map_map]
  congr 1
  refine List.map_congr_left fun q hq => ?_
  show (if mAdd q.1 b = k then q.2 else 0) = if q.1 = mSub k b then q.2 else 0
  have hq' := h q hq
  by_cases e : mAdd q.1 b = k
  · rw [if_pos e, if_pos (by rw [← e, mSub_add (by omega)])]
  · rw [if_neg e, if_neg fun z => e (by rw [z, mAdd_sub (by omega)])]
theorem move_back {n : Nat} {L : Poly} {b : Mon} (h : ∀ p ∈ L, p.1.length = n) (hb : b.length = n) : moveP b (moveP (mNeg b) L) = L := by
  unfold moveP
  rw [List.map_map]
  refine (List.map_congr_left fun p hp => ?_).trans (List.map_id L)
  show (mAdd (mAdd p.1 (mNeg b)) b, p.2) = p
  rw [mNeg_cancel (by rw [h p hp, hb])]
theorem flat_congr {α β : Type} {f g : α → List β} : ∀ {l : List α}, (∀ x ∈ l, f x = g x) → l.flatMap f = l.flatMap g
  | [], _ => rfl
  | x :: l, h => by
    rw [List.flatMap_cons, List.flatMap_cons, h x List.mem_cons_self, flat_congr fun y hy => h y (List.mem_cons_of_mem _ hy)]
/-- (P moved) * (Q moved back) is P * Q moved -/
theorem mulE_move {n : Nat} {P Q : Poly} {a b : Mon} (hP : ∀ p ∈ P, p.1.length = n) (hQ : ∀ p ∈ Q, p.1.length = n) (ha : a.length = n) (hb : b.length = n) :
    mulE (moveP a P) Q = moveP (mAdd a b) (mulE P (moveP (mNeg b) Q)) := by
  unfold mulE moveP
  rw [List.flatMap_map, List.map_flatMap]
  refine flat_congr fun p hp => ?_
  rw [List.map_map, List.map_map]
  refine List.map_congr_left fun q hq => ?_
  show (mAdd (mAdd p.1 a) q.1, p.2 * q.2) = (mAdd (mAdd p.1 (mAdd q.1 (mNeg b))) (mAdd a b), p.2 * q.2)
  congr 1
  refine mon_ext (n := n) (mAdd_len (mAdd_len (hP p hp) ha) (hQ q hq)) (mAdd_len (mAdd_len (hP p hp) (mAdd_len (hQ q hq) (by rw [mNeg_len, hb]))) (mAdd_len ha hb)) fun i hi => ?_
  have l1 := hP p hp
  have l2 := hQ q hq
  have l3 : (mNeg b).length = n := by rw [mNeg_len, hb]
  rw [mAdd_get (by rw [mAdd_len l1 ha]; exact hi) (by omega), mAdd_get (by omega) (by omega), mAdd_get (by rw [mAdd_len l1 (mAdd_len l2 l3)]; exact hi) (by rw [mAdd_len ha hb]; exact hi),
    mAdd_get (by omega) (by rw [mAdd_len l2 l3]; exact hi), mAdd_get (by omega) (by omega), mAdd_get (by omega) (by omega), mNeg_get (by omega)]
  omega
end Dw
/-! Division of tables: the loop's invariant, why it ends, when it can't fail. -/
namespace Dw
open L2

structure IsLow (n : Nat) (L : Poly) (lo : Mon) : Prop where
  len : lo.length = n
  le : ∀ x, x < n → ∀ p ∈ L, lo.getD x 0 ≤ p.1.getD x 0
  hit : ∀ x, x < n → ∃ p ∈ L, p.1.getD x 0 = lo.getD x 0
structure IsHigh (n : Nat) (L : Poly) (hi : Mon) : Prop where
  len : hi.length = n
  le : ∀ x, x < n → ∀ p ∈ L, p.1.getD x 0 ≤ hi.getD x 0
  hit : ∀ x, x < n → ∃ p ∈ L, p.1.getD x 0 = hi.getD x 0
theorem lex_head {a b : Int} {as bs : Mon} (h : HT.lexLt (a :: as) (b :: bs) = false) : b ≤ a := by
  rw [HT.lexLt_cons] at h
  by_cases e : a = b
  · omega
  · rw [if_neg e] at h
    have := of_decide_eq_false h
    omega
theorem low_mul {n : Nat} {P Q S : Poly} {lp lq ls : Mon} (tP : Tab n P) (tQ : Tab n Q) (tS : Tab n S) (nP : P ≠ []) (nQ : Q ≠ []) (hS : ∀ k, k.length = n → cf S k = cf (mulE P Q) k) (a : IsLow n P lp) (b : IsLow n Q lq) (c : IsLow n S ls) : ls = mAdd lp lq := by
  refine mon_ext (n := n) c.len (mAdd_len a.len b.len) fun x hx => ?_
  obtain ⟨p, hp⟩ := exists_top (fun k => (- k.getD x 0) :: k) nP
  obtain ⟨q, hq⟩ := exists_top (fun k => (- k.getD x 0) :: k) nQ
  have ep : p.1.getD x 0 = lp.getD x 0 := by
    obtain ⟨p0, h0, e0⟩ := a.hit x hx
    have z := lex_head (hp.2 p0 h0)
    have y := a.le x hx p hp.1
    omega
  have eq : q.1.getD x 0 = lq.getD x 0 := by
    obtain ⟨q0, h0, e0⟩ := b.hit x hx
    have z := lex_head (hq.2 q0 h0)
    have y := b.le x hx q hq.1
    omega
  have lenp := tP.len p hp.1
  have lenq := tQ.len q hq.1
  obtain ⟨m1, m2⟩ := top_mul (add_low hx) tP tQ hp hq
  have g : (mAdd p.1 q.1).getD x 0 = p.1.getD x 0 + q.1.getD x 0 := mAdd_get (by omega) (by omega)
  have g2 : (mAdd lp lq).getD x 0 = lp.getD x 0 + lq.getD x 0 := mAdd_get (by rw [a.len]; exact hx) (by rw [b.len]; exact hx)
  have ne : cf S (mAdd p.1 q.1) ≠ 0 := by
    rw [hS _ (mAdd_len lenp lenq), m1]
    exact mul_nz (tP.nz p hp.1) (tQ.nz q hq.1)
  obtain ⟨d, hd⟩ := cf_key ne
  have u1 := c.le x hx _ hd
  obtain ⟨s0, h0, e0⟩ := c.hit x hx
  have u2 := lex_head (m2 s0.1 (tS.len s0 h0) (by rw [← hS _ (tS.len s0 h0), cf_mem tS.keys h0]; exact tS.nz s0 h0))
  dsimp only at u1
  omega
theorem high_mul {n : Nat} {P Q S : Poly} {lp lq ls : Mon} (tP : Tab n P) (tQ : Tab n Q) (tS : Tab n S) (nP : P ≠ []) (nQ : Q ≠ []) (hS : ∀ k, k.length = n → cf S k = cf (mulE P Q) k) (a : IsHigh n P lp) (b : IsHigh n Q lq) (c : IsHigh n S ls) : ls = mAdd lp lq := by
  refine mon_ext (n := n) c.len (mAdd_len a.len b.len) fun x hx => ?_
  obtain ⟨p, hp⟩ := exists_top (fun k => (k.getD x 0) :: k) nP
  obtain ⟨q, hq⟩ := exists_top (fun k => (k.getD x 0) :: k) nQ
  have ep : p.1.getD x 0 = lp.getD x 0 := by
    obtain ⟨p0, h0, e0⟩ := a.hit x hx
    have z := lex_head (hp.2 p0 h0)
    have y := a.le x hx p hp.1
    omega
  have eq : q.1.getD x 0 = lq.getD x 0 := by
    obtain ⟨q0, h0, e0⟩ := b.hit x hx
    have z := lex_head (hq.2 q0 h0)
    have y := b.le x hx q hq.1
    omega
  have lenp := tP.len p hp.1
  have lenq := tQ.len q hq.1
  obtain ⟨m1, m2⟩ := top_mul (add_high hx) tP tQ hp hq
  have g : (mAdd p.1 q.1).getD x 0 = p.1.getD x 0 + q.1.getD x 0 := mAdd_get (by omega) (by omega)
  have g2 : (mAdd lp lq).getD x 0 = lp.getD x 0 + lq.getD x 0 := mAdd_get (by rw [a.len]; exact hx) (by rw [b.len]; exact hx)
  have ne : cf S (mAdd p.1 q.1) ≠ 0 := by
    rw [hS _ (mAdd_len lenp lenq), m1]
    exact mul_nz (tP.nz p hp.1) (tQ.nz q hq.1)
  obtain ⟨d, hd⟩ := cf_key ne
  have u1 := c.le x hx _ hd
  obtain ⟨s0, h0, e0⟩ := c.hit x hx
  have u2 := lex_head (m2 s0.1 (tS.len s0 h0) (by rw [← hS _ (tS.len s0 h0), cf_mem tS.keys h0]; exact tS.nz s0 h0))
  dsimp only at u1
  omega
theorem low_move {n : Nat} {L : Poly} {lo b : Mon} (a : IsLow n L lo) (h : ∀ p ∈ L, p.1.length = n) (hb : b.length = n) : IsLow n (moveP b L) (mAdd lo b) := by
  refine ⟨mAdd_len a.len hb, fun x hx p hp => ?_, fun x hx => ?_⟩
  · obtain ⟨q, hq, e⟩ := List.mem_map.mp hp
    rw [← e, mAdd_get (by rw [a.len]; exact hx) (by omega)]
    show _ ≤ (mAdd q.1 b).getD x 0
    rw [mAdd_get (by rw [h q hq]; exact hx) (by omega)]
    have := a.le x hx q hq
    omega
  · obtain ⟨q, hq, e⟩ := a.hit x hx
    refine ⟨_, List.mem_map.mpr ⟨q, hq, rfl⟩, ?_⟩
    show (mAdd q.1 b).getD x 0 = _
    rw [mAdd_get (by rw [h q hq]; exact hx) (by omega), mAdd_get (by rw [a.len]; exact hx) (by omega), e]
theorem high_move {n : Nat} {L : Poly} {hi b : Mon} (a : IsHigh n L hi) (h : ∀ p ∈ L, p.1.length = n) (hb : b.length = n) : IsHigh n (moveP b L) (mAdd hi b) := by
  refine ⟨mAdd_len a.len hb, fun x hx p hp => ?_, fun x hx => ?_⟩
  · obtain ⟨q, hq, e⟩ := List.mem_map.mp hp
    rw [← e]
    show (mAdd q.1 b).getD x 0 ≤ _
    rw [mAdd_get (by rw [h q hq]; exact hx) (by omega), mAdd_get (by rw [a.len]; exact hx) (by omega)]
    have := a.le x hx q hq
    omega
  · obtain ⟨q, hq, e⟩ := a.hit x hx
    refine ⟨_, List.mem_map.mpr ⟨q, hq, rfl⟩, ?_⟩
    show (mAdd q.1 b).getD x 0 = _
    rw [mAdd_get (by rw [h q hq]; exact hx) (by omega), mAdd_get (by rw [a.len]; exact hx) (by omega), e]
theorem high_one {n : Nat} {L : Poly} {a b : Mon} (h : IsHigh n L a) (g : IsHigh n L b) : a = b := mon_ext h.len g.len fun x hx => by
  obtain ⟨p, hp, e⟩ := h.hit x hx
  obtain ⟨q, hq, e'⟩ := g.hit x hx
  have := h.le x hx q hq
  have := g.le x hx p hp
  omega
theorem low_one {n : Nat} {L : Poly} {a b : Mon} (h : IsLow n L a) (g : IsLow n L b) : a = b := mon_ext h.len g.len fun x hx => by
  obtain ⟨p, hp, e⟩ := h.hit x hx
  obtain ⟨q, hq, e'⟩ := g.hit x hx
  have := h.le x hx q hq
  have := g.le x hx p hp
  omega
theorem exists_low {n : Nat} {L : Poly} (ne : L ≠ []) : ∃ lo, IsLow n L lo := by
  have at_ : ∀ x, ∃ v : Int, (∀ p ∈ L, v ≤ p.1.getD x 0) ∧ ∃ p ∈ L, p.1.getD x 0 = v := fun x => by
    obtain ⟨p, hp⟩ := exists_top (fun k => [- k.getD x 0]) ne
    exact ⟨p.1.getD x 0, fun q hq => by have := lex_head (hp.2 q hq); omega, p, hp.1, rfl⟩
  refine ⟨(List.range n).map fun x => Classical.choose (at_ x), by rw [List.length_map, List.length_range], fun x hx p hp => ?_, fun x hx => ?_⟩
  · have e : ((List.range n).map fun x => Classical.choose (at_ x)).getD x 0 = Classical.choose (at_ x) := by
      rw [List.getD_eq_getElem?_getD, List.getElem?_map, List.getElem?_range hx]
      rfl
    rw [e]
    exact (Classical.choose_spec (at_ x)).1 p hp
  · have e : ((List.range n).map fun x => Classical.choose (at_ x)).getD x 0 = Classical.choose (at_ x) := by
      rw [List.getD_eq_getElem?_getD, List.getElem?_map, List.getElem?_range hx]
      rfl
    rw [e]
    exact (Classical.choose_spec (at_ x)).2
theorem exists_high {n : Nat} {L : Poly} (ne : L ≠ []) : ∃ hi, IsHigh n L hi := by
  have at_ : ∀ x, ∃ v : Int, (∀ p ∈ L, p.1.getD x 0 ≤ v) ∧ ∃ p ∈ L, p.1.getD x 0 = v := fun x => by
    obtain ⟨p, hp⟩ := exists_top (fun k => [k.getD x 0]) ne
    exact ⟨p.1.getD x 0, fun q hq => by have := lex_head (hp.2 q hq); omega, p, hp.1, rfl⟩
  refine ⟨(List.range n).map fun x => Classical.choose (at_ x), by rw [List.length_map, List.length_range], fun x hx p hp => ?_, fun x hx => ?_⟩
  · have e : ((List.range n).map fun x => Classical.choose (at_ x)).getD x 0 = Classical.choose (at_ x) := by
      rw [List.getD_eq_getElem?_getD, List.getElem?_map, List.getElem?_range hx]
      rfl
    rw [e]
    exact (Classical.choose_spec (at_ x)).1 p hp
  · have e : ((List.range n).map fun x => Classical.choose (at_ x)).getD x 0 = Classical.choose (at_ x) := by
      rw [List.getD_eq_getElem?_getD, List.getElem?_map, List.getElem?_range hx]
      rfl
    rw [e]
    exact (Classical.choose_spec (at_ x)).2

/-! ### a number for each place of the box -/
def InBox (k : Mon) : Prop := ∀ v ∈ k, 0 ≤ v ∧ v ≤ 6
def code : Mon → Nat
  | [] => 0
  | x :: k => x.toNat * 7 ^ k.length + code k
theorem code_lt : ∀ {k : Mon}, InBox k → code k < 7 ^ k.length
  | [], _ => by decide
  | x :: k, h => by
    have ih := code_lt (k := k) fun v hv => h v (List.mem_cons_of_mem _ hv)
    have hx := h x List.mem_cons_self
    have e : x.toNat ≤ 6 := by omega
    have : x.toNat * 7 ^ k.length ≤ 6 * 7 ^ k.length := Nat.mul_le_mul_right _ e
    show x.toNat * 7 ^ k.length + code k < 7 ^ (k.length + 1)
    rw [Nat.pow_succ]
    omega
theorem code_mono : ∀ {a b : Mon}, a.length = b.length → InBox a → InBox b → HT.lexLt a b = true → code a < code b
  | [], [], _, _, _, h => by rw [HT.lexLt_nil_nil] at h; cases h
  | x :: a, y :: b, hl, ha, hb, h => by
    have hl' : a.length = b.length := by simpa using hl
    have ha' : InBox a := fun v hv => ha v (List.mem_cons_of_mem _ hv)
    have hb' : InBox b := fun v hv => hb v (List.mem_cons_of_mem _ hv)
    show x.toNat * 7 ^ a.length + code a < y.toNat * 7 ^ b.length + code b
    rw [HT.lexLt_cons] at h
    by_cases e : x = y
    · rw [if_pos e] at h
      have := code_mono hl' ha' hb' h
      rw [e, hl']
      omega
    · rw [if_neg e] at h
      have lt := of_decide_eq_true h
      have c := code_lt ha'
      have hx := ha x List.mem_cons_self
      have e1 : x.toNat + 1 ≤ y.toNat := by omega
      have : (x.toNat + 1) * 7 ^ b.length ≤ y.toNat * 7 ^ b.length := Nat.mul_le_mul_right _ e1
      rw [Nat.add_mul, Nat.one_mul] at this
      rw [hl'] at c ⊢
      omega
theorem pow7 {n : Nat} (h : n ≤ 3) : 7 ^ n ≤ 343 := by
  match n, h with
  | 0, _ => decide
  | 1, _ => decide
  | 2, _ => decide
  | 3, _ => decide

/-! ### one change of the rest -/
def upd1 (L : Poly) (k : Mon) (v : Int) : Poly := if v = 0 then dropI (putI L k v) k else putI L k v
theorem upd1_tab {n : Nat} {L : Poly} (t : Tab n L) {k : Mon} (hk : k.length = n) (v : Int) : Tab n (upd1 L k v) := by
  unfold upd1
  split
  · rename_i e
    refine ⟨dropI_keys (putI_keys t.keys _ _) _, fun p hp => ?_, fun p hp => ?_⟩
    · rcases putI_mem (dropI_mem.mp hp).1 with z | z
      · exact t.len p z
      · rw [z]; exact hk
    · rcases putI_mem (dropI_mem.mp hp).1 with z | z
      · exact t.nz p z
      · exact absurd (by rw [z]) (dropI_mem.mp hp).2
  · rename_i e
    refine ⟨putI_keys t.keys _ _, fun p hp => ?_, fun p hp => ?_⟩
    · rcases putI_mem hp with z | z
      · exact t.len p z
      · rw [z]; exact hk
    · rcases putI_mem hp with z | z
      · exact t.nz p z
      · rw [z]; exact e
theorem upd1_cf {L : Poly} (hn : Keys L) (k : Mon) (v : Int) (j : Mon) : cf (upd1 L k v) j = if j = k then v else cf L j := by
  unfold upd1
  split
  · rename_i e
    rw [cf_drop, cf_put hn]
    by_cases c : j = k
    · rw [if_pos c, if_pos c, e]
    · rw [if_neg c, if_neg c]
  · exact cf_put hn k v j
theorem upd1_mem {L : Poly} {k : Mon} {v : Int} {p : List Int × Int} (h : p ∈ upd1 L k v) : p ∈ L ∨ p.1 = k := by
  unfold upd1 at h
  split at h
  · rcases putI_mem (dropI_mem.mp h).1 with z | z
    · exact .inl z
    · exact .inr (by rw [z])
  · rcases putI_mem h with z | z
    · exact .inl z
    · exact .inr (by rw [z])
theorem upd1_length (L : Poly) (k : Mon) (v : Int) : (upd1 L k v).length ≤ L.length + 1 := by
  unfold upd1 dropI
  split
  · exact Nat.le_trans (List.length_filter_le _ _) (putI_length L k v)
  · exact putI_length L k v
/-- s times B at a, taken off -/
def subAll (a : Mon) (s : Int) (L B : Poly) : Poly := B.foldl (fun acc q => upd1 acc (mAdd a q.1) ((lookI acc (mAdd a q.1)).getD 0 - s * q.2)) L
theorem subAll_snoc (a : Mon) (s : Int) (L B : Poly) (q : List Int × Int) : subAll a s L (B ++ [q]) = upd1 (subAll a s L B) (mAdd a q.1) ((lookI (subAll a s L B) (mAdd a q.1)).getD 0 - s * q.2) := by
  unfold subAll
  rw [List.foldl_append]
  rfl
theorem subAll_all {n : Nat} {a : Mon} (ha : a.length = n) (s : Int) : ∀ {B L : Poly}, Tab n L → (∀ q ∈ B, q.1.length = n) →
    Tab n (subAll a s L B) ∧ (∀ j, cf (subAll a s L B) j = cf L j - cf (B.map fun q => (mAdd a q.1, s * q.2)) j) ∧ (∀ p ∈ subAll a s L B, p.1 ∈ L.map (·.1) ∨ ∃ q ∈ B, p.1 = mAdd a q.1) ∧ (subAll a s L B).length ≤ L.length + B.length
  | [], L, t, _ => ⟨t, fun j => by show cf L j = cf L j - 0; omega, fun p hp => .inl (List.mem_map.mpr ⟨p, hp, rfl⟩), Nat.le_refl _⟩
  | q :: B, L, t, h => by
    have hq := h q List.mem_cons_self
    have hk : (mAdd a q.1).length = n := mAdd_len ha hq
    obtain ⟨i1, i2, i3, i4⟩ := subAll_all (L := upd1 L (mAdd a q.1) ((lookI L (mAdd a q.1)).getD 0 - s * q.2)) ha s (upd1_tab t hk _) fun r hr => h r (List.mem_cons_of_mem _ hr)
    refine ⟨i1, fun j => ?_, fun p hp => ?_, ?_⟩
    · show cf (subAll a s _ B) j = _
      rw [i2 j, upd1_cf t.keys, lookI_cf t.keys, List.map_cons, cf_cons]
      dsimp only
      by_cases c : j = mAdd a q.1
      · rw [if_pos c, if_pos c.symm, c]
        omega
      · rw [if_neg c, if_neg (fun z => c z.symm)]
        omega
    · rcases i3 p hp with z | ⟨r, hr, z⟩
      · obtain ⟨y, hy, e⟩ := List.mem_map.mp z
        rcases upd1_mem hy with w | w
        · exact .inl (by rw [← e]; exact List.mem_map.mpr ⟨y, w, rfl⟩)
        · exact .inr ⟨q, List.mem_cons_self, by rw [← e]; exact w⟩
      · exact .inr ⟨r, List.mem_cons_of_mem _ hr, z⟩
    · have := upd1_length L (mAdd a q.1) ((lookI L (mAdd a q.1)).getD 0 - s * q.2)
      have e : (subAll a s L (q :: B)).length = (subAll a s (upd1 L (mAdd a q.1) ((lookI L (mAdd a q.1)).getD 0 - s * q.2)) B).length := rfl
      rw [List.length_cons]
      omega

/-! ### the loop -/
def In0 (n : Nat) (room k : Mon) : Prop := ∀ x, x < n → 0 ≤ k.getD x 0 ∧ k.getD x 0 ≤ room.getD x 0
structure DivInv (n : Nat) (A B : Poly) (head room : Mon) (found rest : Poly) : Prop where
  tR : Tab n rest
  tF : Tab n found
  eq : ∀ k, k.length = n → cf A k = cf (mulE found B) k + cf rest k
  box : ∀ f ∈ found, In0 n room f.1
  fall : ∀ f ∈ found, ∀ r ∈ rest, HT.lexLt r.1 (mAdd f.1 head) = true
  cde : ∀ r ∈ rest, InBox (mSub r.1 head) → code (mSub r.1 head) + found.length + 1 ≤ 343
  cnt : found.length ≤ 343
  many : rest.length ≤ A.length + B.length * found.length
theorem in_box {n : Nat} {room k : Mon} (hr : ∀ x, x < n → room.getD x 0 ≤ 6) (hk : k.length = n) (h : In0 n room k) : InBox k := fun v hv => by
  obtain ⟨i, hi, e⟩ := List.mem_iff_getElem.mp hv
  have z := h i (by omega)
  have y := hr i (by omega)
  rw [List.getD_eq_getElem?_getD, List.getElem?_eq_getElem hi] at z
  have z' : 0 ≤ k[i] ∧ k[i] ≤ room.getD i 0 := z
  omega
theorem div_start {n : Nat} (hn : n ≤ 3) {A B : Poly} {head room : Mon} (tA : Tab n A) (hh : head.length = n) : DivInv n A B head room [] A where
  tR := tA
  tF := ⟨List.nodup_nil, fun p hp => absurd hp (by simp), fun p hp => absurd hp (by simp)⟩
  eq := fun k _ => by show cf A k = 0 + cf A k; omega
  box := fun f hf => absurd hf (by simp)
  fall := fun f hf => absurd hf (by simp)
  cde := fun r hr hb => by
    have c := code_lt hb
    rw [mSub_len (tA.len r hr) hh] at c
    have := pow7 hn
    show code (mSub r.1 head) + 0 + 1 ≤ 343
    omega
  cnt := Nat.zero_le _
  many := Nat.le_add_right _ _
theorem div_step {n : Nat} {A B found rest : Poly} {head room t : Mon} {m c : Int} (inv : DivInv n A B head room found rest) (tB : Tab n B) (hh : Top id B (head, m)) (hr : ∀ x, x < n → room.getD x 0 ≤ 6)
    (ht : Top id rest (t, c)) (hin : In0 n room (mSub t head)) {s : Int} (hs : c = s * m) :
    DivInv n A B head room (found ++ [(mSub t head, s)]) (subAll (mSub t head) s rest B) ∧ mSub t head ∉ found.map (·.1) ∧ found.length + 1 ≤ 343 := by
  have lh : head.length = n := tB.len _ hh.1
  have lt : t.length = n := inv.tR.len _ ht.1
  have lp : (mSub t head).length = n := mSub_len lt lh
  have back : mAdd (mSub t head) head = t := mAdd_sub (by omega)
  have c0 : c ≠ 0 := inv.tR.nz _ ht.1
  have s0 : s ≠ 0 := fun z => c0 (by rw [hs, z, Int.zero_mul])
  obtain ⟨a1, a2, a3, a4⟩ := subAll_all lp s (B := B) inv.tR tB.len
  have fresh : mSub t head ∉ found.map (·.1) := fun hm => by
    obtain ⟨f, hf, e⟩ := List.mem_map.mp hm
    have z := inv.fall f hf _ ht.1
    have e' : f.1 = mSub t head := e
    rw [e', back, lex_irr] at z
    cases z
  have cd : code (mSub t head) + found.length + 1 ≤ 343 := inv.cde _ ht.1 (in_box hr lp hin)
  have cft : cf rest t = c := cf_mem inv.tR.keys ht.1
  have cfm : cf B head = m := cf_mem tB.keys hh.1
  -- all that is left lies below t
  have below : ∀ r ∈ subAll (mSub t head) s rest B, HT.lexLt r.1 t = true := fun r hr' => by
    have lr := a1.len r hr'
    have le : HT.lexLt t r.1 = false := by
      rcases a3 r hr' with z | ⟨q, hq, z⟩
      · obtain ⟨y, hy, e⟩ := List.mem_map.mp z
        rw [← e]
        exact ht.2 y hy
      · have w : HT.lexLt (mAdd (mSub t head) head) (mAdd (mSub t head) q.1) = false := by
          rw [lex_add' (by rw [lh, tB.len q hq]) (by rw [tB.len q hq, lp])]
          exact hh.2 q hq
        rw [z]
        rw [back] at w
        exact w
    refine lex_lt_of le fun e => ?_
    have z : cf (subAll (mSub t head) s rest B) r.1 = r.2 := cf_mem a1.keys hr'
    have nz := a1.nz r hr'
    rw [a2, e, cft, cf_term tB.len lp s lt] at z
    have e2 : mSub t (mSub t head) = head := by
      have : mSub (mAdd head (mSub t head)) (mSub t head) = head := mSub_add (by omega)
      rw [mAdd_comm, back] at this
      exact this
    rw [e2, cfm] at z
    omega
  refine ⟨⟨a1, ?_, fun k hk => ?_, fun f hf => ?_, fun f hf r hr' => ?_, fun r hr' hb => ?_, ?_, ?_⟩, fresh, by omega⟩
  · refine ⟨?_, fun p hp => ?_, fun p hp => ?_⟩
    · unfold Keys
      rw [List.map_append]
      refine List.nodup_append.mpr ⟨inv.tF.keys, by simp, fun a ha b hb e => ?_⟩
      have e2 : b = mSub t head := by simpa using hb
      exact fresh (by rw [← e2, ← e]; exact ha)
    · rcases List.mem_append.mp hp with z | z
      · exact inv.tF.len p z
      · rw [List.mem_singleton.mp z]; exact lp
    · rcases List.mem_append.mp hp with z | z
      · exact inv.tF.nz p z
      · rw [List.mem_singleton.mp z]; exact s0
  · have e : mulE [(mSub t head, s)] B = B.map fun q => (mAdd (mSub t head) q.1, s * q.2) := by
      rw [mulE_cons]
      exact List.append_nil _
    rw [mulE_append, cf_append, e, a2 k, inv.eq k hk]
    omega
  · rcases List.mem_append.mp hf with z | z
    · exact inv.box f z
    · rw [List.mem_singleton.mp z]; exact hin
  · rcases List.mem_append.mp hf with z | z
    · exact lex_trans (below r hr') (inv.fall f z _ ht.1)
    · rw [List.mem_singleton.mp z]
      show HT.lexLt r.1 (mAdd (mSub t head) head) = true
      rw [back]
      exact below r hr'
  · have lr := a1.len r hr'
    have lower : HT.lexLt (mSub r.1 head) (mSub t head) = true := by
      have z := below r hr'
      rw [← mAdd_sub (a := r.1) (b := head) (by omega), ← back, lex_add (by rw [mSub_len lr lh, lp]) (by omega)] at z
      exact z
    have z := code_mono (by rw [mSub_len lr lh, lp]) hb (in_box hr lp hin) lower
    rw [List.length_append]
    show code (mSub r.1 head) + (found.length + 1) + 1 ≤ 343
    omega
  · rw [List.length_append]
    show found.length + 1 ≤ 343
    omega
  · rw [List.length_append]
    show _ ≤ A.length + B.length * (found.length + 1)
    have := inv.many
    rw [Nat.mul_add, Nat.mul_one]
    omega

/-! ### when it can't fail -/
theorem nofail_mul {n : Nat} {A B Q found rest : Poly} {head room t : Mon} {m c : Int} (inv : DivInv n A B head room found rest) (tB : Tab n B) (tQ : Tab n Q) (hh : Top id B (head, m)) (hA : ∀ k, k.length = n → cf A k = cf (mulE Q B) k) (hQ : ∀ p ∈ Q, In0 n room p.1)
    (ht : Top id rest (t, c)) : In0 n room (mSub t head) ∧ ∃ s, c = s * m := by
  have lh : head.length = n := tB.len _ hh.1
  have lt : t.length = n := inv.tR.len _ ht.1
  obtain ⟨R, tR, hR⟩ := exists_diff tQ.keys tQ.len inv.tF.len
  have er : ∀ k, k.length = n → cf rest k = cf (mulE R B) k := fun k hk => by
    rw [mulE_diff tQ.len inv.tF.len tR.len tB.len hR hk, ← hA k hk, inv.eq k hk]
    omega
  have cft : cf rest t = c := cf_mem inv.tR.keys ht.1
  have c0 : c ≠ 0 := inv.tR.nz _ ht.1
  have nR : R ≠ [] := fun z => by
    have e := er t lt
    rw [z, cft] at e
    exact c0 e
  obtain ⟨r, hr⟩ := exists_top id nR
  have lr := tR.len r hr.1
  obtain ⟨m1, m2⟩ := top_mul (add_id n) tR tB hr hh
  have lrh : (mAdd r.1 head).length = n := mAdd_len lr lh
  have nz : cf rest (mAdd r.1 head) ≠ 0 := by
    rw [er _ lrh, m1]
    exact mul_nz (tR.nz r hr.1) (tB.nz _ hh.1)
  obtain ⟨d, hd⟩ := cf_key nz
  have u1 : HT.lexLt t (mAdd r.1 head) = false := ht.2 _ hd
  have u2 : HT.lexLt (mAdd r.1 head) t = false := m2 t lt (by rw [← er t lt, cft]; exact c0)
  have et : t = mAdd r.1 head := lex_tot u1 u2
  have ep : mSub t head = r.1 := by rw [et]; exact mSub_add (by omega)
  refine ⟨?_, r.2, ?_⟩
  · rw [ep]
    have z : cf R r.1 ≠ 0 := by rw [cf_mem tR.keys hr.1]; exact tR.nz r hr.1
    rw [hR] at z
    by_cases y : cf Q r.1 = 0
    · have w : cf found r.1 ≠ 0 := by omega
      obtain ⟨d, hd⟩ := cf_key w
      exact inv.box (r.1, d) hd
    · obtain ⟨d, hd⟩ := cf_key y
      exact hQ (r.1, d) hd
  · rw [← cft, et, er _ lrh, m1]
theorem nofail_one {n : Nat} {A found rest : Poly} {z0 room t : Mon} {m c : Int} (inv : DivInv n A [(z0, m)] z0 room found rest) (m0 : m ≠ 0) (lz : z0.length = n) (hz : ∀ x, x < n → z0.getD x 0 = 0) (tA : Tab n A) (hdiv : ∀ p ∈ A, ∃ s, p.2 = s * m) (hA : ∀ p ∈ A, In0 n room p.1)
    (ht : Top id rest (t, c)) : In0 n room (mSub t z0) ∧ ∃ s, c = s * m := by
  have lt : t.length = n := inv.tR.len _ ht.1
  have esub : ∀ k : Mon, k.length = n → mSub k z0 = k := fun k hk => mon_ext (mSub_len hk lz) hk fun x hx => by rw [mSub_get (by omega) (by omega), hz x hx]; omega
  have eadd : ∀ k : Mon, k.length = n → mAdd k z0 = k := fun k hk => mon_ext (mAdd_len hk lz) hk fun x hx => by rw [mAdd_get (by omega) (by omega), hz x hx]; omega
  have cft : cf rest t = c := cf_mem inv.tR.keys ht.1
  have c0 : c ≠ 0 := inv.tR.nz _ ht.1
  have e := inv.eq t lt
  have prod : cf (mulE found [(z0, m)]) t = m * cf found t := by
    rw [cf_mulE inv.tF.len (fun p hp => by rw [List.mem_singleton.mp hp]; exact lz) lt, List.map_cons, List.map_nil, List.sum_cons, List.sum_nil, esub t lt]
    exact Int.add_zero _
  have none : cf found t = 0 := by
    by_cases z : cf found t = 0
    · exact z
    · obtain ⟨d, hd⟩ := cf_key z
      have w := inv.fall _ hd _ ht.1
      rw [eadd t lt, lex_irr] at w
      cases w
  rw [prod, none, cft, Int.mul_zero, Int.zero_add] at e
  obtain ⟨d, hd⟩ := cf_key (L := A) (k := t) (by rw [e]; exact c0)
  have ed : d = c := by rw [← cf_mem tA.keys hd, e]
  rw [esub t lt]
  refine ⟨hA _ hd, ?_⟩
  obtain ⟨s, hs⟩ := hdiv _ hd
  exact ⟨s, by rw [← ed]; exact hs⟩
end Dw
/-! What the functions of sums come to. -/
namespace Dw
open L2

/-- S is the sum of the table T -/
structure SumOf (T S : Poly) : Prop where
  asc : Asc S
  perm : S.Perm (noZero T)
theorem SumOf.can {n : Nat} {T S : Poly} (h : SumOf T S) (hT : ∀ p ∈ T, p.1.length = n) : Can n S :=
  ⟨h.asc, fun p hp => hT p (List.mem_filter.mp (h.perm.mem_iff.mp hp)).1, fun p hp => of_decide_eq_true (List.mem_filter.mp (h.perm.mem_iff.mp hp)).2⟩
theorem SumOf.cf {T S : Poly} (h : SumOf T S) (k : Mon) : cf S k = cf T k := by rw [cf_perm h.perm, noZero_cf]
theorem SumOf.one {T S S' : Poly} (h : SumOf T S) (g : SumOf T S') : S = S' := asc_ext h.asc g.asc fun x => by rw [h.perm.mem_iff, g.perm.mem_iff]
theorem SumOf.length {T S : Poly} (h : SumOf T S) : S.length ≤ T.length := by
  rw [h.perm.length_eq]
  exact List.length_filter_le _ _
theorem SumOf.key {T S : Poly} (h : SumOf T S) {p : List Int × Int} (hp : p ∈ S) : p ∈ T := (List.mem_filter.mp (h.perm.mem_iff.mp hp)).1

/-- all exponents lie within -/
def Within (n : Nat) (lo hi : Int) (L : Poly) : Prop := ∀ p ∈ L, ∀ x, x < n → lo ≤ p.1.getD x 0 ∧ p.1.getD x 0 ≤ hi
theorem Within.mono {n : Nat} {lo hi lo' hi' : Int} {L : Poly} (h : Within n lo hi L) (a : lo' ≤ lo) (b : hi ≤ hi') : Within n lo' hi' L := fun p hp x hx => by
  have := h p hp x hx
  omega
theorem Within.sum {n : Nat} {lo hi : Int} {T S : Poly} (h : Within n lo hi T) (g : SumOf T S) : Within n lo hi S := fun p hp => h p (g.key hp)
theorem Within.accum {n : Nat} {lo hi : Int} {L es : Poly} (h : Within n lo hi L) (g : Within n lo hi es) : Within n lo hi (accum L es) :=
  accum_key (P := fun k => ∀ x, x < n → lo ≤ k.getD x 0 ∧ k.getD x 0 ≤ hi) es h g
theorem Within.mul {n : Nat} {a b c d : Int} {P Q : Poly} (h : Within n a b P) (g : Within n c d Q) (hP : ∀ p ∈ P, p.1.length = n) (hQ : ∀ p ∈ Q, p.1.length = n) : Within n (a + c) (b + d) (mulE P Q) := fun z hz x hx => by
  obtain ⟨p, hp, q, hq, e⟩ := mulE_mem.mp hz
  rw [e]
  show a + c ≤ (mAdd p.1 q.1).getD x 0 ∧ (mAdd p.1 q.1).getD x 0 ≤ b + d
  rw [mAdd_get (by rw [hP p hp]; exact hx) (by rw [hQ q hq]; exact hx)]
  have := h p hp x hx
  have := g q hq x hx
  omega

/-! ### over -/
/-- where the loop stops with NotEven -/
def DivFail (n : Nat) (one other : Poly) : Prop := ∃ (lo ba hA hB head t : Mon) (m c : Int) (found rest : Poly), IsLow n one lo ∧ IsLow n other ba ∧ IsHigh n (moveP (mNeg lo) one) hA ∧ IsHigh n (moveP (mNeg ba) other) hB ∧
  DivInv n (moveP (mNeg lo) one) (moveP (mNeg ba) other) head (mSub hA hB) found rest ∧ Top id (moveP (mNeg ba) other) (head, m) ∧ Top id rest (t, c) ∧ ¬ (In0 n (mSub hA hB) (mSub t head) ∧ ∃ s, c = s * m)
/-- what it hands back -/
structure DivOk (n : Nat) (one other S : Poly) : Prop where
  can : Can n S
  few : S.length ≤ 343
  within : Within n (-1000) 1000 S
  eq : ∀ k, k.length = n → cf (mulE S other) k = cf one k
theorem sub_neg {n : Nat} {k b : Mon} (hk : k.length = n) (hb : b.length = n) : mSub (mSub k (mNeg b)) b = k := by
  have l : (mNeg b).length = n := by rw [mNeg_len, hb]
  refine mon_ext (n := n) (mSub_len (mSub_len hk l) hb) hk fun x hx => ?_
  rw [mSub_get (by rw [mSub_len hk l]; exact hx) (by omega), mSub_get (by omega) (by omega), mNeg_get (by omega)]
  omega
theorem sub_neg' {n : Nat} {k b : Mon} (hk : k.length = n) (hb : b.length = n) : mSub (mSub k b) (mNeg b) = k := by
  have l : (mNeg b).length = n := by rw [mNeg_len, hb]
  refine mon_ext (n := n) (mSub_len (mSub_len hk hb) l) hk fun x hx => ?_
  rw [mSub_get (by rw [mSub_len hk hb]; exact hx) (by omega), mSub_get (by omega) (by omega), mNeg_get (by omega)]
  omega
theorem move_nil {b : Mon} {L : Poly} (h : L ≠ []) : moveP b L ≠ [] := fun e => h (List.map_eq_nil_iff.mp e)
theorem fail_mul {n : Nat} {one other Q : Poly} (c1 : Can n one) (c2 : Can n other) (cQ : Can n Q) (nQ : Q ≠ []) (nO : other ≠ []) (h : ∀ k, k.length = n → cf one k = cf (mulE Q other) k) : ¬ DivFail n one other := by
  rintro ⟨lo, ba, hA, hB, head, t, m, c, found, rest, low1, low2, high1, high2, inv, th, tt, no⟩
  obtain ⟨lq, lowQ⟩ := exists_low (n := n) nQ
  have elo : lo = mAdd lq ba := by
    have ne : one ≠ [] := fun z => by
      have tq := cQ.tab
      refine nQ (mul_zero tq c2.tab nO fun k hk => ?_)
      rw [← h k hk, z, cf_nil]
    exact low_mul cQ.tab c2.tab c1.tab nQ nO h lowQ low2 low1
  have ln : (mNeg lq).length = n := by rw [mNeg_len, lowQ.len]
  have lb : (mNeg ba).length = n := by rw [mNeg_len, low2.len]
  have ll : (mNeg lo).length = n := by rw [mNeg_len, low1.len]
  have tQ0 : Tab n (moveP (mNeg lq) Q) := moveP_tab cQ.tab ln
  have tB : Tab n (moveP (mNeg ba) other) := moveP_tab c2.tab lb
  have tA : Tab n (moveP (mNeg lo) one) := moveP_tab c1.tab ll
  have prod : mulE Q other = moveP lo (mulE (moveP (mNeg lq) Q) (moveP (mNeg ba) other)) := by
    have e := mulE_move (P := moveP (mNeg lq) Q) (Q := other) (a := lq) (b := ba) tQ0.len c2.len lowQ.len low2.len
    rw [move_back cQ.len lowQ.len, ← elo] at e
    exact e
  have hAeq : ∀ k, k.length = n → cf (moveP (mNeg lo) one) k = cf (mulE (moveP (mNeg lq) Q) (moveP (mNeg ba) other)) k := fun k hk => by
    have l2 : (mSub k (mNeg lo)).length = n := mSub_len hk ll
    rw [cf_move c1.len ll hk, h _ l2, prod, cf_move (mulE_len tQ0.len tB.len) low1.len l2, sub_neg hk low1.len]
  obtain ⟨hq, highQ⟩ := exists_high (n := n) (L := moveP (mNeg lq) Q) (move_nil nQ)
  have ehA : hA = mAdd hq hB := high_mul tQ0 tB tA (move_nil nQ) (move_nil nO) hAeq highQ high2 high1
  have room : mSub hA hB = hq := by rw [ehA]; exact mSub_add (by rw [highQ.len, high2.len])
  rw [room] at inv no
  refine no (nofail_mul inv tB tQ0 th hAeq (fun p hp x hx => ⟨?_, highQ.le x hx p hp⟩) tt)
  obtain ⟨q, hq', e⟩ := List.mem_map.mp hp
  rw [← e]
  show 0 ≤ (mAdd q.1 (mNeg lq)).getD x 0
  rw [mAdd_get (by rw [cQ.len q hq']; exact hx) (by omega), mNeg_get (by rw [lowQ.len]; exact hx)]
  have := lowQ.le x hx q hq'
  omega
theorem fail_one {n : Nat} {one : Poly} {e : Mon} {m : Int} (c1 : Can n one) (c2 : Can n [(e, m)]) (h : ∀ p ∈ one, ∃ s, p.2 = s * m) : ¬ DivFail n one [(e, m)] := by
  rintro ⟨lo, ba, hA, hB, head, t, m', c, found, rest, low1, low2, high1, high2, inv, th, tt, no⟩
  have le : e.length = n := c2.len _ List.mem_cons_self
  have eba : ba = e := mon_ext low2.len le fun x hx => by
    obtain ⟨p, hp, z⟩ := low2.hit x hx
    rw [List.mem_singleton.mp hp] at z
    exact z.symm
  subst eba
  have lb : (mNeg ba).length = n := by rw [mNeg_len, low2.len]
  have ll : (mNeg lo).length = n := by rw [mNeg_len, low1.len]
  have z0 : ∀ x, x < n → (mAdd ba (mNeg ba)).getD x 0 = 0 := fun x hx => by
    rw [mAdd_get (by omega) (by omega), mNeg_get (by omega)]
    omega
  have eB : moveP (mNeg ba) [(ba, m)] = [(mAdd ba (mNeg ba), m)] := rfl
  rw [eB] at inv th high2
  have e1 := List.mem_singleton.mp th.1
  injection e1 with e2 e3
  subst e2 e3
  have hB0 : ∀ x, x < n → hB.getD x 0 = 0 := fun x hx => by
    obtain ⟨p, hp, z⟩ := high2.hit x hx
    rw [List.mem_singleton.mp hp] at z
    rw [← z]
    exact z0 x hx
  refine no (nofail_one inv (c2.nz _ List.mem_cons_self) (mAdd_len le lb) z0 (moveP_tab c1.tab ll) (fun p hp => ?_) (fun p hp x hx => ?_) tt)
  · obtain ⟨q, hq, z⟩ := List.mem_map.mp hp
    rw [← z]
    exact h q hq
  · have up := high1.le x hx p hp
    rw [mSub_get (by rw [high1.len]; exact hx) (by rw [high2.len]; exact hx), hB0 x hx]
    obtain ⟨q, hq, z⟩ := List.mem_map.mp hp
    have z1 : p.1 = mAdd q.1 (mNeg lo) := by rw [← z]
    have g : p.1.getD x 0 = q.1.getD x 0 - lo.getD x 0 := by
      rw [z1, mAdd_get (by rw [c1.len q hq]; exact hx) (by omega), mNeg_get (by rw [low1.len]; exact hx)]
      omega
    have := low1.le x hx q hq
    omega
theorem div_end {n : Nat} {one other found S : Poly} {lo ba head room : Mon} {l : Int} (c1 : Can n one) (c2 : Can n other) (low1 : IsLow n one lo) (low2 : IsLow n other ba) (inv : DivInv n (moveP (mNeg lo) one) (moveP (mNeg ba) other) head room found [])
    (hr : ∀ x, x < n → room.getD x 0 ≤ 6) (w1 : Within n (-100) 100 one) (w2 : Within n (-100) 100 other) (hS : SumOf (moveP (mSub lo ba) found) S) : DivOk n one other S := by
  have lsh : (mSub lo ba).length = n := mSub_len low1.len low2.len
  have lb : (mNeg ba).length = n := by rw [mNeg_len, low2.len]
  have ll : (mNeg lo).length = n := by rw [mNeg_len, low1.len]
  have lenT := moveP_len (b := mSub lo ba) inv.tF.len lsh
  have lenB := moveP_len (b := mNeg ba) c2.len lb
  refine ⟨hS.can lenT, ?_, fun p hp x hx => ?_, fun k hk => ?_⟩
  · have := hS.length
    unfold moveP at this
    rw [List.length_map] at this
    have := inv.cnt
    omega
  · obtain ⟨f, hf, e⟩ := List.mem_map.mp (hS.key hp)
    have z1 : p.1 = mAdd f.1 (mSub lo ba) := by rw [← e]
    rw [z1, mAdd_get (by rw [inv.tF.len f hf]; exact hx) (by omega), mSub_get (by rw [low1.len]; exact hx) (by rw [low2.len]; exact hx)]
    obtain ⟨p1, h1, e1⟩ := low1.hit x hx
    obtain ⟨p2, h2, e2⟩ := low2.hit x hx
    have := w1 p1 h1 x hx
    have := w2 p2 h2 x hx
    have := inv.box f hf x hx
    have := hr x hx
    omega
  · rw [mulE_congr (P' := moveP (mSub lo ba) found) (hS.can lenT).len lenT c2.len (fun j _ => hS.cf j) hk, mulE_move (b := ba) inv.tF.len c2.len lsh low2.len, mAdd_sub (by rw [low1.len, low2.len]),
      cf_move (mulE_len inv.tF.len lenB) low1.len hk]
    have e := inv.eq (mSub k lo) (mSub_len hk low1.len)
    rw [cf_nil, Int.add_zero] at e
    rw [← e, cf_move c1.len ll (mSub_len hk low1.len), sub_neg' hk low1.len]
/-- how far the quotient may reach -/
theorem room_le {n : Nat} {one other : Poly} {lo ba hA hB : Mon} {l : Int} (low1 : IsLow n one lo) (low2 : IsLow n other ba) (high1 : IsHigh n (moveP (mNeg lo) one) hA) (high2 : IsHigh n (moveP (mNeg ba) other) hB) (h1 : ∀ p ∈ one, p.1.length = n) (h2 : ∀ p ∈ other, p.1.length = n)
    (w : Within n l (l + 6) one) : ∀ x, x < n → (mSub hA hB).getD x 0 ≤ 6 := fun x hx => by
  rw [mSub_get (by rw [high1.len]; exact hx) (by rw [high2.len]; exact hx)]
  obtain ⟨p, hp, e⟩ := high1.hit x hx
  obtain ⟨q, hq, z⟩ := List.mem_map.mp hp
  have z1 : p.1 = mAdd q.1 (mNeg lo) := by rw [← z]
  rw [z1, mAdd_get (by rw [h1 q hq]; exact hx) (by rw [mNeg_len, low1.len]; exact hx), mNeg_get (by rw [low1.len]; exact hx)] at e
  obtain ⟨r, hr, e2⟩ := low1.hit x hx
  have a1 := w q hq x hx
  have a2 := w r hr x hx
  obtain ⟨u, hu, e3⟩ := low2.hit x hx
  have a3 := high2.le x hx _ (List.mem_map.mpr ⟨u, hu, rfl⟩)
  have a4 : (mAdd u.1 (mNeg ba)).getD x 0 ≤ hB.getD x 0 := a3
  rw [mAdd_get (by rw [h2 u hu]; exact hx) (by rw [mNeg_len, low2.len]; exact hx), mNeg_get (by rw [low2.len]; exact hx)] at a4
  omega
theorem over_mul {n : Nat} {one other Q S : Poly} (c2 : Can n other) (cQ : Can n Q) (nO : other ≠ []) (h : ∀ k, k.length = n → cf one k = cf (mulE Q other) k) (g : DivOk n one other S) : S = Q :=
  mul_cancel g.can cQ c2.tab nO fun k hk => by rw [g.eq k hk, h k hk]
end Dw
/-! The dict of a table: what its lookups and stores are; sums on the heap. -/
namespace Dw
open PySem PySem.Spec PyProof.Rows L2
theorem ik_iff {a b : List Int} : ik a = ik b ↔ a = b := ⟨ik_inj, fun e => by rw [e]⟩
theorem enc_length (L : Poly) : (enc L).length = L.length := List.length_map ..
theorem enc_nil : enc [] = [] := rfl
theorem enc_append (L M : Poly) : enc (L ++ M) = enc L ++ enc M := List.map_append
theorem enc_get {L : Poly} {i : Nat} {k : List Key} {v : V} (h : (enc L)[i]? = some (k, v)) : ∃ e c, L[i]? = some (e, c) ∧ k = ik e ∧ v = .int c := by
  unfold enc at h
  rw [List.getElem?_map] at h
  cases e : L[i]? with
  | none => rw [e] at h; cases h
  | some p =>
    rw [e] at h
    have h2 := Option.some.inj h
    exact ⟨p.1, p.2, rfl, (congrArg Prod.fst h2).symm, (congrArg Prod.snd h2).symm⟩
theorem val_enc (L : Poly) (k : Mon) : valV (enc L) (ik k) = (lookI L k).map V.int := by
  unfold valV enc lookI
  induction L with
  | nil => rfl
  | cons p L ih =>
    rw [List.map_cons, List.find?_cons, List.find?_cons]
    by_cases h : p.1 = k
    · rw [decide_eq_true (show ik p.1 = ik k by rw [h]), decide_eq_true h] <;> rfl
    · rw [decide_eq_false (fun e => h (ik_inj e)), decide_eq_false h]
      exact ih
theorem put_enc (L : Poly) (k : Mon) (c : Int) : putK (enc L) (ik k) (.int c) = enc (putI L k c) := by
  have a : ((enc L).any fun kv => decide (kv.1 = ik k)) = L.any fun p => decide (p.1 = k) := by
    unfold enc
    rw [List.any_map]
    refine congrArg (fun f => L.any f) (funext fun p => ?_)
    show decide (ik p.1 = ik k) = decide (p.1 = k)
    by_cases h : p.1 = k
    · rw [decide_eq_true (show ik p.1 = ik k by rw [h]), decide_eq_true h]
    · rw [decide_eq_false (fun e => h (ik_inj e)), decide_eq_false h]
  unfold putK putI
  rw [a]
  by_cases h : (L.any fun p => decide (p.1 = k)) = true
  · rw [if_pos h, if_pos h]
    unfold enc
    rw [List.map_map, List.map_map]
    refine List.map_congr_left fun p _ => ?_
    show (if ik p.1 = ik k then (ik p.1, V.int c) else (ik p.1, V.int p.2)) = _
    by_cases g : p.1 = k
    · rw [if_pos (show ik p.1 = ik k by rw [g])]
      show _ = (ik (if p.1 = k then (p.1, c) else p).1, V.int (if p.1 = k then (p.1, c) else p).2)
      rw [if_pos g]
    · rw [if_neg (fun e => g (ik_inj e))]
      show _ = (ik (if p.1 = k then (p.1, c) else p).1, V.int (if p.1 = k then (p.1, c) else p).2)
      rw [if_neg g]
  · rw [if_neg h, if_neg h]
    unfold enc
    rw [List.map_append]
    rfl
theorem drop_enc (L : Poly) (k : Mon) : dropK (enc L) (ik k) = enc (dropI L k) := by
  unfold dropK dropI enc
  rw [List.filter_map]
  refine congrArg _ (List.filter_congr fun p _ => ?_)
  show decide (ik p.1 ≠ ik k) = decide (p.1 ≠ k)
  refine decide_eq_decide.mpr ⟨fun e g => e (by rw [g]), fun e g => e (ik_inj g)⟩
/-! ### heaps -/
theorem same_upd {H : Hp} {p : Addr} {o : HO} (h : H p = none) : Same H (upd H p o) := fun b x e => by
  rw [upd_ne (ne_of_none e h)]
  exact e
/-- all but what stands at r stays -/
def But (r : Addr) (H H' : Hp) : Prop := ∀ b x, b ≠ r → H b = some x → H' b = some x
theorem But.trans {r : Addr} {H H1 H2 : Hp} (a : But r H H1) (b : But r H1 H2) : But r H H2 := fun c x n e => b c x n (a c x n e)
theorem But.of {r : Addr} {H H1 : Hp} (a : Same H H1) : But r H H1 := fun c x _ e => a c x e
theorem But.same {r : Addr} {H H1 : Hp} : But r H H := fun _ _ _ e => e
theorem but_upd {H : Hp} {r : Addr} {o : HO} : But r H (upd H r o) := fun b x n e => by
  rw [upd_ne n]
  exact e
theorem ne_lst {H : Hp} {a r : Addr} {xs ys : List V} (h : H a = some (.tup xs)) (g : H r = some (.lst ys)) : a ≠ r := by
  rintro rfl
  rw [h] at g
  cases g
theorem pa_keep {H H' : Hp} {t : Addr} {x : List Int × Int} (s : Same H H') (h : PairAt H t x) : PairAt H' t x := h.keep fun b xs e => s b _ e
theorem ps_keep {H H' : Hp} {ps : List Addr} {L : Poly} (s : Same H H') (h : Pairs H ps L) : Pairs H' ps L := h.keep fun b xs e => s b _ e
/-- an object of ints -/
abbrev TupI (H : Hp) (q : Addr) (e : Mon) : Prop := H q = some (.tup (e.map V.int))
/-- a sum on the heap -/
def SumAt (H : Hp) (a : Addr) (L : Poly) : Prop := ∃ ps, TupF H a (ps.map V.ref) ∧ Pairs H ps L
theorem TupF.keep {H H' : Hp} {a : Addr} {xs : List V} (s : Same H H') (h : TupF H a xs) : TupF H' a xs := let ⟨o, e, d⟩ := h; ⟨o, s _ _ e, d⟩
theorem SumAt.keep {H H' : Hp} {a : Addr} {L : Poly} (s : Same H H') (h : SumAt H a L) : SumAt H' a L := let ⟨ps, t, p⟩ := h; ⟨ps, t.keep s, ps_keep s p⟩
theorem SumAt.but {H H' : Hp} {a r : Addr} {L : Poly} {ys : List V} (g : H r = some (.lst ys)) (s : But r H H') (h : SumAt H a L) : SumAt H' a L := by
  obtain ⟨ps, ⟨o, e, d⟩, p⟩ := h
  refine ⟨ps, ⟨o, s _ _ (fun z => ?_) e, d⟩, p.keep fun b xs z => s b _ (ne_lst z g) z⟩
  rw [z, g] at e
  cases e
theorem Pairs.len {H : Hp} {ps : List Addr} {L : Poly} (h : Pairs H ps L) : ps.length = L.length := Paired.length h
theorem pairs_get {H : Hp} : ∀ {ps : List Addr} {L : Poly}, Pairs H ps L → ∀ {i : Nat} {p : List Int × Int}, L[i]? = some p → ∃ t, ps[i]? = some t ∧ PairAt H t p := by
  intro ps L h
  induction h with
  | nil => intro i p e; simp at e
  | cons hd tl ih =>
    rename_i t x ps L
    intro i p e
    cases i with
    | zero => exact ⟨t, rfl, by
        have e1 : x = p := Option.some.inj e
        rw [← e1]; exact hd⟩
    | succ i => exact ih (i := i) (p := p) e
theorem pairs_get' {H : Hp} : ∀ {ps : List Addr} {L : Poly}, Pairs H ps L → ∀ {i : Nat} {t : Addr}, ps[i]? = some t → ∃ p, L[i]? = some p ∧ PairAt H t p := by
  intro ps L h
  induction h with
  | nil => intro i p e; simp at e
  | cons hd tl ih =>
    rename_i t x ps L
    intro i p e
    cases i with
    | zero => exact ⟨x, rfl, by
        have e1 : t = p := Option.some.inj e
        rw [← e1]; exact hd⟩
    | succ i => exact ih (i := i) (t := p) e
theorem pairs_at {H : Hp} {ps : List Addr} {L : Poly} (h : Pairs H ps L) {i : Nat} {x : V} (e : (ps.map V.ref)[i]? = some x) : ∃ t p, x = .ref t ∧ L[i]? = some p ∧ PairAt H t p := by
  rw [List.getElem?_map] at e
  cases g : ps[i]? with
  | none => rw [g] at e; cases e
  | some t =>
    rw [g] at e
    obtain ⟨p, a, b⟩ := pairs_get' h g
    exact ⟨t, p, (Option.some.inj e).symm, a, b⟩
theorem pairs_snoc {H : Hp} {ps : List Addr} {L : Poly} {t : Addr} {p : List Int × Int} (h : Pairs H ps L) (g : PairAt H t p) : Pairs H (ps ++ [t]) (L ++ [p]) := by
  induction h with
  | nil => exact .cons g .nil
  | cons hd tl ih => exact .cons hd ih
theorem take_snoc {α : Type} {l : List α} {i : Nat} {x : α} (h : l[i]? = some x) : l.take (i + 1) = l.take i ++ [x] := by
  rw [List.take_add_one, h]
  rfl
theorem take_all {α : Type} {l : List α} : l.take l.length = l := List.take_length
end Dw
/-! The defs of the text and their names. -/
namespace Dw
open PySem PySem.Spec PyProof.Rows L2
def topS (i : Nat) : Stmt := PySem.Challenge.pw_dartwebs_k04_whole_sums.main.body.getD i (.Pass ⟨0, 0, 0, 0⟩)
abbrev sIsInteger : Stmt := topS 10
abbrev sIsFrom : Stmt := topS 11
abbrev sNeedCount : Stmt := topS 12
abbrev sIsPair : Stmt := topS 16
abbrev sIsSumOf : Stmt := topS 17
abbrev sIsSum : Stmt := topS 18
abbrev sNeedSum : Stmt := topS 19
abbrev sNeedSums : Stmt := topS 20
abbrev sSumOf : Stmt := topS 21
abbrev sAdded : Stmt := topS 22
abbrev sProductOf : Stmt := topS 23
abbrev sMultiplied : Stmt := topS 24
abbrev sPlus : Stmt := topS 25
abbrev sTimes : Stmt := topS 26
abbrev sLowest : Stmt := topS 27
abbrev sGreatest : Stmt := topS 28
abbrev sMoved : Stmt := topS 29
abbrev sDivided : Stmt := topS 30
abbrev sOver : Stmt := topS 31
abbrev sTaken : Stmt := topS 33
abbrev sPick : Stmt := topS 34
abbrev sAlike : Stmt := topS 35
abbrev sLawSum : Stmt := topS 36
abbrev sLawPlus : Stmt := topS 37
abbrev sLawTimes : Stmt := topS 38
abbrev sLaw : Stmt := topS 39
abbrev nIsInteger : List Str := ["value"]
abbrev nIsFrom : List Str := ["value", "low", "high"]
abbrev nIsPair : List Str := ["n", "value", "power"]
abbrev nIsSumOf : List Str := ["n", "value", "pair", "one", "other"]
abbrev nNV : List Str := ["n", "value"]
abbrev nNOO : List Str := ["n", "one", "other"]
abbrev nSumOf : List Str := ["counts", "found", "pair", "powers", "many", "power"]
abbrev nAdded : List Str := ["one", "other", "counts", "powers", "many"]
abbrev nProductOf : List Str := ["one", "other", "left", "right"]
abbrev nMultiplied : List Str := ["one", "other", "counts", "left", "many", "right", "more", "powers"]
abbrev nLowest : List Str := ["one", "x", "pair"]
abbrev nGreatest : List Str := ["counts", "some", "x", "powers"]
abbrev nMoved : List Str := ["one", "by", "powers", "many"]
abbrev nDivided : List Str := ["one", "other", "low", "base", "rest", "parts", "head", "many", "room", "found", "top", "powers", "share", "right", "more", "place", "shift", "power", "left", "most"]
abbrev nTaken : List Str := ["_law_row", "_law_many", "_law_found", "_law_cell"]
abbrev nPick : List Str := ["_law_row", "_law_things"]
abbrev nAlike : List Str := ["_law_found", "_law_due", "_law_k", "_law_key"]
abbrev nLawSum : List Str := ["_law_row", "_law_n", "_law_most", "_law_low", "_law_counts", "_law_turn", "_law_powers", "_law_many", "_law_x"]
abbrev nLawPlus : List Str := ["_law_one", "_law_other", "_law_counts", "_law_powers", "_law_many"]
abbrev nLawTimes : List Str := ["_law_one", "_law_other", "_law_found", "_law_left", "_law_many", "_law_part", "_law_right", "_law_more", "_law_a", "_law_b"]
abbrev nLaw : List Str := ["_law_script", "_law_row", "_law_n", "_law_one", "_law_other", "_law_product", "_law_third", "_law_found", "_law_bad", "_law_powers", "_law_many", "_law_value"]
theorem scIsInteger : FnScope nIsInteger ["value"] (defScope sIsInteger) := ⟨rfl, rfl, rfl, by decide +kernel, rfl, by decide +kernel, by decide +kernel⟩
theorem scIsFrom : FnScope nIsFrom ["value", "low", "high"] (defScope sIsFrom) := ⟨rfl, rfl, rfl, by decide +kernel, rfl, by decide +kernel, by decide +kernel⟩
theorem scNeedCount : FnScope nIsInteger ["value"] (defScope sNeedCount) := ⟨rfl, rfl, rfl, by decide +kernel, rfl, by decide +kernel, by decide +kernel⟩
theorem scIsPair : FnScope nIsPair ["n", "value"] (defScope sIsPair) := ⟨rfl, rfl, rfl, by decide +kernel, rfl, by decide +kernel, by decide +kernel⟩
theorem scIsSumOf : FnScope nIsSumOf ["n", "value"] (defScope sIsSumOf) := ⟨rfl, rfl, rfl, by decide +kernel, rfl, by decide +kernel, by decide +kernel⟩
theorem scIsSum : FnScope nNV ["n", "value"] (defScope sIsSum) := ⟨rfl, rfl, rfl, by decide +kernel, rfl, by decide +kernel, by decide +kernel⟩
theorem scNeedSum : FnScope nNV ["n", "value"] (defScope sNeedSum) := ⟨rfl, rfl, rfl, by decide +kernel, rfl, by decide +kernel, by decide +kernel⟩
theorem scNeedSums : FnScope nNOO ["n", "one", "other"] (defScope sNeedSums) := ⟨rfl, rfl, rfl, by decide +kernel, rfl, by decide +kernel, by decide +kernel⟩
theorem scSumOf : FnScope nSumOf ["counts"] (defScope sSumOf) := ⟨rfl, rfl, rfl, by decide +kernel, rfl, by decide +kernel, by decide +kernel⟩
theorem scAdded : FnScope nAdded ["one", "other"] (defScope sAdded) := ⟨rfl, rfl, rfl, by decide +kernel, rfl, by decide +kernel, by decide +kernel⟩
theorem scProductOf : FnScope nProductOf ["one", "other"] (defScope sProductOf) := ⟨rfl, rfl, rfl, by decide +kernel, rfl, by decide +kernel, by decide +kernel⟩
theorem scMultiplied : FnScope nMultiplied ["one", "other"] (defScope sMultiplied) := ⟨rfl, rfl, rfl, by decide +kernel, rfl, by decide +kernel, by decide +kernel⟩
theorem scPlus : FnScope nNOO ["n", "one", "other"] (defScope sPlus) := ⟨rfl, rfl, rfl, by decide +kernel, rfl, by decide +kernel, by decide +kernel⟩
theorem scTimes : FnScope nNOO ["n", "one", "other"] (defScope sTimes) := ⟨rfl, rfl, rfl, by decide +kernel, rfl, by decide +kernel, by decide +kernel⟩
theorem scLowest : FnScope nLowest ["one"] (defScope sLowest) := ⟨rfl, rfl, rfl, by decide +kernel, rfl, by decide +kernel, by decide +kernel⟩
theorem scGreatest : FnScope nGreatest ["counts"] (defScope sGreatest) := ⟨rfl, rfl, rfl, by decide +kernel, rfl, by decide +kernel, by decide +kernel⟩
theorem scMoved : FnScope nMoved ["one", "by"] (defScope sMoved) := ⟨rfl, rfl, rfl, by decide +kernel, rfl, by decide +kernel, by decide +kernel⟩
theorem scDivided : FnScope nDivided ["one", "other"] (defScope sDivided) := ⟨rfl, rfl, rfl, by decide +kernel, rfl, by decide +kernel, by decide +kernel⟩
theorem scOver : FnScope nNOO ["n", "one", "other"] (defScope sOver) := ⟨rfl, rfl, rfl, by decide +kernel, rfl, by decide +kernel, by decide +kernel⟩
theorem scTaken : FnScope nTaken ["_law_row", "_law_many"] (defScope sTaken) := ⟨rfl, rfl, rfl, by decide +kernel, rfl, by decide +kernel, by decide +kernel⟩
theorem scPick : FnScope nPick ["_law_row", "_law_things"] (defScope sPick) := ⟨rfl, rfl, rfl, by decide +kernel, rfl, by decide +kernel, by decide +kernel⟩
theorem scAlike : FnScope nAlike ["_law_found", "_law_due"] (defScope sAlike) := ⟨rfl, rfl, rfl, by decide +kernel, rfl, by decide +kernel, by decide +kernel⟩
theorem scLawSum : FnScope nLawSum ["_law_row", "_law_n", "_law_most", "_law_low"] (defScope sLawSum) := ⟨rfl, rfl, rfl, by decide +kernel, rfl, by decide +kernel, by decide +kernel⟩
theorem scLawPlus : FnScope nLawPlus ["_law_one", "_law_other"] (defScope sLawPlus) := ⟨rfl, rfl, rfl, by decide +kernel, rfl, by decide +kernel, by decide +kernel⟩
theorem scLawTimes : FnScope nLawTimes ["_law_one", "_law_other"] (defScope sLawTimes) := ⟨rfl, rfl, rfl, by decide +kernel, rfl, by decide +kernel, by decide +kernel⟩
theorem scLaw : FnScope nLaw ["_law_script"] (defScope sLaw) := ⟨rfl, rfl, rfl, by decide +kernel, rfl, by decide +kernel, by decide +kernel⟩
end Dw
/-! product_of, moved. -/
namespace Dw
open PySem PySem.Spec PyProof.Rows L2
theorem set_pair {σ : L2.St} {i j : Nat} {a b : Option V} (hij : i ≠ j) (hi : i < σ.length) (hj : j < σ.length) :
    wipe (((wipe σ [i, j]).set i a).set j b) [i, j] = wipe σ [i, j] ∧ (((wipe σ [i, j]).set i a).set j b)[i]? = some a ∧ (((wipe σ [i, j]).set i a).set j b)[j]? = some b := by
  refine ⟨?_, ?_, ?_⟩
  · show ((((σ.set j none).set i none).set i a).set j b |>.set j none).set i none = (σ.set j none).set i none
    refine List.ext_getElem? fun k => ?_
    simp only [List.getElem?_set, List.length_set]
    by_cases h1 : i = k
    · by_cases h2 : j = k
      · exact absurd (h1.trans h2.symm) hij
      · simp [h1, h2]
    · by_cases h2 : j = k
      · simp [h1, h2]
      · simp [h1, h2]
  · show ((((σ.set j none).set i none).set i a).set j b)[i]? = some a
    simp only [List.getElem?_set, List.length_set]
    rw [if_neg (Ne.symm hij), if_pos trivial, if_pos hi]
  · show ((((σ.set j none).set i none).set i a).set j b)[j]? = some b
    simp only [List.getElem?_set, List.length_set]
    rw [if_pos trivial, if_pos hj]
theorem zip_at {α : Type} {f : Int → Int → α} : ∀ {xs ys : List Int} {i : Nat} {a b : Int}, xs[i]? = some a → ys[i]? = some b → (List.zipWith f xs ys)[i]? = some (f a b) := by
  intro xs ys i a b h g
  rw [List.getElem?_zipWith, h, g]
theorem small {n : Nat} (h : n ≤ 1000) : n < sizeLine := by rw [sizeLine_eq]; omega
theorem small' {n : Nat} (h : n ≤ 1000) : n ≤ sizeLine := by rw [sizeLine_eq]; omega
theorem ints_at {xs : List Int} {i : Nat} {x : V} (h : (xs.map V.int)[i]? = some x) : ∃ a, xs[i]? = some a ∧ x = .int a := by
  rw [List.getElem?_map] at h
  cases e : xs[i]? with
  | none => rw [e] at h; cases h
  | some a => rw [e] at h; exact ⟨a, rfl, (Option.some.inj h).symm⟩
theorem sqT_keep {K : PySem.W.Frag} {H H' : Hp} {a : Addr} {xs : List V} (s : Same H H') (h : SqT K H a xs) : SqT K H' a xs := by
  rcases h with (h | ⟨o, h⟩) | ⟨h, r⟩
  · exact .inl (.inl (s _ _ h))
  · exact .inl (.inr ⟨o, s _ _ h⟩)
  · exact .inr ⟨h, r⟩
/-- [f(a, b) for a, b in zip(xs, ys)]: the turns -/
theorem zip_lc {K : PySem.W.Frag} {J : It} {n : Nat} {xs ys : List Int} {G : Hp → Prop} (w : Walk J n G (YPair (fun i => (xs.map V.int)[i]?) (fun i => (ys.map V.int)[i]?))) (hx : xs.length = n) (hy : ys.length = n) (hz : n ≤ 1000)
    (f : Int → Int → V) {i j : Nat} {σ : L2.St} {H1 : Hp} {D : Addr} {Qd : Hp → Prop} (hij : i ≠ j) (hi : i < σ.length) (hj : j < σ.length) (nD : H1 D = none) (hG : ∀ H, Same H1 H → G H)
    (hd : ∀ H, Same H1 H → H D = some (.lst (List.zipWith f xs ys)) → Qd H) :
    ∃ W : Nat → Nat → Hp → Prop, (∃ m, W 0 m (upd H1 D (.lst []))) ∧ ∀ k m H, W k m H →
      (J.stop k H ∧ Qd H) ∨ (J.go k H ∧ ∃ Nx : Hp → Prop, (∀ H', Nx H' → ∃ m', m' < m ∧ W (k + 1) m' H') ∧ ∀ x H', J.yld k H x H' → gTup K 2 (gCons (gName i) (gCons (gName j) gNil)) x (wipe σ [i, j]) H' fun σ2 H2 => wipe σ2 [i, j] = wipe σ [i, j] ∧ tYes σ2 H2 fun b H3 =>
        if b = true then tOp (rI0 f) (tVar i) (tVar j) σ2 H3 fun y H4 => ∃ acc, H4 D = some (.lst acc) ∧ acc.length < sizeLine ∧ Nx (upd H4 D (.lst (acc ++ [y]))) else Nx H3) := by
  refine lc_it w (fun k H => Same H1 H ∧ H D = some (.lst ((List.zipWith f xs ys).take k))) ⟨same_upd nD, upd_same⟩ (fun k H _ p => hG H p.1) (fun k x H H' hk p y => ?_) (fun H p => hd H p.1 ?_)
  · obtain ⟨T, x1, x2, rfl, nT, rfl, e1, e2⟩ := y
    obtain ⟨a, ea, rfl⟩ := ints_at e1
    obtain ⟨b, eb, rfl⟩ := ints_at e2
    obtain ⟨w1, w2, w3⟩ := set_pair (σ := σ) (a := some (.int a)) (b := some (.int b)) hij hi hj
    refine ⟨T, [.int a, .int b], rfl, .inl (.inl upd_same), rfl, .int a, [.int b], rfl, .int b, [], rfl, rfl, w1, ?_⟩
    have nTD : D ≠ T := ne_of_none p.2 nT
    refine ⟨_, w2, _, w3, a, b, rfl, rfl, _, by rw [upd_ne nTD]; exact p.2, ?_, fun c o e => ?_, ?_⟩
    · rw [List.length_take]
      exact small (Nat.le_trans (Nat.min_le_left _ _) (by omega))
    · have cD : c ≠ D := fun z => by rw [z, nD] at e; cases e
      rw [upd_ne cD, upd_ne (ne_of_none (p.1 _ _ e) nT)]
      exact p.1 _ _ e
    · rw [upd_same, take_snoc (zip_at ea eb)]
  · have h := p.2
    rw [List.take_of_length_le (by rw [List.length_zipWith]; omega)] at h
    exact h
theorem zip_add (a b : Mon) : List.zipWith (fun i j => V.int (i + j)) a b = (mAdd a b).map V.int := by
  unfold mAdd
  rw [List.map_zipWith]
theorem zip_sub (a b : Mon) : List.zipWith (fun i j => V.int (i - j)) a b = (mSub a b).map V.int := by
  unfold mSub
  rw [List.map_zipWith]
section
variable {P : Program} {w : World} {K : PySem.W.Frag} {mg : Str → Option Value} {base : Heap}
def spProd (K : PySem.W.Frag) : Sp := fun vs H Q _ => ∃ (a b : Addr) (e f : Mon), vs = [.ref a, .ref b] ∧ SqT K H a (e.map V.int) ∧ SqT K H b (f.map V.int) ∧ e.length = f.length ∧ e.length ≤ 1000 ∧
  ∀ H' q, Same H H' → H q = none → TupI H' q (mAdd e f) → Q (.ref q) H'
theorem ok_prod {f : Addr} {fd : FuncData} (F : Fun K "product_of" "product_of" sProductOf f fd) (mt : mg "tuple" = none) (mz : mg "zip" = none) : FnOk P w K mg base CX0 1 f fd ["one", "other"] (spProd K) := by
  refine F.ok scProductOf (fun vs H Q E h => ?_) (fun cdv A outer s H vs Q E hr h => ?_)
  · obtain ⟨a, b, e, f, rfl, _⟩ := h
    rfl
  · obtain ⟨a, b, e, f, rfl, ha, hb, hl, hz, q⟩ := h
    have nd := scProductOf.nd
    refine ⟨_, pss_one (ps_ret (pe_callTy call_tuple_of (by rfl) mt PyProof.Rows.boot_tuple (pa_cons (pe_lc (own := [("left", 2), ("right", 3)]) (g := gTup K 2 (gCons (gName 2) (gCons (gName 3) gNil))) (tt := tYes) rfl nd (RZ.pi_zipA (by rfl) mz (pa_cons (pv 0) (pa_cons (pv 1) pa_nil)))
      (blkOk_by (N := nProductOf) (sc := defScope sProductOf) (by decide +kernel)) (fun _ _ _ _ _ => pg_tup rfl (pgs_cons (pg_name (i := 2) nd rfl (.inl rfl)) (pgs_cons (pg_name (i := 3) nd rfl (.inl rfl)) pgs_nil)))
      (fun _ _ _ _ _ => pts_nil) (fun _ _ _ _ _ => pe_op op_add (pv 2) (pv 3))) pa_nil))), ?_⟩
    refine ⟨.ref a, rfl, .ref b, rfl, a, b, _, _, rfl, .inr ⟨ha, hb, fun D nD => ?_⟩⟩
    refine zip_lc (walk_zipT (n := e.length) (by rw [List.length_map, List.length_map]; omega)) rfl hl.symm hz (fun i j => .int (i + j)) (by decide) (show 2 < 4 by decide) (show 3 < 4 by decide) nD (fun H1 s1 => ⟨sqT_keep s1 ha, sqT_keep s1 hb⟩) (fun H1 s1 eD => ?_)
    refine ⟨D, _, rfl, .inl ⟨.inl (.inl eD), fun l nl => ?_⟩⟩
    refine q _ _ (s1.trans (same_upd nl)) ?_ ?_
    · exact s1.free nl
    · show upd H1 l _ l = _
      rw [upd_same, zip_add]
end
end Dw
/-! moved. -/
namespace Dw
open PySem PySem.Spec PyProof.Rows L2
/-- what a call of a def of the top asks -/
structure Cal (P : Program) (w : World) (K : PySem.W.Frag) (mg : Str → Option Value) (base : Heap) (CX : CXT) (k : Nat) (x : Str) (ps : List Str) (sp : Sp) (f : Addr) (fd : FuncData) : Prop where
  ok : FnOk P w K mg base CX k f fd ps sp
  g : mg x = some (.ref f)
  kp : PySem.W.keepIn K (.ref f) = true
  b : Binds K fd ps []
theorem moveP_snoc (b : Mon) (L : Poly) (p : List Int × Int) : moveP b (L ++ [p]) = moveP b L ++ [(mAdd p.1 b, p.2)] := List.map_append
theorem moveP_length (b : Mon) (L : Poly) : (moveP b L).length = L.length := List.length_map ..
theorem set_pair1 {σ : L2.St} {i j : Nat} {a b : Option V} (hij : i ≠ j) (hi : i < σ.length) (hj : j < σ.length) {k : Nat} (hk1 : k ≠ i) (hk2 : k ≠ j) : (((wipe σ [i, j]).set i a).set j b)[k]? = σ[k]? := by
  show ((((σ.set j none).set i none).set i a).set j b)[k]? = σ[k]?
  simp only [List.getElem?_set, List.length_set]
  rw [if_neg (Ne.symm hk2), if_neg (Ne.symm hk1), if_neg (Ne.symm hk1), if_neg (Ne.symm hk2)]
section
variable {P : Program} {w : World} {K : PySem.W.Frag} {mg : Str → Option Value} {base : Heap}
def spMoved (K : PySem.W.Frag) : Sp := fun vs H Q _ => ∃ (a b : Addr) (ps : List Addr) (L : Poly) (n : Nat) (f : Mon), vs = [.ref a, .ref b] ∧ SqT K H a (ps.map V.ref) ∧ Pairs H ps L ∧ Keys L ∧ (∀ p ∈ L, p.1.length = n) ∧ SqT K H b (f.map V.int) ∧ f.length = n ∧ n ≤ 1000 ∧ L.length ≤ 1000 ∧
  ∀ H' d, Same H H' → H d = none → H' d = some (.dT (enc (moveP f L))) → Q (.ref d) H'
theorem ok_moved {f fP : Addr} {fd fdP : FuncData} (F : Fun K "moved" "moved" sMoved f fd) (CP : Cal P w K mg base CX0 1 "product_of" ["one", "other"] (spProd K) fP fdP) : FnOk P w K mg base CX0 2 f fd ["one", "by"] (spMoved K) := by
  refine F.ok scMoved (fun vs H Q E h => ?_) (fun cdv A outer s H vs Q E hr h => ?_)
  · obtain ⟨a, b, ps, L, n, f, rfl, _⟩ := h
    rfl
  · obtain ⟨a, b, ps, L, n, f, rfl, ha, hp, kL, lL, hb, lf, hn, hz, q⟩ := h
    have nd := scMoved.nd
    have lps := hp.len
    refine ⟨_, pss_one (ps_ret (pe_dct (own := [("powers", 2), ("many", 3)]) (g := gTup K 2 (gCons (gName 2) (gCons (gName 3) gNil))) (tt := tYes) rfl (Nat.lt_of_succ_lt (hu_of hr)) nd (pi_tup (pv 0))
      (blkOk_by (N := nMoved) (sc := defScope sMoved) (by decide +kernel)) (fun _ _ _ _ _ => pg_tup rfl (pgs_cons (pg_name (i := 2) nd rfl (.inl rfl)) (pgs_cons (pg_name (i := 3) nd rfl (.inl rfl)) pgs_nil)))
      (fun _ _ _ _ _ => pts_nil) (fun _ _ _ _ _ => by exact pe_call (E := fun _ _ _ => False) CP.ok hr (by rfl) CP.g CP.kp CP.b .nil pass0 (pa_cons (pv 2) (pa_cons (pv 1) pa_nil))) (fun _ _ _ _ _ => pv 3))), ?_⟩
    refine ⟨.ref a, rfl, a, rfl, ⟨_, ha⟩, fun D nD => ?_⟩
    refine dct_it (walk_tup (K := K) (a := a) (xs := ps.map V.ref)) (fun i H' => Same H H' ∧ H' D = some (.dT (enc (moveP f (L.take i))))) ⟨same_upd nD, by rw [upd_same]; rfl⟩ (fun i H' _ p => sqT_keep p.1 ha) (fun i x H1 H' hi p y => ?_) (fun H' p => ?_)
    · obtain ⟨rfl, ex⟩ := y
      obtain ⟨t, pr, rfl, eL, hpr⟩ := pairs_at hp ex
      obtain ⟨q0, h1, h2⟩ := pa_keep p.1 hpr
      refine ⟨t, [.ref q0, .int pr.2], rfl, .inl (.inl h1), rfl, .ref q0, [.int pr.2], rfl, .int pr.2, [], rfl, rfl, rfl, ?_⟩
      refine ⟨.ref q0, rfl, .ref b, rfl, q0, b, pr.1, f, rfl, .inl (.inl h2), sqT_keep p.1 hb, ?_, ?_, fun H5 d s5 nd5 e5 => ?_⟩
      · rw [lL pr (List.mem_of_getElem? eL), lf]
      · rw [lL pr (List.mem_of_getElem? eL)]; exact hn
      · refine ⟨_, rfl, enc (moveP f (L.take i)), ik (mAdd pr.1 f), d, rfl, by rw [ik_V]; exact e5, s5 _ _ p.2, ?_, fun c o e => ?_, ?_⟩
        · rw [enc_length, moveP_length, List.length_take]
          exact small (Nat.le_trans (Nat.min_le_right _ _) hz)
        · have cD : c ≠ D := fun z => by rw [z, nD] at e; cases e
          rw [upd_ne cD]
          exact s5 _ _ (p.1 _ _ e)
        · rw [upd_same, put_enc, take_snoc eL, moveP_snoc, putI_new]
          intro hm
          have kM : Keys (moveP f (L.take (i + 1))) := moveP_keys (kL.sublist ((List.take_sublist _ _).map _)) (fun p' hp' => lL p' (List.mem_of_mem_take hp')) lf
          rw [take_snoc eL, moveP_snoc] at kM
          unfold Keys at kM
          rw [List.map_append, List.nodup_append] at kM
          exact kM.2.2 _ hm _ (List.mem_singleton.mpr rfl) rfl
    · have h := p.2
      rw [show (ps.map V.ref).length = L.length by rw [List.length_map, lps], take_all] at h
      exact q _ _ p.1 nD h
end
end Dw
/-! sum_of. -/
namespace Dw
open PySem PySem.Spec PyProof.Rows L2
theorem turns {J : It} {n : Nat} {G : Hp → Prop} {Y : Nat → Hp → V → Hp → Prop} (w : Walk J n G Y) {H0 : Hp} {Qd : Hp → Prop} {B : (Hp → Prop) → V → Hp → Prop} (Pv : Nat → Hp → Prop) (h0 : Pv 0 H0) (hG : ∀ i H, i ≤ n → Pv i H → G H)
    (hs : ∀ i x H H', i < n → Pv i H → Y i H x H' → B (Pv (i + 1)) x H') (hd : ∀ H, Pv n H → Qd H) :
    ∃ W : Nat → Nat → Hp → Prop, (∃ m, W 0 m H0) ∧ ∀ i m H, W i m H → (J.stop i H ∧ Qd H) ∨ (J.go i H ∧ ∃ Nx : Hp → Prop, (∀ H', Nx H' → ∃ m', m' < m ∧ W (i + 1) m' H') ∧ ∀ x H', J.yld i H x H' → B Nx x H') := by
  refine ⟨fun i m H => m + i = n ∧ Pv i H, ⟨n, rfl, h0⟩, fun i m H ⟨e, p⟩ => ?_⟩
  have G1 := hG i H (by omega) p
  cases m with
  | zero =>
    obtain rfl : i = n := by omega
    exact .inl ⟨w.stops H G1, hd H p⟩
  | succ m =>
    have hi : i < n := by omega
    exact .inr ⟨w.goes i H hi G1, Pv (i + 1), fun H' p' => ⟨m, Nat.lt_succ_self m, by omega, p'⟩, fun x H' y => hs i x H H' hi p (w.yields i H x H' hi G1 y)⟩
theorem noZero_snoc (L : Poly) (p : List Int × Int) : noZero (L ++ [p]) = if p.2 ≠ 0 then noZero L ++ [p] else noZero L := by
  unfold noZero
  by_cases h : p.2 = 0
  · simp [List.filter_append, List.filter_cons, h]
  · simp [List.filter_append, List.filter_cons, h]
theorem noZero_keys {L : Poly} (h : Keys L) : Keys (noZero L) := h.sublist (List.Sublist.map _ List.filter_sublist)
theorem ifT {c : Bool} {A B : Prop} (hc : c = true) (h : A) : if c = true then A else B := by
  rw [if_pos hc]
  exact h
theorem ifF {c : Bool} {A B : Prop} (hc : c = false) (h : B) : if c = true then A else B := by
  rw [hc, if_neg Bool.false_ne_true]
  exact h
theorem ix_tupK {X : Cx} {K : PySem.W.Frag} (h : X.K = K := by rfl) : IxR X (rIxT K) := by
  subst h
  exact ix_tup
theorem ix_listK {X : Cx} {K : PySem.W.Frag} (h : X.K = K := by rfl) : IxR X (rIxL K) := by
  subst h
  exact ix_list
section
variable {P : Program} {w : World} {K : PySem.W.Frag} {mg : Str → Option Value} {base : Heap}
def spSumOf : Sp := fun vs H Q _ => ∃ (d : Addr) (T : Poly), vs = [.ref d] ∧ H d = some (.dT (enc T)) ∧ Keys T ∧ T.length ≤ 500 ∧ (∀ p ∈ T, p.1.length ≤ 10 ∧ ∀ v ∈ p.1, -1000 ≤ v ∧ v ≤ 1000) ∧
  ∀ H' a S, Same H H' → H a = none → SumOf T S → SumAt H' a S → Q (.ref a) H'
theorem ok_sumof {f : Addr} {fd : FuncData} (F : Fun K "sum_of" "sum_of" sSumOf f fd) (mt : mg "tuple" = none) (ms : mg "sorted" = none) (ml : mg "len" = none) (ma : mg "any" = none) (mb : mg "abs" = none)
    (gP : ∃ t, mg "MOST_PAIRS" = some (.int 500 t)) (gE : ∃ t, mg "MOST_EXPONENT" = some (.int 1000 t)) : FnOk P w K mg base CX0 1 f fd ["counts"] spSumOf := by
  obtain ⟨t1, gP⟩ := gP
  obtain ⟨t2, gE⟩ := gE
  refine F.ok scSumOf (fun vs H Q E h => ?_) (fun cdv A outer s H vs Q E hr h => ?_)
  · obtain ⟨d, T, rfl, _⟩ := h
    rfl
  · obtain ⟨d, T, rfl, hd, kT, zT, bT, q⟩ := h
    have nd := scSumOf.nd
    have hu2 : (A.deeper (envOfC (Str.ofString "sum_of") (defScope sSumOf) s.heap.objs.size f cdv)).units + 2 < cLine := by have := hr.un; omega
    refine ⟨_, pss_cons (ps_set (i := 1) nd rfl (.inl rfl) (pe_callTy cr_tupF (by rfl) mt PyProof.Rows.boot_tuple (pa_cons (pe_callB (cr_sortQ hu2) (by rfl) ms PyProof.Rows.boot_sorted (pa_cons
        (pe_lock (pe_lc (own := [("pair", 2)]) (g := gName 2) rfl nd (pi_pairs (pv 0)) (blkOk_by (N := nSumOf) (sc := defScope sSumOf) (by decide +kernel)) (fun _ _ _ _ _ => pg_name (i := 2) nd rfl (.inl rfl))
          (fun _ _ _ _ _ => pts_one (pt_cmpR op_ne (pe_ix (ix_tupK (K := K)) (pv 2) pe_int (fun _ _ => rfl)) pe_int (nomark _))) (fun _ _ _ _ _ => pv 2))) pa_nil)) pa_nil)))
      (pss_cons (ps_if (pt_cmpR op_gt (pe_callB call_len_seq (by rfl) ml PySem.boot_len (pa_cons (pv 1) pa_nil)) (pe_glob (v := .int 500) (by rfl) gP ⟨_, rfl⟩) (nomark _)) (pss_one ps_never) pss_nil)
      (pss_cons (ps_if (pt_val (pe_callB (cr_any rfl) (by rfl) ma PyProof.Rows.boot_any (pa_cons (pe_lc2 (own := [("powers", 3), ("many", 4), ("power", 5)]) (vs1 := [5]) (g := gTup K 2 (gCons (gName 3) (gCons (gName 4) gNil))) (tt := tYes) (tt1 := tYes) (wi1 := iTup K (tVar 3)) (g1 := gName 5) rfl nd (pi_tup (pv 1))
          (blkOk_by (N := nSumOf) (sc := defScope sSumOf) (by decide +kernel)) (by decide) (fun _ _ _ _ _ => pg_tup rfl (pgs_cons (pg_name (i := 3) nd rfl (.inl rfl)) (pgs_cons (pg_name (i := 4) nd rfl (.inl rfl)) pgs_nil)))
          (fun _ _ _ _ _ => pts_nil) (fun _ _ _ _ _ => pi_tup (pv 3)) (fun _ _ _ _ _ => pg_name (i := 5) nd rfl (.inl rfl)) (fun _ _ _ _ _ => pts_nil)
          (fun _ _ _ _ _ => pe_cmpR op_gt (pe_callB call_abs (by rfl) mb PyProof.Rows.boot_abs (pa_cons (pv 5) pa_nil)) (pe_glob (v := .int 1000) (by rfl) gE ⟨_, rfl⟩) (nomark _))) pa_nil))) (pss_one ps_never) pss_nil)
      (pss_one (ps_ret (pv 1))))), ?_⟩
    refine ⟨d, _, hd, trivial, fun od => ?_⟩
    have e0 : upd H d (.frz od (.dT (enc T))) d = some (.frz od (.dT (enc T))) := upd_same
    refine ⟨_, rfl, d, od, _, rfl, e0, fun D nD => ?_⟩
    have dD : D ≠ d := fun z => by rw [z, upd_same] at nD; cases nD
    have nDH : H D = none := by rw [upd_ne dD] at nD; exact nD
    refine lc_it walk_pairs (fun i H' => Same (upd H d (.frz od (.dT (enc T)))) H' ∧ ∃ ps, H' D = some (.lst (ps.map V.ref)) ∧ Pairs H' ps (noZero (T.take i)))
      ⟨same_upd nD, [], upd_same, .nil⟩ (fun i H' _ p => p.1 _ _ e0) (fun i x H1 H' hi p y => ?_) (fun H' p => ?_)
    · obtain ⟨T1, q1, k, v, ek, rfl, nT, hq, rfl⟩ := y
      obtain ⟨e, c, eT, rfl, rfl⟩ := enc_get ek
      obtain ⟨s1, ps, eD, hp⟩ := p
      rw [ik_V] at hq
      have nTD : D ≠ T1 := ne_of_none eD nT
      have s2 : Same H1 (upd H1 T1 (.tup [.ref q1, .int c])) := same_upd nT
      have hpr : PairAt (upd H1 T1 (.tup [.ref q1, .int c])) T1 (e, c) := ⟨q1, upd_same, s2 _ _ hq⟩
      refine ⟨rfl, _, rfl, T1, _, 1, _, rfl, rfl, .inl (.inl upd_same), atI_nat (j := 1) rfl, rfl, _, rfl, ?_⟩
      have ent : noZero (T.take (i + 1)) = if c ≠ 0 then noZero (T.take i) ++ [(e, c)] else noZero (T.take i) := by rw [take_snoc eT, noZero_snoc]
      by_cases hc : c = 0
      · refine ifF (by rw [hc]; rfl) ⟨s1.trans s2, ps, s2 _ _ eD, ?_⟩
        rw [ent, if_neg (fun z => z hc)]
        exact ps_keep s2 hp
      · refine ifT (by rw [dec_int]; simpa using hc) ⟨_, rfl, ps.map V.ref, s2 _ _ eD, ?_, fun b o eb => ?_, ps ++ [T1], ?_, ?_⟩
        · rw [List.length_map, hp.len]
          refine small (Nat.le_trans (List.length_filter_le _ _) ?_)
          rw [List.length_take]
          exact Nat.le_trans (Nat.min_le_right _ _) (by omega)
        · have bD : b ≠ D := fun z => by rw [z, nD] at eb; cases eb
          rw [upd_ne bD]
          exact s2 _ _ (s1 _ _ eb)
        · rw [upd_same, List.map_append]
          rfl
        · rw [ent, if_pos hc]
          have k3 : ∀ b xs, upd H1 T1 (.tup [.ref q1, .int c]) b = some (.tup xs) → upd (upd H1 T1 (.tup [.ref q1, .int c])) D (.lst (ps.map V.ref ++ [.ref T1])) b = some (.tup xs) := fun b xs eb => by
            rw [upd_ne (ne_lst eb (s2 _ _ eD))]
            exact eb
          exact pairs_snoc ((ps_keep s2 hp).keep k3) (hpr.keep k3)
    · obtain ⟨s1, ps, eD, hp⟩ := p
      rw [enc_length, take_all] at hp
      refine ⟨s1 _ _ e0, ?_⟩
      have s2 : Same H (upd H' d (.dT (enc T))) := fun b o eb => by
        by_cases z : b = d
        · rw [z, upd_same, ← hd, ← z]; exact eb
        · rw [upd_ne z]
          exact s1 _ _ (by rw [upd_ne z]; exact eb)
      have hp2 : Pairs (upd H' d (.dT (enc T))) ps (noZero T) := hp.keep fun b xs eb => by
        have z : b ≠ d := fun z => by rw [z, s1 _ _ e0] at eb; cases eb
        rw [upd_ne z]; exact eb
      refine ⟨D, ps, noZero T, rfl, .inl (.inl (by rw [upd_ne dD]; exact eD)), hp2, noZero_keys kT, fun ps' S p hps hperm hasc np => ?_⟩
      have s3 := same_upd (o := .lst (ps'.map V.ref)) np
      refine ⟨p, _, rfl, .inl (.inl upd_same), fun l o nl ol => ?_⟩
      have s4 := same_upd (o := .frz o (.tup (ps'.map V.ref))) nl
      have s5 := s3.trans s4
      have hso : SumOf T S := ⟨hasc, hperm⟩
      have hsum : SumAt (upd (upd (upd H' d (.dT (enc T))) p (.lst (ps'.map V.ref))) l (.frz o (.tup (ps'.map V.ref)))) l S := ⟨ps', ⟨o, upd_same, ol⟩, ps_keep s5 hps⟩
      have hlen : ps'.length ≤ 500 := by rw [hps.len]; exact Nat.le_trans hso.length zT
      have nlH : H l = none := (s2.trans s3).free nl
      obtain ⟨_, ⟨o', el, ol'⟩, _⟩ := id hsum
      have hps5 := ps_keep s5 hps
      generalize hHx : upd (upd (upd H' d (.dT (enc T))) p (.lst (ps'.map V.ref))) l (.frz o (.tup (ps'.map V.ref))) = Hx at hsum hps5
      have sx : Same H Hx := by rw [← hHx]; exact s2.trans s5
      have hl : SqT K Hx l (ps'.map V.ref) := by rw [← hHx]; exact .inl (.inr ⟨o, upd_same⟩)
      refine ⟨_, rfl, l, _, rfl, .inr hl, _, _, rfl, rfl, _, rfl, ifF ?_ ?_⟩
      · rw [List.length_map]
        exact decide_eq_false (by omega)
      refine ⟨_, rfl, l, rfl, ⟨_, hl⟩, fun D2 nD2 => ?_⟩
      refine turns (walk_tup (K := K) (a := l) (xs := ps'.map V.ref)) (fun i H2 => Same Hx H2 ∧ ∃ bs : List Bool, H2 D2 = some (.lst (bs.map V.bl)) ∧ bs.length ≤ 10 * i ∧ ∀ b ∈ bs, b = false)
        ⟨same_upd nD2, [], upd_same, Nat.zero_le _, fun b hb => nomatch hb⟩ (fun i H2 _ p => sqT_keep p.1 hl) (fun i x H2 H3 hi p y => ?_) (fun H2 p => ?_)
      · obtain ⟨rfl, ex⟩ := y
        obtain ⟨t, pr, rfl, eL, hpr⟩ := pairs_at hps5 ex
        obtain ⟨sH, bs, eD2, zb, fb⟩ := p
        obtain ⟨q0, h1, h2⟩ := pa_keep sH hpr
        have bnd := bT pr (hso.key (List.mem_of_getElem? eL))
        refine ⟨t, [.ref q0, .int pr.2], rfl, .inl (.inl h1), rfl, .ref q0, [.int pr.2], rfl, .int pr.2, [], rfl, rfl, rfl, ?_⟩
        refine ⟨.ref q0, rfl, q0, rfl, ⟨_, .inl (.inl h2)⟩, ?_⟩
        refine turns (walk_tup (K := K) (a := q0) (xs := pr.1.map V.int)) (fun j H4 => Same Hx H4 ∧ TupI H4 q0 pr.1 ∧ ∃ bs : List Bool, H4 D2 = some (.lst (bs.map V.bl)) ∧ bs.length ≤ 10 * i + j ∧ ∀ b ∈ bs, b = false)
          ⟨sH, h2, bs, eD2, zb, fb⟩ (fun j H4 _ p => .inl (.inl p.2.1)) (fun j x H4 H5 hj p y => ?_) (fun H4 p => ?_)
        · obtain ⟨rfl, ex⟩ := y
          obtain ⟨a, ea, rfl⟩ := ints_at ex
          obtain ⟨sH4, h4, bs4, e4, z4, f4⟩ := p
          have ba := bnd.2 a (List.mem_of_getElem? ea)
          refine ⟨rfl, ?_⟩
          refine ⟨_, rfl, a, rfl, _, _, rfl, rfl, bs4.map V.bl, e4, ?_, fun b o eb => ?_, ?_, bs4 ++ [false], ?_, ?_, ?_⟩
          · rw [List.length_map]
            rw [List.length_map] at hj hi
            have := bnd.1
            exact Nat.lt_of_le_of_lt (show bs4.length ≤ 6000 by omega) (by rw [sizeLine_eq]; omega)
          · have bD : b ≠ D2 := fun z => by rw [z, nD2] at eb; cases eb
            rw [upd_ne bD]
            exact sH4 _ _ eb
          · show upd H5 D2 _ q0 = _
            rw [upd_ne (ne_lst h4 e4)]
            exact h4
          · rw [upd_same, List.map_append]
            refine congrArg (fun z => some (HO.lst (bs4.map V.bl ++ [z]))) ?_
            show V.bl (decide (1000 < if a < 0 then -a else a)) = V.bl false
            rw [decide_eq_false (by split <;> omega)]
          · rw [List.length_append, List.length_singleton]; omega
          · intro b hb
            rcases List.mem_append.mp hb with hb | hb
            · exact f4 b hb
            · exact List.mem_singleton.mp hb
        · obtain ⟨sH4, h4, bs4, e4, z4, f4⟩ := p
          rw [List.length_map] at z4
          have := bnd.1
          exact ⟨sH4, bs4, e4, by omega, f4⟩
      · obtain ⟨sH, bs, eD2, zb, fb⟩ := p
        refine ⟨D2, bs, rfl, .inl (.inl eD2), _, rfl, ifF ?_ ?_⟩
        · rw [Bool.eq_false_iff]
          intro hb
          obtain ⟨b, hb1, hb2⟩ := List.any_eq_true.mp hb
          rw [fb b hb1] at hb2
          cases hb2
        · exact ⟨_, rfl, q H2 l S (sx.trans sH) nlH hso (hsum.keep sH)⟩
end
end Dw
/-! added, multiplied. -/
namespace Dw
open PySem PySem.Spec PyProof.Rows L2
theorem ne_of_dT {H : Hp} {a r : Addr} {kvs : List (List Key × V)} {o : HO} (g : H r = some (.dT kvs)) (h : H a = some o) (n : o ≠ .dT kvs) : a ≠ r := by
  rintro rfl
  rw [h] at g
  exact n (Option.some.inj g)
theorem SumAt.butD {H H' : Hp} {a r : Addr} {L : Poly} {kvs : List (List Key × V)} (g : H r = some (.dT kvs)) (s : But r H H') (h : SumAt H a L) : SumAt H' a L := by
  obtain ⟨ps, ⟨o, e, d⟩, p⟩ := h
  exact ⟨ps, ⟨o, s _ _ (ne_of_dT g e (fun z => nomatch z)) e, d⟩, p.keep fun b xs z => s b _ (ne_of_dT g z (fun z => nomatch z)) z⟩
theorem sqT_of {K : PySem.W.Frag} {H : Hp} {a : Addr} {L : Poly} (h : SumAt H a L) : ∃ ps, SqT K H a (ps.map V.ref) ∧ TupF H a (ps.map V.ref) ∧ Pairs H ps L := let ⟨ps, t, p⟩ := h; ⟨ps, t.sq, t, p⟩
theorem get_getD (o : Option Int) : ((o.map V.int).getD (.int 0)) = .int (o.getD 0) := by cases o <;> rfl
theorem small3 {n : Nat} (h : n ≤ 10000) : n < sizeLine := by rw [sizeLine_eq]; omega
def Fits (L : Poly) : Prop := ∀ p ∈ L, p.1.length ≤ 10 ∧ ∀ v ∈ p.1, -1000 ≤ v ∧ v ≤ 1000
section
variable {P : Program} {w : World} {K : PySem.W.Frag} {mg : Str → Option Value} {base : Heap}
abbrev gPair (K : PySem.W.Frag) (i j : Nat) : TG := gTup K 2 (gCons (gName i) (gCons (gName j) gNil))
/-- counts[powers] = counts.get(powers, 0) + v -/
abbrev tBump (d k : Nat) (tv : TE) : TS := sDPut (tVar d) (tVar k) (tOp (rI0 fun i j => .int (i + j)) (tDGet2 (tVar d) (tVar k) (tC (.int 0))) tv)
theorem bump {σ : L2.St} {H : Hp} {D : Ends} {d k : Nat} {dd q : Addr} {L : Poly} {e : Mon} {tv : TE} {c : Int} (h1 : σ[d]? = some (some (.ref dd))) (h2 : σ[k]? = some (some (.ref q))) (hd : H dd = some (.dT (enc L))) (hq : TupI H q e) (hz : L.length < sizeLine)
    (hv : ∀ Q : VK, Q (.int c) H → tv σ H Q) (h : D.nx σ (upd H dd (.dT (enc (putI L e ((lookI L e).getD 0 + c)))))) : tBump d k tv D σ H := by
  have hq' : H q = some (.tup ((ik e).map kV)) := by rw [ik_V]; exact hq
  refine ⟨_, h1, dd, rfl, .inr ⟨_, .inl hd⟩, _, h2, _, DGet.t hd hq', hv _ ?_⟩
  refine ⟨(lookI L e).getD 0, c, ?_, rfl, _, h1, _, h2, dd, _, rfl, DPut.t hd hq' (by rw [enc_length]; exact hz), ?_⟩
  · rw [val_enc]; exact get_getD _
  · rw [put_enc]; exact h
/-- for powers, many in other: counts[powers] = counts.get(powers, 0) + many -/
theorem plus_loop {a b d : Addr} {x3 x4 : Option V} {ps : List Addr} {L0 L : Poly} {H : Hp} {D : Ends} (hb : TupF H b (ps.map V.ref)) (hp : Pairs H ps L) (hd : H d = some (.dT (enc L0))) (hz : L0.length + L.length ≤ 10000)
    (h : ∀ y3 y4 H', But d H H' → H' d = some (.dT (enc (accum L0 L))) → D.nx [some (.ref a), some (.ref b), some (.ref d), y3, y4] H') :
    tFor (iTup K (tVar 1)) (gPair K 3 4) (tBump 2 3 (tVar 4)) D [some (.ref a), some (.ref b), some (.ref d), x3, x4] H := by
  obtain ⟨ob, eb, _⟩ := hb
  have keepb : ∀ {H'}, But d H H' → H' b = some (.frz ob (.tup (ps.map V.ref))) := fun s => s _ _ (ne_of_dT hd eb (fun z => nomatch z)) eb
  refine ⟨_, rfl, b, rfl, ⟨_, .inl (.inr ⟨ob, eb⟩)⟩, for_it (walk_tup (K := K) (a := b) (xs := ps.map V.ref))
    (fun i σ H' => ∃ y3 y4, σ = [some (.ref a), some (.ref b), some (.ref d), y3, y4] ∧ But d H H' ∧ H' d = some (.dT (enc (accum L0 (L.take i)))))
    ⟨x3, x4, rfl, (fun _ _ _ e => e), hd⟩ (fun i σ H' _ p => let ⟨_, _, _, s, _⟩ := p; .inl (.inr ⟨ob, keepb s⟩)) (fun i x σ H1 H' hi p y => ?_) (fun σ H' p => ?_)⟩
  · obtain ⟨rfl, ex⟩ := y
    obtain ⟨y3, y4, rfl, s, ed⟩ := p
    obtain ⟨t, pr, rfl, eL, hpr⟩ := pairs_at hp ex
    have k1 : ∀ b xs, H b = some (.tup xs) → H' b = some (.tup xs) := fun b xs z => s b _ (ne_of_dT hd z (fun z => nomatch z)) z
    obtain ⟨q0, h1, h2⟩ := hpr.keep k1
    refine ⟨t, [.ref q0, .int pr.2], rfl, .inl (.inl h1), rfl, .ref q0, [.int pr.2], rfl, .int pr.2, [], rfl, rfl, ?_⟩
    refine bump (c := pr.2) rfl rfl ed h2 ?_ (fun Q hq => ⟨_, rfl, hq⟩) ⟨_, _, rfl, s.trans but_upd, ?_⟩
    · refine small3 (Nat.le_trans (accum_length _ _) ?_)
      rw [List.length_take]
      exact Nat.le_trans (Nat.add_le_add_left (Nat.min_le_right _ _) _) hz
    · rw [upd_same, take_snoc eL, accum_snoc]
  · obtain ⟨y3, y4, rfl, s, ed⟩ := p
    rw [show (ps.map V.ref).length = L.length by rw [List.length_map, hp.len], take_all] at ed
    exact h y3 y4 H' s ed
theorem same_but {H H' : Hp} {d : Addr} {o : HO} (nd : H d = none) (s : But d (upd H d o) H') : Same H H' := fun b x e => by
  have bd : b ≠ d := ne_of_none e nd
  exact s _ _ bd (by rw [upd_ne bd]; exact e)
def spAdded : Sp := fun vs H Q _ => ∃ (a b : Addr) (L M : Poly), vs = [.ref a, .ref b] ∧ SumAt H a L ∧ SumAt H b M ∧ Keys L ∧ L.length + M.length ≤ 500 ∧ Fits L ∧ Fits M ∧
  ∀ H' r S, Same H H' → H r = none → SumOf (accum L M) S → SumAt H' r S → Q (.ref r) H'
theorem ok_added {f fS : Addr} {fd fdS : FuncData} (F : Fun K "added" "added" sAdded f fd) (CS : Cal P w K mg base CX0 1 "sum_of" ["counts"] spSumOf fS fdS) (md : mg "dict" = none) : FnOk P w K mg base CX0 2 f fd ["one", "other"] spAdded := by
  refine F.ok scAdded (fun vs H Q E h => ?_) (fun cdv A outer s H vs Q E hr h => ?_)
  · obtain ⟨a, b, L, M, rfl, _⟩ := h
    rfl
  · obtain ⟨a, b, L, M, rfl, ha, hb, kL, hz, fL, fM, q⟩ := h
    have nd := scAdded.nd
    have hu := hu_of hr
    have hu2 : (A.deeper (envOfC (Str.ofString "added") (defScope sAdded) s.heap.objs.size f cdv)).units + 2 < cLine := by have := hr.un; omega
    refine ⟨_, pss_cons (ps_set (i := 2) nd rfl (.inl rfl) (pe_callTy (cr_dictT rfl hu2) (by rfl) md PyProof.Rows.boot_dict (pa_cons (pv 0) pa_nil)))
      (pss_cons (ps_for (tb := tBump 2 3 (tVar 4)) PassesOwn.never rfl (pi_tup (pv 1)) (pg_tup rfl (pgs_cons (pg_name (i := 3) nd rfl (.inl rfl)) (pgs_cons (pg_name (i := 4) nd rfl (.inl rfl)) pgs_nil)))
        (pss_one (ps_dput hu (pv 2) (pv 3) (pe_op op_add (pe_dget2 hu (pv 2) (pv 3) pe_int ⟨rfl, rfl, rfl, rfl⟩) (pv 4)) rfl)))
      (pss_one (ps_ret (pe_call (E := fun _ _ _ => False) CS.ok hr (by rfl) CS.g CS.kp CS.b .nil pass0 (pa_cons (pv 2) pa_nil))))), ?_⟩
    obtain ⟨ps, ta, hp⟩ := ha
    refine ⟨.ref a, rfl, a, ps, L, rfl, .inl ta, hp, kL, fun d nD => ?_⟩
    have s1 := same_upd (o := .dT (enc L)) nD
    obtain ⟨pb, tb, hpb⟩ := hb.keep s1
    refine plus_loop tb hpb upd_same (by omega) (fun y3 y4 H' sB eD => ?_)
    have s2 : Same H H' := same_but nD sB
    refine ⟨_, rfl, d, accum L M, rfl, eD, accum_keys _ kL, Nat.le_trans (accum_length _ _) (by omega), ?_, fun H2 r S s3 nr so hs => q H2 r S (s2.trans s3) (s2.free nr) so hs⟩
    exact accum_key (P := fun k => k.length ≤ 10 ∧ ∀ v ∈ k, -1000 ≤ v ∧ v ≤ 1000) M fL fM
end
end Dw
/-! multiplied. -/
namespace Dw
open PySem PySem.Spec PyProof.Rows L2
theorem mulE_snoc (L M : Poly) (p : List Int × Int) : mulE (L ++ [p]) M = mulE L M ++ M.map fun q => (mAdd p.1 q.1, p.2 * q.2) := by
  rw [mulE_append, mulE_cons]
  show _ ++ (_ ++ []) = _
  rw [List.append_nil]
section
variable {P : Program} {w : World} {K : PySem.W.Frag} {mg : Str → Option Value} {base : Heap}
def spMult : Sp := fun vs H Q _ => ∃ (a b : Addr) (L M : Poly) (n : Nat), vs = [.ref a, .ref b] ∧ SumAt H a L ∧ SumAt H b M ∧ (∀ p ∈ L, p.1.length = n) ∧ (∀ p ∈ M, p.1.length = n) ∧ n ≤ 1000 ∧ L.length * M.length ≤ 500 ∧ (∀ p ∈ M, -(2 ^ 64) < p.2 ∧ p.2 < 2 ^ 64) ∧ Fits (mulE L M) ∧
  ∀ H' r S, Same H H' → H r = none → SumOf (accum [] (mulE L M)) S → SumAt H' r S → Q (.ref r) H'
theorem ok_mult {f fS fP : Addr} {fd fdS fdP : FuncData} (F : Fun K "multiplied" "multiplied" sMultiplied f fd) (CS : Cal P w K mg base CX0 1 "sum_of" ["counts"] spSumOf fS fdS) (CP : Cal P w K mg base CX0 1 "product_of" ["one", "other"] (spProd K) fP fdP) :
    FnOk P w K mg base CX0 2 f fd ["one", "other"] spMult := by
  refine F.ok scMultiplied (fun vs H Q E h => ?_) (fun cdv A outer s H vs Q E hr h => ?_)
  · obtain ⟨a, b, L, M, n, rfl, _⟩ := h
    rfl
  · obtain ⟨a, b, L, M, n, rfl, ha, hb, lL, lM, hn, hz, cM, fT, q⟩ := h
    have nd := scMultiplied.nd
    have hu := hu_of hr
    refine ⟨_, pss_cons (ps_set (i := 2) nd rfl (.inl rfl) pe_dnewT)
      (pss_cons (ps_for PassesOwn.never rfl (pi_tup (pv 0)) (pg_tup rfl (pgs_cons (pg_name (i := 3) nd rfl (.inl rfl)) (pgs_cons (pg_name (i := 4) nd rfl (.inl rfl)) pgs_nil)))
        (pss_one (ps_for PassesOwn.never rfl (pi_tup (pv 1)) (pg_tup rfl (pgs_cons (pg_name (i := 5) nd rfl (.inl rfl)) (pgs_cons (pg_name (i := 6) nd rfl (.inl rfl)) pgs_nil)))
          (pss_cons (ps_set (i := 7) nd rfl (.inl rfl) (pe_call (E := fun _ _ _ => False) CP.ok hr (by rfl) CP.g CP.kp CP.b .nil pass0 (pa_cons (pv 3) (pa_cons (pv 5) pa_nil))))
            (pss_one (ps_dput hu (pv 2) (pv 7) (pe_op op_add (pe_dget2 hu (pv 2) (pv 7) pe_int ⟨rfl, rfl, rfl, rfl⟩) (pe_op op_mul (pv 4) (pv 6))) rfl))))))
      (pss_one (ps_ret (pe_call (E := fun _ _ _ => False) CS.ok hr (by rfl) CS.g CS.kp CS.b .nil pass0 (pa_cons (pv 2) pa_nil))))), ?_⟩
    obtain ⟨pa, ⟨oa, ea, da⟩, hpa⟩ := ha
    obtain ⟨pb, ⟨ob, eb, db⟩, hpb⟩ := hb
    intro d nD
    have s0 := same_upd (o := .dT []) nD
    have ed0 : upd H d (.dT []) d = some (.dT []) := upd_same
    have kt : ∀ {H'}, But d (upd H d (.dT [])) H' → ∀ {b xs}, H b = some (.tup xs) → H' b = some (.tup xs) := fun s b xs z => s _ _ (ne_of_none z nD) (s0 _ _ z)
    have kf : ∀ {H'}, But d (upd H d (.dT [])) H' → ∀ {b o xs}, H b = some (.frz o xs) → H' b = some (.frz o xs) := fun s b o xs z => s _ _ (ne_of_none z nD) (s0 _ _ z)
    have zle : ∀ i, (accum [] (mulE (L.take i) M)).length ≤ 500 := fun i => by
      refine Nat.le_trans (accum_length _ _) ?_
      rw [mulE_length, List.length_take, List.length_nil, Nat.zero_add]
      exact Nat.le_trans (Nat.mul_le_mul_right _ (Nat.min_le_right _ _)) hz
    refine ⟨_, rfl, a, rfl, ⟨_, .inl (.inr ⟨oa, s0 _ _ ea⟩)⟩, for_it (walk_tup (K := K) (a := a) (xs := pa.map V.ref))
      (fun i σ H' => ∃ y3 y4 y5 y6 y7, σ = [some (.ref a), some (.ref b), some (.ref d), y3, y4, y5, y6, y7] ∧ But d (upd H d (.dT [])) H' ∧ H' d = some (.dT (enc (accum [] (mulE (L.take i) M)))))
      ⟨_, _, _, _, _, rfl, (fun _ _ _ e => e), ed0⟩ (fun i σ H' _ p => let ⟨_, _, _, _, _, _, s, _⟩ := p; .inl (.inr ⟨oa, kf s ea⟩)) (fun i x σ H1 H' hi p y => ?_) (fun σ H' p => ?_)⟩
    · obtain ⟨rfl, ex⟩ := y
      obtain ⟨y3, y4, y5, y6, y7, rfl, s, ed⟩ := p
      obtain ⟨t, pr, rfl, eL, hpr⟩ := pairs_at hpa ex
      obtain ⟨q0, h1, h2⟩ := hpr
      have lpr := lL pr (List.mem_of_getElem? eL)
      refine ⟨t, [.ref q0, .int pr.2], rfl, .inl (.inl (kt s h1)), rfl, .ref q0, [.int pr.2], rfl, .int pr.2, [], rfl, rfl, ?_⟩
      refine ⟨_, rfl, b, rfl, ⟨_, .inl (.inr ⟨ob, kf s eb⟩)⟩, for_it (walk_tup (K := K) (a := b) (xs := pb.map V.ref))
        (fun j σ H2 => ∃ y5 y6 y7, σ = [some (.ref a), some (.ref b), some (.ref d), some (.ref q0), some (.int pr.2), y5, y6, y7] ∧ But d (upd H d (.dT [])) H2 ∧ H2 d = some (.dT (enc (accum [] (mulE (L.take i) M ++ (M.take j).map fun q => (mAdd pr.1 q.1, pr.2 * q.2))))))
        ⟨y5, y6, y7, rfl, s, by rw [ed]; show _ = some (HO.dT (enc (accum [] (_ ++ [])))); rw [List.append_nil]⟩ (fun j σ H2 _ p => let ⟨_, _, _, _, s, _⟩ := p; .inl (.inr ⟨ob, kf s eb⟩)) (fun j x σ H2 H3 hj p y => ?_) (fun σ H2 p => ?_)⟩
      · obtain ⟨rfl, ex2⟩ := y
        obtain ⟨y5, y6, y7, rfl, s2, ed2⟩ := p
        obtain ⟨t2, pr2, rfl, eM, hpr2⟩ := pairs_at hpb ex2
        obtain ⟨q2, g1, g2⟩ := hpr2
        have lpr2 := lM pr2 (List.mem_of_getElem? eM)
        refine ⟨t2, [.ref q2, .int pr2.2], rfl, .inl (.inl (kt s2 g1)), rfl, .ref q2, [.int pr2.2], rfl, .int pr2.2, [], rfl, rfl, ?_⟩
        refine ⟨_, rfl, _, rfl, q0, q2, pr.1, pr2.1, rfl, .inl (.inl (kt s2 h2)), .inl (.inl (kt s2 g2)), by omega, by omega, fun H4 q4 s4 n4 e4 => ?_⟩
        have ed4 := s4 _ _ ed2
        refine bump (tv := tOp (rI CMul fun i j => .int (i * j)) (tVar 4) (tVar 6)) (c := pr.2 * pr2.2) rfl rfl ed4 e4 ?_ (fun Q hq => ⟨_, rfl, _, rfl, _, _, rfl, rfl, .inr (cM pr2 (List.mem_of_getElem? eM)), hq⟩) ⟨_, _, _, rfl, (s2.trans (But.of s4)).trans but_upd, ?_⟩
        · have z1 := accum_length (mulE (L.take i) M ++ (M.take j).map fun q => (mAdd pr.1 q.1, pr.2 * q.2)) []
          rw [List.length_append, mulE_length, List.length_map, List.length_take, List.length_take, List.length_nil] at z1
          refine small (Nat.le_trans z1 ?_)
          have z2 : min i L.length * M.length ≤ 500 := Nat.le_trans (Nat.mul_le_mul_right _ (Nat.min_le_right _ _)) hz
          have z3 : M.length ≤ 500 := by
            have : 0 < L.length := (List.getElem?_eq_some_iff.mp eL).1 |> fun h => Nat.lt_of_le_of_lt (Nat.zero_le _) h
            exact Nat.le_trans (Nat.le_mul_of_pos_left _ this) hz
          have z4 : min j M.length ≤ M.length := Nat.min_le_right _ _
          omega
        · rw [upd_same, take_snoc eM, List.map_append, ← List.append_assoc]
          exact congrArg (fun z => some (HO.dT (enc z))) (accum_snoc [] (mulE (L.take i) M ++ (M.take j).map fun q => (mAdd pr.1 q.1, pr.2 * q.2)) (mAdd pr.1 pr2.1, pr.2 * pr2.2)).symm
      · obtain ⟨y5, y6, y7, rfl, s2, ed2⟩ := p
        rw [show (pb.map V.ref).length = M.length by rw [List.length_map, hpb.len], take_all] at ed2
        refine ⟨_, _, _, _, _, rfl, s2, ?_⟩
        rw [take_snoc eL, mulE_snoc]
        exact ed2
    · obtain ⟨y3, y4, y5, y6, y7, rfl, s, ed⟩ := p
      rw [show (pa.map V.ref).length = L.length by rw [List.length_map, hpa.len], take_all] at ed
      have s2 : Same H H' := same_but nD s
      have z := zle L.length
      rw [take_all] at z
      refine ⟨_, rfl, d, accum [] (mulE L M), rfl, ed, accum_keys _ List.nodup_nil, z, ?_, fun H2 r S s3 nr so hs => q H2 r S (s2.trans s3) (s2.free nr) so hs⟩
      exact accum_key (P := fun k => k.length ≤ 10 ∧ ∀ v ∈ k, -1000 ≤ v ∧ v ≤ 1000) _ (fun p hp => nomatch hp) fT
end
end Dw
/-! the law's own sum of two sums. -/
namespace Dw
open PySem PySem.Spec PyProof.Rows L2
theorem set_one {σ : L2.St} {i : Nat} {a : Option V} (hi : i < σ.length) : wipe ((wipe σ [i]).set i a) [i] = wipe σ [i] ∧ ((wipe σ [i]).set i a)[i]? = some a := by
  refine ⟨?_, ?_⟩
  · show (((σ.set i none).set i a).set i none) = σ.set i none
    simp
  · show ((σ.set i none).set i a)[i]? = some a
    simp [hi]
theorem set_one1 {σ : L2.St} {i k : Nat} {a : Option V} (h : k ≠ i) : ((wipe σ [i]).set i a)[k]? = σ[k]? := by
  show ((σ.set i none).set i a)[k]? = σ[k]?
  simp [List.getElem?_set, Ne.symm h]
section
variable {K : PySem.W.Frag}
/-- tuple(sorted([(k, d[k]) for k in d if d[k] != 0])) -/
abbrev tSortD (K : PySem.W.Frag) (c p : Nat) : TE :=
  tCB (rTupF K) (tCons (tCB (rSortQ K) (tCons (tLockE (tLc (iKeys (tVar c)) (gName p) (tTest (tOp rNe (tDGet (tVar c) (tVar p)) (tC (.int 0)))) (tTup (tCons (tVar p) (tCons (tDGet (tVar c) (tVar p)) tNil))) [p])) tNil)) tNil)
theorem sort_dict {σ : L2.St} {H : Hp} {Q : VK} {c p : Nat} {d : Addr} {T : Poly} (hcp : c ≠ p) (hc : σ[c]? = some (some (.ref d))) (hp : p < σ.length) (hd : H d = some (.dT (enc T))) (kT : Keys T) (zT : T.length ≤ 10000)
    (q : ∀ H' a S, Same H H' → H a = none → SumOf T S → SumAt H' a S → Q (.ref a) H') : tSortD K c p σ H Q := by
  refine ⟨d, _, hd, trivial, fun od => ?_⟩
  have e0 : upd H d (.frz od (.dT (enc T))) d = some (.frz od (.dT (enc T))) := upd_same
  refine ⟨_, hc, d, od, rfl, .inr ⟨_, e0, fun D nD => ?_⟩⟩
  have dD : D ≠ d := fun z => by rw [z, upd_same] at nD; cases nD
  refine lc_it walk_keysT (fun i H' => Same (upd H d (.frz od (.dT (enc T)))) H' ∧ ∃ ps, H' D = some (.lst (ps.map V.ref)) ∧ Pairs H' ps (noZero (T.take i)))
    ⟨same_upd nD, [], upd_same, .nil⟩ (fun i H' _ p => p.1 _ _ e0) (fun i x H1 H' hi pr y => ?_) (fun H' pr => ?_)
  · obtain ⟨rfl, k, v, q1, ek, rfl, hq⟩ := y
    obtain ⟨e, n, eT, rfl, rfl⟩ := enc_get ek
    obtain ⟨s1, ps, eD, hps⟩ := pr
    obtain ⟨w1, w2⟩ := set_one (σ := σ) (a := some (.ref q1)) hp
    have w3 := (set_one1 (σ := σ) (a := some (.ref q1)) hcp).trans hc
    have hval : valV (enc T) (ik e) = some (.int n) := by
      rw [val_enc]
      have l := lookI_cf kT e
      rw [cf_mem kT (List.mem_of_getElem? eT)] at l
      cases z : lookI T e with
      | none =>
        exact absurd (List.mem_map.mpr ⟨(e, n), List.mem_of_getElem? eT, rfl⟩) (lookI_none.mp z)
      | some m => rw [z] at l; exact congrArg (fun z => some (V.int z)) l
    have dg : DGet H' d (.ref q1) (some (.int n)) := .inr ⟨_, _, q1, .inr ⟨od, s1 _ _ e0⟩, rfl, hq, hval.symm⟩
    rw [ik_V] at hq
    refine ⟨w1, _, w3, _, w2, d, _, rfl, dg, rfl, _, rfl, ?_⟩
    have ent : noZero (T.take (i + 1)) = if n ≠ 0 then noZero (T.take i) ++ [(e, n)] else noZero (T.take i) := by rw [take_snoc eT, noZero_snoc]
    by_cases hn : n = 0
    · refine ifF (by rw [hn]; rfl) ⟨s1, ps, eD, ?_⟩
      rw [ent, if_neg (fun z => z hn)]
      exact hps
    · refine ifT (by rw [dec_int]; simpa using hn) ⟨_, w2, _, w3, _, w2, d, _, rfl, dg, small' (show 2 ≤ 1000 by decide), fun T1 nT => ?_⟩
      have nTD : D ≠ T1 := ne_of_none eD nT
      have s2 : Same H' (upd H' T1 (.tup [.ref q1, .int n])) := same_upd nT
      have hpr : PairAt (upd H' T1 (.tup [.ref q1, .int n])) T1 (e, n) := ⟨q1, upd_same, s2 _ _ hq⟩
      refine ⟨ps.map V.ref, s2 _ _ eD, ?_, fun b o eb => ?_, ps ++ [T1], ?_, ?_⟩
      · rw [List.length_map, hps.len]
        refine small3 (Nat.le_trans (List.length_filter_le _ _) ?_)
        rw [List.length_take]
        exact Nat.le_trans (Nat.min_le_right _ _) (by omega)
      · have bD : b ≠ D := fun z => by rw [z, nD] at eb; cases eb
        rw [upd_ne bD]
        exact s2 _ _ (s1 _ _ eb)
      · rw [upd_same, List.map_append]
        rfl
      · rw [ent, if_pos hn]
        have k3 : ∀ b xs, upd H' T1 (.tup [.ref q1, .int n]) b = some (.tup xs) → upd (upd H' T1 (.tup [.ref q1, .int n])) D (.lst (ps.map V.ref ++ [.ref T1])) b = some (.tup xs) := fun b xs eb => by
          rw [upd_ne (ne_lst eb (s2 _ _ eD))]
          exact eb
        exact pairs_snoc ((ps_keep s2 hps).keep k3) (hpr.keep k3)
  · obtain ⟨s1, ps, eD, hps⟩ := pr
    rw [enc_length, take_all] at hps
    refine ⟨s1 _ _ e0, ?_⟩
    have s2 : Same H (upd H' d (.dT (enc T))) := fun b o eb => by
      by_cases z : b = d
      · rw [z, upd_same, ← hd, ← z]; exact eb
      · rw [upd_ne z]
        exact s1 _ _ (by rw [upd_ne z]; exact eb)
    have hp2 : Pairs (upd H' d (.dT (enc T))) ps (noZero T) := hps.keep fun b xs eb => by
      have z : b ≠ d := fun z => by rw [z, s1 _ _ e0] at eb; cases eb
      rw [upd_ne z]; exact eb
    refine ⟨D, ps, noZero T, rfl, .inl (.inl (by rw [upd_ne dD]; exact eD)), hp2, noZero_keys kT, fun ps' S p hps hperm hasc np => ?_⟩
    have s3 := same_upd (o := .lst (ps'.map V.ref)) np
    refine ⟨p, _, rfl, .inl (.inl upd_same), fun l o nl ol => ?_⟩
    have s4 := same_upd (o := .frz o (.tup (ps'.map V.ref))) nl
    have s5 := s3.trans s4
    exact q _ l S (s2.trans s5) ((s2.trans s3).free nl) ⟨hasc, hperm⟩ ⟨ps', ⟨o, upd_same, ol⟩, ps_keep s5 hps⟩
end
section
variable {P : Program} {w : World} {K : PySem.W.Frag} {mg : Str → Option Value} {base : Heap}
def spLPlus : Sp := fun vs H Q _ => ∃ (a b : Addr) (L M : Poly), vs = [.ref a, .ref b] ∧ SumAt H a L ∧ SumAt H b M ∧ Keys L ∧ L.length + M.length ≤ 10000 ∧
  ∀ H' r S, Same H H' → H r = none → SumOf (accum L M) S → SumAt H' r S → Q (.ref r) H'
theorem ok_lplus {f : Addr} {fd : FuncData} (F : Fun K "_law_plus_sums" "_law_plus_sums" sLawPlus f fd) (md : mg "dict" = none) (mt : mg "tuple" = none) (ms : mg "sorted" = none) : FnOk P w K mg base CX0 1 f fd ["_law_one", "_law_other"] spLPlus := by
  refine F.ok scLawPlus (fun vs H Q E h => ?_) (fun cdv A outer s H vs Q E hr h => ?_)
  · obtain ⟨a, b, L, M, rfl, _⟩ := h
    rfl
  · obtain ⟨a, b, L, M, rfl, ha, hb, kL, hz, q⟩ := h
    have nd := scLawPlus.nd
    have hu := hu_of hr
    have hu2 : (A.deeper (envOfC (Str.ofString "_law_plus_sums") (defScope sLawPlus) s.heap.objs.size f cdv)).units + 2 < cLine := by have := hr.un; omega
    refine ⟨_, pss_cons (ps_set (i := 2) nd rfl (.inr rfl) (pe_callTy (cr_dictT rfl hu2) (by rfl) md PyProof.Rows.boot_dict (pa_cons (pv 0) pa_nil)))
      (pss_cons (ps_for (tb := tBump 2 3 (tVar 4)) PassesOwn.never rfl (pi_tup (pv 1)) (pg_tup rfl (pgs_cons (pg_name (i := 3) nd rfl (.inl rfl)) (pgs_cons (pg_name (i := 4) nd rfl (.inl rfl)) pgs_nil)))
        (pss_one (ps_dput hu (pv 2) (pv 3) (pe_op op_add (pe_dget2 hu (pv 2) (pv 3) pe_int ⟨rfl, rfl, rfl, rfl⟩) (pv 4)) rfl)))
      (pss_one (ps_ret (pe_callTy cr_tupF (by rfl) mt PyProof.Rows.boot_tuple (pa_cons (pe_callB (cr_sortQ hu2) (by rfl) ms PyProof.Rows.boot_sorted (pa_cons
        (pe_lock (pe_lc (own := [("_law_powers", 3)]) (g := gName 3) rfl nd (pi_keys (pv 2)) (blkOk_by (N := nLawPlus) (sc := defScope sLawPlus) (by decide +kernel)) (fun _ _ _ _ _ => pg_name (i := 3) nd rfl (.inl rfl))
          (fun _ _ _ _ _ => pts_one (pt_cmpR op_ne (by exact pe_dget hu (pv 2) (pv 3) (fun _ _ => rfl)) pe_int (nomark _))) (fun _ _ _ _ _ => pe_tup (pa_cons (pv 3) (pa_cons (by exact pe_dget hu (pv 2) (pv 3) (fun _ _ => rfl)) pa_nil))))) pa_nil)) pa_nil))))), ?_⟩
    obtain ⟨ps, ta, hp⟩ := ha
    refine ⟨.ref a, rfl, a, ps, L, rfl, .inl ta, hp, kL, fun d nD => ?_⟩
    have s1 := same_upd (o := .dT (enc L)) nD
    obtain ⟨pb, tb, hpb⟩ := hb.keep s1
    refine plus_loop tb hpb upd_same hz (fun y3 y4 H' sB eD => ?_)
    have s2 : Same H H' := same_but nD sB
    exact sort_dict (c := 2) (p := 3) (d := d) (by decide) rfl (show 3 < 5 by decide) eD (accum_keys _ kL) (Nat.le_trans (accum_length _ _) hz) (fun H2 r S s3 nr so hs => q H2 r S (s2.trans s3) (s2.free nr) so hs)
end
end Dw
/-! the law's own product of two sums. -/
namespace Dw
open PySem PySem.Spec PyProof.Rows L2
def rTupA (K : PySem.W.Frag) : List V → Hp → VK → Prop := fun xs H Q => ∃ p ys, xs = [.ref p] ∧ ((SqL K H p ys ∧ ∀ l, H l = none → Q (.ref l) (upd H l (.tup ys))) ∨ (SqT K H p ys ∧ Q (.ref p) H))
theorem call_tupA {X : Cx} {K : PySem.W.Frag} (h : X.K = K := by rfl) : CallR X (.type "tuple") (rTupA K) := by
  subst h
  exact call_tuple_of
theorem accum_congr {n : Nat} {L M E E' : Poly} (kL : Keys L) (h : ∀ k, k.length = n → cf E k = cf E' k) {k : Mon} (hk : k.length = n) : cf (accum L E) k = cf L k + cf E' k := by rw [accum_cf _ kL, h k hk]
section
variable {P : Program} {w : World} {K : PySem.W.Frag} {mg : Str → Option Value} {base : Heap}
abbrev tProdE (K : PySem.W.Frag) : TE := tTup (tCons (tCB (rTupA K) (tCons (tLc (RZ.iZipA K (tCons (tVar 3) (tCons (tVar 6) tNil))) (gPair K 8 9) tYes (tOp (rI0 fun i j => .int (i + j)) (tVar 8) (tVar 9)) [8, 9]) tNil)) (tCons (tOp (rI CMul fun i j => .int (i * j)) (tVar 4) (tVar 7)) tNil))
def spLTimes : Sp := fun vs H Q _ => ∃ (a b : Addr) (L M : Poly) (n : Nat), vs = [.ref a, .ref b] ∧ SumAt H a L ∧ SumAt H b M ∧ (∀ p ∈ L, p.1.length = n) ∧ (∀ p ∈ M, p.1.length = n) ∧ n ≤ 1000 ∧ (L.length + 1) * M.length ≤ 10000 ∧ M.length ≤ 1000 ∧ (∀ p ∈ M, -(2 ^ 64) < p.2 ∧ p.2 < 2 ^ 64) ∧
  ∀ H' r S, Same H H' → Can n S → (∀ k, k.length = n → cf S k = cf (mulE L M) k) → S.length ≤ L.length * M.length → SumAt H' r S → Q (.ref r) H'
theorem ok_ltimes {f fP : Addr} {fd fdP : FuncData} (F : Fun K "_law_times_sums" "_law_times_sums" sLawTimes f fd) (CP : Cal P w K mg base CX0 1 "_law_plus_sums" ["_law_one", "_law_other"] spLPlus fP fdP) (mt : mg "tuple" = none) (mz : mg "zip" = none) :
    FnOk P w K mg base CX0 2 f fd ["_law_one", "_law_other"] spLTimes := by
  refine F.ok scLawTimes (fun vs H Q E h => ?_) (fun cdv A outer s H vs Q E hr h => ?_)
  · obtain ⟨a, b, L, M, n, rfl, _⟩ := h
    rfl
  · obtain ⟨a, b, L, M, n, rfl, ha, hb, lL, lM, hn, hz, hzM, cM, q⟩ := h
    have nd := scLawTimes.nd
    have hu := hu_of hr
    refine ⟨_, pss_cons (ps_set (i := 2) nd rfl (.inl rfl) pe_unit)
      (pss_cons (ps_for PassesOwn.never rfl (pi_tup (pv 0)) (pg_tup rfl (pgs_cons (pg_name (i := 3) nd rfl (.inr rfl)) (pgs_cons (pg_name (i := 4) nd rfl (.inr rfl)) pgs_nil)))
        (pss_cons (ps_setLc (i := 5) (own := [("_law_right", 6), ("_law_more", 7)]) (g := gPair K 6 7) (tt := tYes) (te := tProdE K) rfl nd rfl rfl (sw_true rfl rfl rfl (by decide +kernel)) (pi_tup (pv 1)) (blkOk_by (N := nLawTimes) (sc := defScope sLawTimes) (by decide +kernel))
            (fun _ _ _ _ _ => pg_tup rfl (pgs_cons (pg_name (i := 6) nd rfl (.inl rfl)) (pgs_cons (pg_name (i := 7) nd rfl (.inl rfl)) pgs_nil))) (fun _ _ _ _ _ => pts_nil)
            (fun _ _ _ _ _ => pe_tup (pa_cons (pe_callTy call_tupA (by rfl) mt PyProof.Rows.boot_tuple (pa_cons (pe_lc (own := [("_law_a", 8), ("_law_b", 9)]) (g := gPair K 8 9) (tt := tYes) rfl nd (RZ.pi_zipA (by rfl) mz (pa_cons (pv 3) (pa_cons (pv 6) pa_nil)))
              (blkOk_by (N := nLawTimes) (sc := { kind := .function, names := [(".0", .local), ("_law_right", .local), ("_law_more", .local), ("tuple", .globalImplicit), ("zip", .globalImplicit), ("_law_left", .cell), ("_law_many", .cell)], isGenerator := false, isCoroutine := false, more := [] }) (by decide +kernel))
              (fun _ _ _ _ _ => pg_tup rfl (pgs_cons (pg_name (i := 8) nd rfl (.inl rfl)) (pgs_cons (pg_name (i := 9) nd rfl (.inl rfl)) pgs_nil))) (fun _ _ _ _ _ => pts_nil) (fun _ _ _ _ _ => pe_op op_add (pv 8) (pv 9))) pa_nil)) (pa_cons (pe_op op_mul (pv 4) (pv 7)) pa_nil))))
          (pss_one (ps_set (i := 2) nd rfl (.inl rfl) (pe_call (E := fun _ _ _ => False) CP.ok hr (by rfl) CP.g CP.kp CP.b .nil pass0 (pa_cons (pv 2) (pa_cons (pe_callTy cr_tupF (by rfl) mt PyProof.Rows.boot_tuple (pa_cons (pv 5) pa_nil)) pa_nil)))))))
      (pss_one (ps_ret (pv 2)))), ?_⟩
    obtain ⟨pa, ⟨oa, ea, da⟩, hpa⟩ := ha
    obtain ⟨pb, ⟨ob, eb, db⟩, hpb⟩ := hb
    intro l0 o0 n0 d0
    have s0 := same_upd (o := .frz o0 (.tup [])) n0
    refine ⟨_, rfl, a, rfl, ⟨_, .inl (.inr ⟨oa, s0 _ _ ea⟩)⟩, for_it (walk_tup (K := K) (a := a) (xs := pa.map V.ref))
      (fun i σ H' => ∃ f1 y3 y4 y5 y6 y7 y8 y9 S, σ = [some (.ref a), some (.ref b), some (.ref f1), y3, y4, y5, y6, y7, y8, y9] ∧ Same H H' ∧ SumAt H' f1 S ∧ Can n S ∧ (∀ k, k.length = n → cf S k = cf (mulE (L.take i) M) k) ∧ S.length ≤ i * M.length)
      ⟨l0, _, _, _, _, _, _, _, [], rfl, s0, ⟨[], ⟨o0, upd_same, d0⟩, .nil⟩, ⟨List.Pairwise.nil, fun p h => (nomatch h), fun p h => (nomatch h)⟩, fun k _ => rfl, Nat.zero_le _⟩
      (fun i σ H' _ p => let ⟨_, _, _, _, _, _, _, _, _, _, s, _⟩ := p; .inl (.inr ⟨oa, s _ _ ea⟩)) (fun i x σ H1 H' hi p y => ?_) (fun σ H' p => ?_)⟩
    · obtain ⟨rfl, ex⟩ := y
      obtain ⟨f1, y3, y4, y5, y6, y7, y8, y9, S, rfl, s, hS, cS, fS, zS⟩ := p
      obtain ⟨t, pr, rfl, eL, hpr⟩ := pairs_at hpa ex
      obtain ⟨q0, h1, h2⟩ := hpr
      have lpr := lL pr (List.mem_of_getElem? eL)
      have hiL : i < L.length := (List.getElem?_eq_some_iff.mp eL).1
      have zM : (i + 1) * M.length ≤ 10000 := Nat.le_trans (Nat.mul_le_mul_right _ (by omega)) hz
      have zM1 : M.length ≤ 1000 := hzM
      refine ⟨t, [.ref q0, .int pr.2], rfl, .inl (.inl (s _ _ h1)), rfl, .ref q0, [.int pr.2], rfl, .int pr.2, [], rfl, rfl, ?_⟩
      refine ⟨_, rfl, b, rfl, ⟨_, .inl (.inr ⟨ob, s _ _ eb⟩)⟩, fun D nD => ?_⟩
      refine lc_it (walk_tup (K := K) (a := b) (xs := pb.map V.ref)) (fun j H2 => Same H' H2 ∧ ∃ ps, H2 D = some (.lst (ps.map V.ref)) ∧ Pairs H2 ps ((M.take j).map fun q => (mAdd pr.1 q.1, pr.2 * q.2)))
        ⟨same_upd nD, [], upd_same, .nil⟩ (fun j H2 _ p => .inl (.inr ⟨ob, p.1 _ _ (s _ _ eb)⟩)) (fun j x H2 H3 hj p y => ?_) (fun H2 p => ?_)
      · obtain ⟨rfl, ex2⟩ := y
        obtain ⟨s2, ps, eD, hps⟩ := p
        obtain ⟨t2, pr2, rfl, eM, hpr2⟩ := pairs_at hpb ex2
        obtain ⟨q2, g1, g2⟩ := hpr2
        have lpr2 := lM pr2 (List.mem_of_getElem? eM)
        have st := s.trans s2
        refine ⟨t2, [.ref q2, .int pr2.2], rfl, .inl (.inl (st _ _ g1)), rfl, .ref q2, [.int pr2.2], rfl, .int pr2.2, [], rfl, rfl, rfl, ?_⟩
        refine ⟨_, rfl, _, rfl, q0, q2, pr.1.map V.int, pr2.1.map V.int, rfl, .inr ⟨.inl (.inl (st _ _ h2)), .inl (.inl (st _ _ g2)), fun D2 nD2 => ?_⟩⟩
        refine zip_lc (walk_zipT (n := pr.1.length) (by rw [List.length_map, List.length_map]; omega)) rfl (by omega) (by omega) (fun i j => .int (i + j)) (by decide) (show 8 < 10 by decide) (show 9 < 10 by decide) nD2
          (fun H4 s4 => ⟨.inl (.inl (s4 _ _ (st _ _ h2))), .inl (.inl (s4 _ _ (st _ _ g2)))⟩) (fun H4 s4 eD4 => ?_)
        refine ⟨D2, _, rfl, .inl ⟨.inl (.inl eD4), fun l nl => ?_⟩⟩
        refine ⟨_, rfl, _, rfl, pr.2, pr2.2, rfl, rfl, .inr (cM pr2 (List.mem_of_getElem? eM)), small' (show 2 ≤ 1000 by decide), fun T nT => ?_⟩
        have s5 := same_upd (o := .tup (List.zipWith (fun i j => V.int (i + j)) pr.1 pr2.1)) nl
        have s6 := same_upd (o := .tup [.ref l, .int (pr.2 * pr2.2)]) nT
        have s7 := s4.trans (s5.trans s6)
        have hT : PairAt (upd (upd H4 l (.tup (List.zipWith (fun i j => V.int (i + j)) pr.1 pr2.1))) T (.tup [.ref l, .int (pr.2 * pr2.2)])) T (mAdd pr.1 pr2.1, pr.2 * pr2.2) :=
          ⟨l, upd_same, s6 _ _ (by rw [upd_same, zip_add])⟩
        have eD7 := s7 _ _ eD
        have hps7 := ps_keep s7 hps
        generalize upd (upd H4 l (.tup (List.zipWith (fun i j => V.int (i + j)) pr.1 pr2.1))) T (.tup [.ref l, .int (pr.2 * pr2.2)]) = H7 at s7 hT eD7 hps7
        refine ⟨ps.map V.ref, eD7, ?_, fun b o eb => ?_, ps ++ [T], ?_, ?_⟩
        · rw [List.length_map, hps.len, List.length_map, List.length_take]
          exact small (Nat.le_trans (Nat.min_le_right _ _) zM1)
        · have bD : b ≠ D := fun z => by rw [z, nD] at eb; cases eb
          rw [upd_ne bD]
          exact s7 _ _ (s2 _ _ eb)
        · rw [upd_same, List.map_append]
          rfl
        · rw [take_snoc eM, List.map_append]
          have k3 : ∀ b xs, H7 b = some (.tup xs) → upd H7 D (.lst (ps.map V.ref ++ [.ref T])) b = some (.tup xs) := fun b xs eb => by
            rw [upd_ne (ne_lst eb eD7)]
            exact eb
          exact pairs_snoc (hps7.keep k3) (hT.keep k3)
      · obtain ⟨s2, ps, eD, hps⟩ := p
        rw [show (pb.map V.ref).length = M.length by rw [List.length_map, hpb.len], take_all] at hps
        have zp : (M.map fun q => (mAdd pr.1 q.1, pr.2 * q.2)).length = M.length := List.length_map ..
        refine ⟨_, rfl, _, rfl, D, ps.map V.ref, rfl, .inl (.inl eD), fun l o nl ol => ?_⟩
        have s3 := same_upd (o := .frz o (.tup (ps.map V.ref))) nl
        refine ⟨f1, l, S, _, rfl, (hS.keep s2).keep s3, ⟨ps, ⟨o, upd_same, ol⟩, ps_keep s3 hps⟩, cS.tab.keys, ?_, fun H4 r S' s4 nr so hs => ?_⟩
        · rw [zp]
          have : (i + 1) * M.length = i * M.length + M.length := Nat.succ_mul i M.length
          omega
        · refine ⟨r, _, _, _, _, _, _, _, S', rfl, (s.trans s2).trans (s3.trans s4), hs, so.can (accum_len n _ cS.len fun p hp => ?_), fun k hk => ?_, ?_⟩
          · obtain ⟨q', hq', rfl⟩ := List.mem_map.mp hp
            exact mAdd_len lpr (lM q' hq')
          · rw [so.cf, accum_cf _ cS.tab.keys, fS k hk, take_snoc eL, mulE_snoc, cf_append]
          · refine Nat.le_trans so.length (Nat.le_trans (accum_length _ _) ?_)
            rw [zp]
            have : (i + 1) * M.length = i * M.length + M.length := Nat.succ_mul i M.length
            omega
    · obtain ⟨f1, y3, y4, y5, y6, y7, y8, y9, S, rfl, s, hS, cS, fS, zS⟩ := p
      rw [show (pa.map V.ref).length = L.length by rw [List.length_map, hpa.len], take_all] at fS
      rw [show (pa.map V.ref).length = L.length by rw [List.length_map, hpa.len]] at zS
      exact ⟨_, rfl, q _ _ _ s cS fS zS hS⟩
end
end Dw
/-! lowest, greatest. -/
namespace Dw
open PySem PySem.Spec PyProof.Rows L2
def col (x : Nat) (L : Poly) : List Int := L.map fun p => p.1.getD x 0
theorem col_mem {x : Nat} {L : Poly} {m : Int} : m ∈ col x L ↔ ∃ p ∈ L, p.1.getD x 0 = m := List.mem_map
theorem least : ∀ {ns : List Int}, ns ≠ [] → ∃ m ∈ ns, ∀ y ∈ ns, m ≤ y
  | [], h => absurd rfl h
  | [a], _ => ⟨a, List.mem_singleton.mpr rfl, fun y hy => by rw [List.mem_singleton.mp hy]; exact Int.le_refl _⟩
  | a :: b :: r, _ => by
    obtain ⟨m, h1, h2⟩ := least (ns := b :: r) (List.cons_ne_nil _ _)
    by_cases z : a ≤ m
    · refine ⟨a, List.mem_cons_self, fun y hy => ?_⟩
      rcases List.mem_cons.mp hy with e | e
      · rw [e]; exact Int.le_refl _
      · exact Int.le_trans z (h2 y e)
    · refine ⟨m, List.mem_cons_of_mem _ h1, fun y hy => ?_⟩
      rcases List.mem_cons.mp hy with e | e
      · rw [e]; omega
      · exact h2 y e
theorem most : ∀ {ns : List Int}, ns ≠ [] → ∃ m ∈ ns, ∀ y ∈ ns, y ≤ m
  | [], h => absurd rfl h
  | [a], _ => ⟨a, List.mem_singleton.mpr rfl, fun y hy => by rw [List.mem_singleton.mp hy]; exact Int.le_refl _⟩
  | a :: b :: r, _ => by
    obtain ⟨m, h1, h2⟩ := most (ns := b :: r) (List.cons_ne_nil _ _)
    by_cases z : m ≤ a
    · refine ⟨a, List.mem_cons_self, fun y hy => ?_⟩
      rcases List.mem_cons.mp hy with e | e
      · rw [e]; exact Int.le_refl _
      · exact Int.le_trans (h2 y e) z
    · refine ⟨m, List.mem_cons_of_mem _ h1, fun y hy => ?_⟩
      rcases List.mem_cons.mp hy with e | e
      · rw [e]; omega
      · exact h2 y e
theorem getD_get {a : Mon} {i : Nat} (h : i < a.length) : a[i]? = some (a.getD i 0) := by
  rw [List.getD_eq_getElem?_getD, List.getElem?_eq_getElem h]; rfl
theorem getD_snoc {a : Mon} {i x : Nat} {m : Int} (h : a.length = i) : (a ++ [m]).getD x 0 = if x = i then m else if x < i then a.getD x 0 else 0 := by
  rw [List.getD_eq_getElem?_getD]
  by_cases e : x = i
  · rw [if_pos e, e, ← h, List.getElem?_append_right (Nat.le_refl _), Nat.sub_self]; rfl
  · rw [if_neg e]
    by_cases l : x < i
    · rw [if_pos l, List.getElem?_append_left (by omega), ← List.getD_eq_getElem?_getD]
    · rw [if_neg l, List.getElem?_eq_none (by rw [List.length_append, List.length_singleton]; omega)]; rfl
/-- the first x of the bounds -/
structure LowTo (x : Nat) (L : Poly) (lo : Mon) : Prop where
  len : lo.length = x
  at_ : ∀ y, y < x → (∀ p ∈ L, lo.getD y 0 ≤ p.1.getD y 0) ∧ ∃ p ∈ L, p.1.getD y 0 = lo.getD y 0
theorem LowTo.snoc {x : Nat} {L : Poly} {lo : Mon} {m : Int} (h : LowTo x L lo) (h1 : m ∈ col x L) (h2 : ∀ y ∈ col x L, m ≤ y) : LowTo (x + 1) L (lo ++ [m]) := by
  refine ⟨by rw [List.length_append, h.len]; rfl, fun y hy => ?_⟩
  rw [getD_snoc h.len]
  by_cases e : y = x
  · rw [if_pos e, e]
    exact ⟨fun p hp => h2 _ (col_mem.mpr ⟨p, hp, rfl⟩), col_mem.mp h1⟩
  · rw [if_neg e, if_pos (by omega)]
    exact h.at_ y (by omega)
structure HighTo (x : Nat) (L : Poly) (lo : Mon) : Prop where
  len : lo.length = x
  at_ : ∀ y, y < x → (∀ p ∈ L, p.1.getD y 0 ≤ lo.getD y 0) ∧ ∃ p ∈ L, p.1.getD y 0 = lo.getD y 0
theorem HighTo.snoc {x : Nat} {L : Poly} {lo : Mon} {m : Int} (h : HighTo x L lo) (h1 : m ∈ col x L) (h2 : ∀ y ∈ col x L, y ≤ m) : HighTo (x + 1) L (lo ++ [m]) := by
  refine ⟨by rw [List.length_append, h.len]; rfl, fun y hy => ?_⟩
  rw [getD_snoc h.len]
  by_cases e : y = x
  · rw [if_pos e, e]
    exact ⟨fun p hp => h2 _ (col_mem.mpr ⟨p, hp, rfl⟩), col_mem.mp h1⟩
  · rw [if_neg e, if_pos (by omega)]
    exact h.at_ y (by omega)
theorem cr_minK {X : Cx} {K : PySem.W.Frag} (hc : X.calm = true) (h : X.K = K := by rfl) : CallR X (.builtin "min") (rMin K) := by
  subst h
  exact cr_min hc
theorem cr_maxK {X : Cx} {K : PySem.W.Frag} (hc : X.calm = true) (h : X.K = K := by rfl) : CallR X (.builtin "max") (rMax K) := by
  subst h
  exact cr_max hc
section
variable {P : Program} {w : World} {K : PySem.W.Frag} {mg : Str → Option Value} {base : Heap}
abbrev tMinCol (K : PySem.W.Frag) : TE := tCB (rMin K) (tCons (tLc (iTup K (tVar 0)) (gName 2) tYes (tOp (rIxT K) (tOp (rIxT K) (tVar 2) (tC (.int 0))) (tVar 1)) [2]) tNil)
def spLow : Sp := fun vs H Q _ => ∃ (a : Addr) (L : Poly) (n : Nat), vs = [.ref a] ∧ SumAt H a L ∧ L ≠ [] ∧ (∀ p ∈ L, p.1.length = n) ∧ n ≤ 1000 ∧ L.length ≤ 1000 ∧
  ∀ H' r lo, Same H H' → IsLow n L lo → TupI H' r lo → Q (.ref r) H'
theorem ok_low {f : Addr} {fd : FuncData} (F : Fun K "lowest" "lowest" sLowest f fd) (mt : mg "tuple" = none) (mr : mg "range" = none) (ml : mg "len" = none) (mm : mg "min" = none) : FnOk P w K mg base CX0 1 f fd ["one"] spLow := by
  refine F.ok scLowest (fun vs H Q E h => ?_) (fun cdv A outer s H vs Q E hr h => ?_)
  · obtain ⟨a, L, n, rfl, _⟩ := h
    rfl
  · obtain ⟨a, L, n, rfl, ha, nL, lL, hn, hz, q⟩ := h
    have nd := scLowest.nd
    refine ⟨_, pss_one (ps_ret (pe_callTy call_tupA (by rfl) mt PyProof.Rows.boot_tuple (pa_cons (pe_lc (own := [("x", 1)]) (g := gName 1) (tt := tYes) (te := tMinCol K) rfl nd
        (pi_range1 (by rfl) mr (pa_cons (pe_callB call_len_seq (by rfl) ml PySem.boot_len (pa_cons (pe_ix ix_tup (pe_ix ix_tup (pv 0) pe_int (fun _ _ => rfl)) pe_int (fun _ _ => rfl)) pa_nil)) pa_nil))
        (blkOk_by (N := nLowest) (sc := defScope sLowest) (by decide +kernel)) (fun _ _ _ _ _ => pg_name (i := 1) nd rfl (.inr rfl)) (fun _ _ _ _ _ => pts_nil)
        (fun _ _ _ _ _ => pe_callB (cr_minK rfl) (by rfl) mm PyProof.Rows.boot_min (pa_cons (pe_lc (own := [("pair", 2)]) (g := gName 2) (tt := tYes) rfl nd (pi_tup (pv 0))
          (blkOk_by (N := nLowest) (sc := { kind := .function, names := [(".0", .local), ("x", .cell), ("min", .globalImplicit), ("one", .cell)], isGenerator := false, isCoroutine := false, more := [] }) (by decide +kernel))
          (fun _ _ _ _ _ => pg_name (i := 2) nd rfl (.inl rfl)) (fun _ _ _ _ _ => pts_nil) (fun _ _ _ _ _ => pe_ix ix_tupK (pe_ix ix_tupK (pv 2) pe_int (fun _ _ => rfl)) (pv 1) (fun _ _ => rfl))) pa_nil))) pa_nil))), ?_⟩
    obtain ⟨pa, ⟨oa, ea, da⟩, hpa⟩ := ha
    obtain ⟨p0, r0, rfl⟩ : ∃ p0 r0, L = p0 :: r0 := by
      cases L with
      | nil => exact absurd rfl nL
      | cons p r => exact ⟨p, r, rfl⟩
    obtain ⟨t0, et0, q00, h01, h02⟩ := pairs_get hpa (i := 0) rfl
    have ln := lL p0 List.mem_cons_self
    refine ⟨_, rfl, a, _, 0, .ref t0, rfl, rfl, .inl (.inr ⟨oa, ea⟩), atI_nat (j := 0) (by rw [List.getElem?_map, et0]; rfl), t0, _, 0, .ref q00, rfl, rfl, .inl (.inl h01), atI_nat (j := 0) rfl, q00, _, rfl, .inr (.inl (.inl h02)), ?_⟩
    rw [List.length_map, ln]
    refine ⟨n, rfl, by omega, by omega, fun D nD => ?_⟩
    rw [Int.toNat_natCast]
    refine lc_it (walk_range (lo := 0) (n := n)) (fun x H1 => Same H H1 ∧ ∃ lo, H1 D = some (.lst (lo.map V.int)) ∧ LowTo x (p0 :: r0) lo) ⟨same_upd nD, [], upd_same, rfl, fun y hy => absurd hy (Nat.not_lt_zero y)⟩ (fun _ _ _ _ => trivial) (fun x v H1 H2 hx p y => ?_) (fun H1 p => ?_)
    · obtain ⟨rfl, ev⟩ := y
      obtain ⟨s1, lo, eD, hlo⟩ := p
      have ev' : v = .int (x : Nat) := ev.trans (congrArg V.int (Int.zero_add _))
      subst ev'
      refine ⟨rfl, ?_⟩
      refine ⟨_, rfl, a, rfl, ⟨_, .inl (.inr ⟨oa, s1 _ _ ea⟩)⟩, fun D2 nD2 => ?_⟩
      refine lc_it (walk_tup (K := K) (a := a) (xs := pa.map V.ref)) (fun i H3 => Same H2 H3 ∧ H3 D2 = some (.lst ((col x ((p0 :: r0).take i)).map V.int))) ⟨same_upd nD2, upd_same⟩ (fun i H3 _ p => .inl (.inr ⟨oa, p.1 _ _ (s1 _ _ ea)⟩)) (fun i v H3 H4 hi p y => ?_) (fun H3 p => ?_)
      · obtain ⟨rfl, ex⟩ := y
        obtain ⟨s3, e3⟩ := p
        obtain ⟨t, pr, rfl, eL, q0, h1, h2⟩ := pairs_at hpa ex
        have lpr := lL pr (List.mem_of_getElem? eL)
        have st := s1.trans s3
        refine ⟨rfl, _, rfl, t, _, 0, .ref q0, rfl, rfl, .inl (.inl (st _ _ h1)), atI_nat (j := 0) rfl, _, rfl, q0, _, (x : Int), _, rfl, rfl, .inl (.inl (st _ _ h2)), atI_nat (v := .int (pr.1.getD x 0)) (by rw [List.getElem?_map, getD_get (by omega)]; rfl), _, e3, ?_, fun b o eb => ?_, ?_⟩
        · rw [List.length_map]
          show ((((p0 :: r0).take i).map _).length < _)
          rw [List.length_map, List.length_take]
          exact small (Nat.le_trans (Nat.min_le_right _ _) hz)
        · have bD : b ≠ D2 := fun z => by rw [z, nD2] at eb; cases eb
          rw [upd_ne bD]
          exact s3 _ _ eb
        · rw [upd_same, take_snoc eL]
          show _ = some (HO.lst ((col x (_ ++ [pr])).map V.int))
          unfold col
          rw [List.map_append, List.map_append]
          rfl
      · obtain ⟨s3, e3⟩ := p
        rw [show (pa.map V.ref).length = (p0 :: r0).length by rw [List.length_map, hpa.len], take_all] at e3
        refine ⟨D2, col x (p0 :: r0), rfl, .inl (.inl e3), Nat.succ_pos _, fun m hm1 hm2 => ?_⟩
        refine ⟨lo.map V.int, s3 _ _ eD, ?_, fun b o eb => ?_, lo ++ [m], ?_, hlo.snoc hm1 hm2⟩
        · rw [List.length_map, hlo.len]
          exact small (by omega)
        · have bD : b ≠ D := fun z => by rw [z, nD] at eb; cases eb
          rw [upd_ne bD]
          exact s3 _ _ (s1 _ _ eb)
        · rw [upd_same, List.map_append]
          rfl
    · obtain ⟨s1, lo, eD, hlo⟩ := p
      refine ⟨D, _, rfl, .inl ⟨.inl (.inl eD), fun l nl => ?_⟩⟩
      exact q _ l lo (s1.trans (same_upd nl)) ⟨hlo.len, fun x hx => (hlo.at_ x hx).1, fun x hx => (hlo.at_ x hx).2⟩ upd_same
abbrev tMaxCol (K : PySem.W.Frag) : TE := tCB (rMax K) (tCons (tLc (iList K (tVar 1)) (gName 3) tYes (tOp (rIxT K) (tVar 3) (tVar 2)) [3]) tNil)
def spHigh : Sp := fun vs H Q _ => ∃ (d : Addr) (L : Poly) (n : Nat), vs = [.ref d] ∧ H d = some (.dT (enc L)) ∧ L ≠ [] ∧ (∀ p ∈ L, p.1.length = n) ∧ n ≤ 1000 ∧ L.length ≤ 1000 ∧
  ∀ H' r hi, Same H H' → IsHigh n L hi → H' r = some (.lst (hi.map V.int)) → Q (.ref r) H'
theorem dkeys_at {H : Hp} {L : Poly} {bs : List Addr} (h : IsKeys H (enc L) bs) : bs.length = L.length ∧ ∀ (i : Nat) (b : Addr), bs[i]? = some b → ∃ p : List Int × Int, L[i]? = some p ∧ TupI H b p.1 := by
  unfold IsKeys at h
  have hl := Paired.length h
  rw [enc_length] at hl
  refine ⟨hl.symm, fun i b hb => ?_⟩
  have key : ∀ {kvs : List (List Key × V)} {bs : List Addr}, Paired (fun (p : List Key × V) (b : Addr) => H b = some (.tup (p.1.map kV))) kvs bs → ∀ (i : Nat) (b : Addr), bs[i]? = some b → ∃ kv, kvs[i]? = some kv ∧ H b = some (.tup (kv.1.map kV)) := by
    intro kvs bs h
    induction h with
    | nil => intro i b e; simp at e
    | cons hd tl ih =>
      intro i b e
      cases i with
      | zero => exact ⟨_, rfl, by rw [← Option.some.inj e]; exact hd⟩
      | succ i => exact ih i b e
  obtain ⟨⟨k, v⟩, ek, hk⟩ := key h i b hb
  obtain ⟨e, c, eL, rfl, rfl⟩ := enc_get ek
  exact ⟨(e, c), eL, by rw [ik_V] at hk; exact hk⟩
theorem ok_high {f : Addr} {fd : FuncData} (F : Fun K "greatest" "greatest" sGreatest f fd) (mi : mg "list" = none) (mr : mg "range" = none) (ml : mg "len" = none) (mm : mg "max" = none) : FnOk P w K mg base CX0 1 f fd ["counts"] spHigh := by
  refine F.ok scGreatest (fun vs H Q E h => ?_) (fun cdv A outer s H vs Q E hr h => ?_)
  · obtain ⟨a, L, n, rfl, _⟩ := h
    rfl
  · obtain ⟨d, L, n, rfl, hd, nL, lL, hn, hz, q⟩ := h
    have nd := scGreatest.nd
    refine ⟨_, pss_cons (ps_set (i := 1) nd rfl (.inr rfl) (pe_callTy (call_list_dT rfl) (by rfl) mi PyProof.Rows.boot_list (pa_cons (pv 0) pa_nil)))
      (pss_one (ps_ret (pe_lc (own := [("x", 2)]) (g := gName 2) (tt := tYes) (te := tMaxCol K) rfl nd
        (pi_range1 (by rfl) mr (pa_cons (pe_callB call_len_seq (by rfl) ml PySem.boot_len (pa_cons (pe_ix ix_list (pv 1) pe_int (fun _ _ => rfl)) pa_nil)) pa_nil))
        (blkOk_by (N := nGreatest) (sc := defScope sGreatest) (by decide +kernel)) (fun _ _ _ _ _ => pg_name (i := 2) nd rfl (.inr rfl)) (fun _ _ _ _ _ => pts_nil)
        (fun _ _ _ _ _ => pe_callB (cr_maxK rfl) (by rfl) mm PyProof.Rows.boot_max (pa_cons (pe_lc (own := [("powers", 3)]) (g := gName 3) (tt := tYes) rfl nd (pi_list (pv 1))
          (blkOk_by (N := nGreatest) (sc := { kind := .function, names := [(".0", .local), ("x", .cell), ("max", .globalImplicit), ("some", .cell)], isGenerator := false, isCoroutine := false, more := [] }) (by decide +kernel))
          (fun _ _ _ _ _ => pg_name (i := 3) nd rfl (.inl rfl)) (fun _ _ _ _ _ => pts_nil) (fun _ _ _ _ _ => pe_ix ix_tupK (pv 3) (pv 2) (fun _ _ => rfl))) pa_nil))))), ?_⟩
    refine ⟨_, rfl, d, _, rfl, .inl hd, fun l bs nl hk => ?_⟩
    obtain ⟨lb, kb⟩ := dkeys_at hk
    have s0 := same_upd (o := .lst (bs.map V.ref)) nl
    have el0 : upd H l (.lst (bs.map V.ref)) l = some (.lst (bs.map V.ref)) := upd_same
    obtain ⟨p0, r0, rfl⟩ : ∃ p0 r0, L = p0 :: r0 := by
      cases L with
      | nil => exact absurd rfl nL
      | cons p r => exact ⟨p, r, rfl⟩
    have eb0 : bs[0]? = some (bs[0]'(by rw [lb]; exact Nat.succ_pos _)) := List.getElem?_eq_getElem _
    obtain ⟨pz, ez, hz0⟩ := kb 0 _ eb0
    have ez' : p0 = pz := Option.some.inj ez
    subst ez'
    have ln := lL p0 List.mem_cons_self
    refine ⟨_, rfl, l, _, 0, .ref _, rfl, rfl, .inl (.inl el0), atI_nat (j := 0) (by rw [List.getElem?_map, eb0]; rfl), _, _, rfl, .inr (.inl (.inl (s0 _ _ hz0))), ?_⟩
    rw [List.length_map, ln]
    refine ⟨n, rfl, by omega, by omega, fun D nD => ?_⟩
    rw [Int.toNat_natCast]
    have nDl : D ≠ l := fun z => by rw [z, upd_same] at nD; cases nD
    refine lc_it (walk_range (lo := 0) (n := n)) (fun x H1 => Same (upd H l (.lst (bs.map V.ref))) H1 ∧ ∃ lo, H1 D = some (.lst (lo.map V.int)) ∧ HighTo x (p0 :: r0) lo) ⟨same_upd nD, [], upd_same, rfl, fun y hy => absurd hy (Nat.not_lt_zero y)⟩ (fun _ _ _ _ => trivial) (fun x v H1 H2 hx p y => ?_) (fun H1 p => ?_)
    · obtain ⟨rfl, ev⟩ := y
      obtain ⟨s1, lo, eD, hlo⟩ := p
      have ev' : v = .int (x : Nat) := ev.trans (congrArg V.int (Int.zero_add _))
      subst ev'
      refine ⟨rfl, ?_⟩
      refine ⟨_, rfl, l, rfl, ⟨_, .inl (.inl (s1 _ _ el0))⟩, fun D2 nD2 => ?_⟩
      refine lc_it (walk_list (K := K) (a := l) (xs := bs.map V.ref)) (fun i H3 => Same H2 H3 ∧ H3 D2 = some (.lst ((col x ((p0 :: r0).take i)).map V.int))) ⟨same_upd nD2, upd_same⟩ (fun i H3 _ p => .inl (.inl (p.1 _ _ (s1 _ _ el0)))) (fun i v H3 H4 hi p y => ?_) (fun H3 p => ?_)
      · obtain ⟨rfl, ex⟩ := y
        obtain ⟨s3, e3⟩ := p
        rw [List.getElem?_map] at ex
        obtain ⟨b, hb, rfl⟩ : ∃ b, bs[i]? = some b ∧ v = .ref b := by
          cases e : bs[i]? with
          | none => rw [e] at ex; cases ex
          | some b => rw [e] at ex; exact ⟨b, rfl, (Option.some.inj ex).symm⟩
        obtain ⟨pr, eL, h2⟩ := kb i b hb
        have lpr := lL pr (List.mem_of_getElem? eL)
        have st := s0.trans (s1.trans s3)
        refine ⟨rfl, _, rfl, _, rfl, b, _, (x : Int), _, rfl, rfl, .inl (.inl (st _ _ h2)), atI_nat (v := .int (pr.1.getD x 0)) (by rw [List.getElem?_map, getD_get (by omega)]; rfl), _, e3, ?_, fun b o eb => ?_, ?_⟩
        · rw [List.length_map]
          show ((((p0 :: r0).take i).map _).length < _)
          rw [List.length_map, List.length_take]
          exact small (Nat.le_trans (Nat.min_le_right _ _) hz)
        · have bD : b ≠ D2 := fun z => by rw [z, nD2] at eb; cases eb
          rw [upd_ne bD]
          exact s3 _ _ eb
        · rw [upd_same, take_snoc eL]
          show _ = some (HO.lst ((col x (_ ++ [pr])).map V.int))
          unfold col
          rw [List.map_append, List.map_append]
          rfl
      · obtain ⟨s3, e3⟩ := p
        rw [show (bs.map V.ref).length = (p0 :: r0).length by rw [List.length_map, lb], take_all] at e3
        refine ⟨D2, col x (p0 :: r0), rfl, .inl (.inl e3), Nat.succ_pos _, fun m hm1 hm2 => ?_⟩
        refine ⟨lo.map V.int, s3 _ _ eD, ?_, fun b o eb => ?_, lo ++ [m], ?_, hlo.snoc hm1 hm2⟩
        · rw [List.length_map, hlo.len]
          exact small (by omega)
        · have bD : b ≠ D := fun z => by rw [z, nD] at eb; cases eb
          rw [upd_ne bD]
          exact s3 _ _ (s1 _ _ eb)
        · rw [upd_same, List.map_append]
          rfl
    · obtain ⟨s1, lo, eD, hlo⟩ := p
      exact q _ D lo (s0.trans s1) ⟨hlo.len, fun x hx => (hlo.at_ x hx).1, fun x hx => (hlo.at_ x hx).2⟩ eD
end
end Dw
/-! == of sums. -/
namespace Dw
open PySem PySem.Spec PyProof.Rows L2
def monD (e : Mon) : PyData := .tuple (e.map PyData.int)
def termD (p : List Int × Int) : PyData := .tuple [monD p.1, .int p.2]
def sumD (L : Poly) : PyData := .tuple (L.map termD)
theorem eqv_ints : ∀ a b : Mon, PyData.eqvAll (a.map PyData.int) (b.map PyData.int) = decide (a = b)
  | [], [] => rfl
  | [], _ :: _ => rfl
  | _ :: _, [] => rfl
  | x :: a, y :: b => by
    have ih := eqv_ints a b
    show (x == y && PyData.eqvAll (a.map PyData.int) (b.map PyData.int)) = decide (x :: a = y :: b)
    rw [ih, Bool.eq_iff_iff]
    simp
theorem eqv_term (p q : List Int × Int) : PyData.eqv (termD p) (termD q) = decide (p = q) := by
  obtain ⟨a, c⟩ := p
  obtain ⟨b, d⟩ := q
  show (PyData.eqvAll (a.map PyData.int) (b.map PyData.int) && ((c == d) && true)) = decide ((a, c) = (b, d))
  rw [eqv_ints, Bool.eq_iff_iff]
  simp
theorem eqv_all : ∀ L M : Poly, PyData.eqvAll (L.map termD) (M.map termD) = decide (L = M)
  | [], [] => rfl
  | [], _ :: _ => rfl
  | _ :: _, [] => rfl
  | x :: a, y :: b => by
    have ih := eqv_all a b
    show (PyData.eqv (termD x) (termD y) && PyData.eqvAll (a.map termD) (b.map termD)) = decide (x :: a = y :: b)
    rw [ih, eqv_term, Bool.eq_iff_iff]
    simp
theorem eqv_sum (L M : Poly) : PyData.eqv (sumD L) (sumD M) = decide (L = M) := eqv_all L M
theorem lay_ints : ∀ a : Mon, PyData.canLayAll0 (a.map PyData.int) = true
  | [] => rfl
  | x :: a => by
    show (true && PyData.canLayAll0 (a.map PyData.int)) = true
    rw [lay_ints a]; rfl
theorem lay_terms : ∀ L : Poly, PyData.canLayAll0 (L.map termD) = true
  | [] => rfl
  | p :: L => by
    show ((PyData.canLayAll0 (p.1.map PyData.int) && (true && true)) && PyData.canLayAll0 (L.map termD)) = true
    rw [lay_ints, lay_terms L]; rfl
theorem depth_ints : ∀ a : Mon, PyData.depthAll (a.map PyData.int) = 0
  | [] => rfl
  | x :: a => by
    show max 0 (PyData.depthAll (a.map PyData.int)) = 0
    rw [depth_ints a]; rfl
theorem depth_terms : ∀ L : Poly, PyData.depthAll (L.map termD) ≤ 2
  | [] => Nat.zero_le _
  | p :: L => by
    show max (max (PyData.depthAll (p.1.map PyData.int) + 1) (max 0 0) + 1) (PyData.depthAll (L.map termD)) ≤ 2
    have := depth_terms L
    rw [depth_ints]
    omega
theorem shaped_of {d : PyData} (a : d.canLay0 = true) (b : d.depth ≤ 64) : SeqAt.shaped d = true := by
  show (d.canLay0 && decide (d.depth ≤ 64)) = true
  rw [a, decide_eq_true b]; rfl
theorem sum_shaped (L : Poly) : SeqAt.shaped (sumD L) = true := shaped_of (lay_terms L) (by
  show PyData.depthAll (L.map termD) + 1 ≤ 64
  have := depth_terms L
  omega)
section
variable {K : PySem.W.Frag} {H : Hp}
theorem dp_ints : ∀ a : Mon, DpAll K H (a.map V.int) (a.map PyData.int)
  | [] => .nil
  | x :: a => .cons (.int x) (dp_ints a)
theorem dp_term {t : Addr} {p : List Int × Int} (h : PairAt H t p) : Dp K H (.ref t) (termD p) := by
  obtain ⟨q, h1, h2⟩ := h
  exact .tup (.inl (.inl h1)) (.cons (.tup (.inl (.inl h2)) (dp_ints _)) (.cons (.int _) .nil))
theorem dp_terms : ∀ {ps : List Addr} {L : Poly}, Pairs H ps L → DpAll K H (ps.map V.ref) (L.map termD)
  | _, _, .nil => .nil
  | _, _, .cons h t => .cons (dp_term h) (dp_terms t)
theorem dp_sum {a : Addr} {L : Poly} (h : SumAt H a L) : Dp K H (.ref a) (sumD L) := let ⟨ps, t, p⟩ := h; .tup t.sq (dp_terms p)
theorem sum_nil {H : Hp} {l : Addr} {o : Obj} (ol : o.dict = none) : SumAt (upd H l (.frz o (.tup []))) l [] := ⟨[], ⟨o, upd_same, ol⟩, .nil⟩
end
end Dw
/-! parts of the division's reading. -/
namespace Dw
open PySem PySem.Spec PyProof.Rows L2
theorem lookI_put {L : Poly} (kL : Keys L) (k : Mon) (v : Int) : lookI (putI L k v) k = some v := by
  have kp := putI_keys kL k v
  have hm : k ∈ (putI L k v).map (·.1) := by
    unfold putI
    by_cases h : (L.any fun p => decide (p.1 = k)) = true
    · rw [if_pos h]
      obtain ⟨p, hp, e⟩ := List.any_eq_true.mp h
      have e' := of_decide_eq_true e
      exact List.mem_map.mpr ⟨(p.1, v), List.mem_map.mpr ⟨p, hp, if_pos e'⟩, e'⟩
    · rw [if_neg h]
      exact List.mem_map.mpr ⟨(k, v), List.mem_append_right _ (List.mem_singleton.mpr rfl), rfl⟩
  cases z : lookI (putI L k v) k with
  | none => exact absurd hm (lookI_none.mp z)
  | some m =>
    have a := cf_mem kp (lookI_mem z)
    rw [cf_put kL, if_pos rfl] at a
    rw [a]
theorem lex_asym {a b : Mon} (h : HT.lexLt a b = true) : HT.lexLt b a = false := by
  cases z : HT.lexLt b a with
  | false => rfl
  | true => have := lex_trans h z; rw [lex_irr] at this; cases this
theorem asc_last {L : Poly} {x : List Int × Int} (h : Asc (L ++ [x])) : Top id (L ++ [x]) x := by
  refine ⟨List.mem_append_right _ (List.mem_singleton.mpr rfl), fun y hy => ?_⟩
  rcases List.mem_append.mp hy with hy | hy
  · exact lex_asym ((List.pairwise_append.mp h).2.2 y hy x (List.mem_singleton.mpr rfl))
  · rw [List.mem_singleton.mp hy]; exact lex_irr _
theorem mem_getD {a : Mon} {n : Nat} (h : a.length = n) {v : Int} (hv : v ∈ a) : ∃ x, x < n ∧ a.getD x 0 = v := by
  obtain ⟨i, hi, e⟩ := List.mem_iff_getElem.mp hv
  exact ⟨i, by omega, by rw [List.getD_eq_getElem?_getD, List.getElem?_eq_getElem hi]; exact e⟩
theorem fits_of {n : Nat} {L : Poly} (h : ∀ p ∈ L, p.1.length = n) (hn : n ≤ 10) (w : Within n (-1000) 1000 L) : Fits L := fun p hp => by
  refine ⟨by rw [h p hp]; exact hn, fun v hv => ?_⟩
  obtain ⟨x, hx, e⟩ := mem_getD (h p hp) hv
  rw [← e]
  exact w p hp x hx
theorem div_within {n : Nat} {one other found : Poly} {A B : Poly} {lo ba head room : Mon} {rest : Poly} (low1 : IsLow n one lo) (low2 : IsLow n other ba) (inv : DivInv n A B head room found rest)
    (hr : ∀ x, x < n → room.getD x 0 ≤ 6) (w1 : Within n (-100) 100 one) (w2 : Within n (-100) 100 other) : Within n (-1000) 1000 (moveP (mSub lo ba) found) := fun p hp x hx => by
  obtain ⟨f, hf, e⟩ := List.mem_map.mp hp
  have lsh : (mSub lo ba).length = n := mSub_len low1.len low2.len
  have z1 : p.1 = mAdd f.1 (mSub lo ba) := by rw [← e]
  rw [z1, mAdd_get (by rw [inv.tF.len f hf]; exact hx) (by omega), mSub_get (by rw [low1.len]; exact hx) (by rw [low2.len]; exact hx)]
  obtain ⟨p1, h1, e1⟩ := low1.hit x hx
  obtain ⟨p2, h2, e2⟩ := low2.hit x hx
  have := w1 p1 h1 x hx
  have := w2 p2 h2 x hx
  have := inv.box f hf x hx
  have := hr x hx
  omega
theorem fmod_mul (s m : Int) : (s * m).fmod m = 0 := by
  rw [Int.fmod_def]
  by_cases h : m = 0
  · rw [h]; simp
  · rw [Int.mul_fdiv_cancel _ h, Int.mul_comm]; omega
theorem of_fmod {c m : Int} (h : c.fmod m = 0) : c = c.fdiv m * m := by
  rw [Int.fmod_def] at h
  have := Int.mul_comm m (c.fdiv m)
  omega
theorem zip_bools (pw room : Mon) : List.zipWith (fun i j => V.bl (decide (j < i))) pw room = (List.zipWith (fun i j => decide (j < i)) pw room).map V.bl := by
  rw [List.map_zipWith]
theorem any_zip {n : Nat} {pw room : Mon} (hp : pw.length = n) (hr : room.length = n) :
    ((List.zipWith (fun i j => decide (j < i)) pw room).any id = true → ∃ x, x < n ∧ room.getD x 0 < pw.getD x 0) ∧ ((List.zipWith (fun i j => decide (j < i)) pw room).any id = false → ∀ x, x < n → pw.getD x 0 ≤ room.getD x 0) := by
  have at_ : ∀ x, x < n → (List.zipWith (fun i j => decide (j < i)) pw room)[x]? = some (decide (room.getD x 0 < pw.getD x 0)) := fun x hx =>
    zip_at (f := fun i j => decide (j < i)) (getD_get (by omega)) (getD_get (by omega))
  refine ⟨fun h => ?_, fun h x hx => ?_⟩
  · obtain ⟨b, hb, e⟩ := List.any_eq_true.mp h
    obtain ⟨x, hx, ex⟩ := List.mem_iff_getElem.mp hb
    have hx' : x < n := by rw [List.length_zipWith] at hx; omega
    have z := at_ x hx'
    rw [List.getElem?_eq_getElem hx, ex] at z
    have z2 := Option.some.inj z
    have e' : b = true := e
    rw [e'] at z2
    exact ⟨x, hx', of_decide_eq_true z2.symm⟩
  · have z := List.mem_of_getElem? (at_ x hx)
    have y := List.any_eq_false.mp h _ z
    have y' : decide (room.getD x 0 < pw.getD x 0) = false := by simpa using y
    have := of_decide_eq_false y'
    omega
section
variable {K : PySem.W.Frag}
theorem neg_map (e : Mon) : (e.map fun i => V.int (-i)) = (mNeg e).map V.int := by
  unfold mNeg
  rw [List.map_map]
  rfl
theorem neg_tup {i : Nat} {q : Addr} {e : Mon} {σ : L2.St} {H : Hp} {Q : VK} (hi : σ[i]? = some (some (.ref q))) (hl : 17 < σ.length) (hq : TupI H q e) (hz : e.length ≤ 1000)
    (h : ∀ H' r, Same H H' → TupI H' r (mNeg e) → Q (.ref r) H') :
    tCB (rTupA K) (tCons (tLc (iTup K (tVar i)) (gName 17) tYes (tUn (rU fun i => .int (-i)) (tVar 17)) [17]) tNil) σ H Q := by
  refine ⟨_, hi, q, rfl, ⟨_, .inl (.inl hq)⟩, fun D nD => ?_⟩
  refine lc_it (walk_tup (K := K) (a := q) (xs := e.map V.int)) (fun j H1 => Same H H1 ∧ H1 D = some (.lst ((e.take j).map fun i => V.int (-i)))) ⟨same_upd nD, upd_same⟩ (fun j H1 _ p => .inl (.inl (p.1 _ _ hq))) (fun j x H1 H2 hj p y => ?_) (fun H1 p => ?_)
  · obtain ⟨rfl, ex⟩ := y
    obtain ⟨a, ea, rfl⟩ := ints_at ex
    obtain ⟨w1, w2⟩ := set_one (σ := σ) (a := some (.int a)) hl
    obtain ⟨s1, e1⟩ := p
    refine ⟨w1, _, w2, a, rfl, _, e1, ?_, fun b o eb => ?_, ?_⟩
    · rw [List.length_map, List.length_take]
      exact small (Nat.le_trans (Nat.min_le_right _ _) hz)
    · have bD : b ≠ D := fun z => by rw [z, nD] at eb; cases eb
      rw [upd_ne bD]
      exact s1 _ _ eb
    · rw [upd_same, take_snoc ea, List.map_append]
      rfl
  · obtain ⟨s1, e1⟩ := p
    rw [List.length_map, take_all, neg_map] at e1
    exact ⟨D, _, rfl, .inl ⟨.inl (.inl e1), fun l nl => h _ l (s1.trans (same_upd nl)) upd_same⟩⟩
theorem sub_tup {i j : Nat} {q r : Addr} {e f : Mon} {σ : L2.St} {H : Hp} {Q : VK} (hi : σ[i]? = some (some (.ref q))) (hj : σ[j]? = some (some (.ref r))) (hl : 18 < σ.length) (hq : TupI H q e) (hr : TupI H r f) (hef : e.length = f.length) (hz : e.length ≤ 1000)
    (h : ∀ H' t, Same H H' → TupI H' t (mSub e f) → Q (.ref t) H') :
    tCB (rTupA K) (tCons (tLc (RZ.iZipA K (tCons (tVar i) (tCons (tVar j) tNil))) (gPair K 18 13) tYes (tOp (rI0 fun i j => .int (i - j)) (tVar 18) (tVar 13)) [18, 13]) tNil) σ H Q := by
  refine ⟨_, hi, _, hj, q, r, e.map V.int, f.map V.int, rfl, .inr ⟨.inl (.inl hq), .inl (.inl hr), fun D nD => ?_⟩⟩
  refine zip_lc (walk_zipT (n := e.length) (by rw [List.length_map, List.length_map]; omega)) rfl hef.symm hz (fun i j => .int (i - j)) (by decide) hl (by omega) nD (fun H1 s1 => ⟨.inl (.inl (s1 _ _ hq)), .inl (.inl (s1 _ _ hr))⟩) (fun H1 s1 e1 => ?_)
  rw [zip_sub] at e1
  exact ⟨D, _, rfl, .inl ⟨.inl (.inl e1), fun l nl => h _ l (s1.trans (same_upd nl)) upd_same⟩⟩
/-- all but what stands at r and at q stays -/
def But2 (r q : Addr) (H H' : Hp) : Prop := ∀ b x, b ≠ r → b ≠ q → H b = some x → H' b = some x
theorem But2.trans {r q : Addr} {H H1 H2 : Hp} (a : But2 r q H H1) (b : But2 r q H1 H2) : But2 r q H H2 := fun c x n m e => b c x n m (a c x n m e)
theorem But2.of {r q : Addr} {H H1 : Hp} (a : Same H H1) : But2 r q H H1 := fun c x _ _ e => a c x e
theorem But2.left {r q : Addr} {H H1 : Hp} (a : But r H H1) : But2 r q H H1 := fun c x n _ e => a c x n e
/-- for right, more in parts: rest[..] = .. -/
abbrev tSubLoop (K : PySem.W.Frag) : TS := tFor (iList K (tVar 5)) (gPair K 13 14) (tSeq (tAsg (tCall (spProd K) [] (fun _ _ _ => False) (tCons (tVar 11) (tCons (tVar 13) tNil))) (gName 15))
  (tSeq (sDPut (tVar 4) (tVar 15) (tOp (rI0 fun i j => .int (i - j)) (tDGet2 (tVar 4) (tVar 15) (tC (.int 0))) (tOp (rI CMul fun i j => .int (i * j)) (tVar 12) (tVar 14))))
    (tIfS (tTest (tOp rEq (tDGet (tVar 4) (tVar 15)) (tC (.int 0)))) (tDrop (tBM K "dict" rPop1 (tVar 4) (tCons (tVar 15) tNil))) tNext)))
theorem sub_loop {n : Nat} {H : Hp} {D : Ends} {l5 d4 q11 : Addr} {s : Int} {ps : List Addr} {B rest : Poly} {pw : Mon} {x0 x1 x2 x3 x6 x7 x8 x9 x10 x13 x14 x15 x16 x17 x18 x19 : Option V}
    (h5 : H l5 = some (.lst (ps.map V.ref))) (hp : Pairs H ps B) (h4 : H d4 = some (.dT (enc rest))) (hq : TupI H q11 pw) (tr : Tab n rest) (lB : ∀ q ∈ B, q.1.length = n) (lpw : pw.length = n) (hn : n ≤ 1000) (hz : rest.length + B.length + 5 ≤ 100000) (cB : ∀ p ∈ B, -1000 ≤ p.2 ∧ p.2 ≤ 1000)
    (h : ∀ y13 y14 y15 H', But d4 H H' → H' d4 = some (.dT (enc (subAll pw s rest B))) → D.nx [x0, x1, x2, x3, some (.ref d4), some (.ref l5), x6, x7, x8, x9, x10, some (.ref q11), some (.int s), y13, y14, y15, x16, x17, x18, x19] H') :
    tSubLoop K D [x0, x1, x2, x3, some (.ref d4), some (.ref l5), x6, x7, x8, x9, x10, some (.ref q11), some (.int s), x13, x14, x15, x16, x17, x18, x19] H := by
  have kl : ∀ {H'}, But d4 H H' → H' l5 = some (.lst (ps.map V.ref)) := fun s => s _ _ (ne_of_dT h4 h5 (fun z => nomatch z)) h5
  have kt : ∀ {H'}, But d4 H H' → ∀ {b xs}, H b = some (.tup xs) → H' b = some (.tup xs) := fun s b xs z => s _ _ (ne_of_dT h4 z (fun z => nomatch z)) z
  refine ⟨_, rfl, l5, rfl, ⟨_, .inl (.inl h5)⟩, for_it (walk_list (K := K) (a := l5) (xs := ps.map V.ref))
    (fun j σ H' => ∃ y13 y14 y15, σ = [x0, x1, x2, x3, some (.ref d4), some (.ref l5), x6, x7, x8, x9, x10, some (.ref q11), some (.int s), y13, y14, y15, x16, x17, x18, x19] ∧ But d4 H H' ∧ H' d4 = some (.dT (enc (subAll pw s rest (B.take j)))))
    ⟨_, _, _, rfl, (fun _ _ _ e => e), h4⟩ (fun j σ H' _ p => let ⟨_, _, _, _, b, _⟩ := p; .inl (.inl (kl b))) (fun j x σ H1 H' hj p y => ?_) (fun σ H' p => ?_)⟩
  · obtain ⟨rfl, ex⟩ := y
    obtain ⟨y13, y14, y15, rfl, b1, e4⟩ := p
    obtain ⟨t, pr, rfl, eB, q0, g1, g2⟩ := pairs_at hp ex
    have lpr := lB pr (List.mem_of_getElem? eB)
    have cpr := cB pr (List.mem_of_getElem? eB)
    have tT : ∀ q ∈ B.take j, q.1.length = n := fun q hq => lB q (List.mem_of_mem_take hq)
    obtain ⟨tb, _, _, zl⟩ := subAll_all (n := n) lpw s (B := B.take j) tr tT
    refine ⟨t, [.ref q0, .int pr.2], rfl, .inl (.inl (kt b1 g1)), rfl, .ref q0, [.int pr.2], rfl, .int pr.2, [], rfl, rfl, ?_⟩
    refine ⟨_, rfl, _, rfl, q11, q0, pw, pr.1, rfl, .inl (.inl (kt b1 hq)), .inl (.inl (kt b1 g2)), by omega, by omega, fun H2 q15 s2 n15 e15 => ?_⟩
    have e4' := s2 _ _ e4
    have e15k : H2 q15 = some (.tup ((ik (mAdd pw pr.1)).map kV)) := by rw [ik_V]; exact e15
    have zl' : (subAll pw s rest (B.take j)).length ≤ 100000 := by
      have := List.length_take (l := B) (i := j)
      have : min j B.length ≤ B.length := Nat.min_le_right _ _
      omega
    -- rest[place] = rest.get(place, 0) - share * more
    refine ⟨_, rfl, d4, rfl, .inr ⟨_, .inl e4'⟩, _, rfl, _, DGet.t e4' e15k, _, rfl, _, rfl, s, pr.2, rfl, rfl, .inr ⟨by omega, by omega⟩, (lookI (subAll pw s rest (B.take j)) (mAdd pw pr.1)).getD 0, s * pr.2, by rw [val_enc]; exact get_getD _, rfl, _, rfl, _, rfl, d4, _, rfl, DPut.t e4' e15k (by rw [enc_length, sizeLine_eq]; omega), ?_⟩
    rw [put_enc]
    have hcur : upd H2 d4 (.dT (enc (putI (subAll pw s rest (B.take j)) (mAdd pw pr.1) ((lookI (subAll pw s rest (B.take j)) (mAdd pw pr.1)).getD 0 - s * pr.2)))) d4 = some (.dT (enc (putI (subAll pw s rest (B.take j)) (mAdd pw pr.1) ((lookI (subAll pw s rest (B.take j)) (mAdd pw pr.1)).getD 0 - s * pr.2)))) := upd_same
    have b3 : But d4 H (upd H2 d4 (.dT (enc (putI (subAll pw s rest (B.take j)) (mAdd pw pr.1) ((lookI (subAll pw s rest (B.take j)) (mAdd pw pr.1)).getD 0 - s * pr.2))))) := (b1.trans (But.of s2)).trans but_upd
    have e15c : upd H2 d4 (.dT (enc (putI (subAll pw s rest (B.take j)) (mAdd pw pr.1) ((lookI (subAll pw s rest (B.take j)) (mAdd pw pr.1)).getD 0 - s * pr.2)))) q15 = some (.tup ((ik (mAdd pw pr.1)).map kV)) := by
      rw [upd_ne (ne_of_dT e4' e15k (fun z => nomatch z))]
      exact e15k
    have hval := lookI_put tb.keys (mAdd pw pr.1) ((lookI (subAll pw s rest (B.take j)) (mAdd pw pr.1)).getD 0 - s * pr.2)
    have step : subAll pw s rest (B.take (j + 1)) = upd1 (subAll pw s rest (B.take j)) (mAdd pw pr.1) ((lookI (subAll pw s rest (B.take j)) (mAdd pw pr.1)).getD 0 - s * pr.2) := by rw [take_snoc eB, subAll_snoc]
    generalize hcv : (lookI (subAll pw s rest (B.take j)) (mAdd pw pr.1)).getD 0 - s * pr.2 = v at *
    generalize hcu : putI (subAll pw s rest (B.take j)) (mAdd pw pr.1) v = cur at *
    have hv : valV (enc cur) (ik (mAdd pw pr.1)) = some (.int v) := by rw [val_enc, hval]; rfl
    generalize upd H2 d4 (.dT (enc cur)) = H3 at *
    refine ⟨_, rfl, _, rfl, d4, .int v, rfl, by rw [← hv]; exact DGet.t hcur e15c, rfl, _, rfl, ?_⟩
    by_cases v0 : v = 0
    · refine ifT (by rw [v0]; rfl) ?_
      refine ⟨_, rfl, .inr (.inr (.inl ⟨rfl, .inr ⟨_, hcur⟩⟩)), _, rfl, d4, _, ik (mAdd pw pr.1), q15, .int v, rfl, rfl, hcur, e15c, hv, ?_⟩
      refine ⟨_, _, _, rfl, b3.trans but_upd, ?_⟩
      rw [upd_same, drop_enc, step]
      unfold upd1
      rw [if_pos v0, hcu]
    · refine ifF (by rw [dec_int]; simpa using v0) ?_
      refine ⟨_, _, _, rfl, b3, ?_⟩
      rw [hcur, step]
      unfold upd1
      rw [if_neg v0, hcu]
  · obtain ⟨y13, y14, y15, rfl, b1, e4⟩ := p
    rw [show (ps.map V.ref).length = B.length by rw [List.length_map, hp.len], take_all] at e4
    exact h _ _ _ _ b1 e4
end
end Dw
/-! divided. -/
namespace Dw
open PySem PySem.Spec PyProof.Rows L2
section
variable {P : Program} {w : World} {K : PySem.W.Frag} {mg : Str → Option Value} {base : Heap}
/-- what stands at an own error's name -/
structure Err (K : PySem.W.Frag) (mg : Str → Option Value) (x : Str) (C : Addr) : Prop where
  g : mg x = some (.ref C)
  q : PySem.W.excIn K C [.type "ValueError", .type "Exception", .type "BaseException", .type "object"] "ValueError.__new__" = true
  kp : PySem.W.keepIn K (.ref C) = true
  b : PySem.W.subIn K (.ref C) (.type "BaseException") = some true
  t : PySem.W.typeIn K (.ref C) = some (.type "type")
def spDiv (C : Addr) : Sp := fun vs H Q E => ∃ (a b : Addr) (one other : Poly) (n : Nat) (l : Int), vs = [.ref a, .ref b] ∧ SumAt H a one ∧ SumAt H b other ∧ 1 ≤ n ∧ n ≤ 3 ∧ Can n one ∧ Can n other ∧ other ≠ [] ∧ one.length ≤ 100 ∧ other.length ≤ 100 ∧ Within n l (l + 6) one ∧
  Within n (-100) 100 one ∧ Within n (-100) 100 other ∧ (∀ p ∈ other, -1000 ≤ p.2 ∧ p.2 ≤ 1000) ∧ (one = [] → ∀ H' r, Same H H' → SumAt H' r [] → Q (.ref r) H') ∧
  (one ≠ [] → DivFail n one other → ∀ H', Same H H' → E (.ref C) none H') ∧ (one ≠ [] → ∀ H' r S, Same H H' → DivOk n one other S → SumAt H' r S → Q (.ref r) H')
theorem ok_div {f fL fM fP fG fS C : Addr} {fd fdL fdM fdP fdG fdS : FuncData} (F : Fun K "divided" "divided" sDivided f fd) (CL : Cal P w K mg base CX0 1 "lowest" ["one"] spLow fL fdL) (CM : Cal P w K mg base CX0 2 "moved" ["one", "by"] (spMoved K) fM fdM)
    (CP : Cal P w K mg base CX0 1 "product_of" ["one", "other"] (spProd K) fP fdP) (CG : Cal P w K mg base CX0 1 "greatest" ["counts"] spHigh fG fdG) (CS : Cal P w K mg base CX0 1 "sum_of" ["counts"] spSumOf fS fdS) (CE : Err K mg "NotEven" C)
    (mt : mg "tuple" = none) (ms : mg "sorted" = none) (md : mg "dict" = none) (mz : mg "zip" = none) (mx : mg "max" = none) (mn : mg "min" = none) (ma : mg "any" = none) : FnOk P w K mg base (L2N.CX P w) 3 f fd ["one", "other"] (spDiv C) := by
  refine okN F scDivided (fun vs H Q E h => ?_) (fun cdv A outer s H vs Q E hr h => ?_)
  · obtain ⟨a, b, one, other, n, l, rfl, _⟩ := h
    rfl
  · have nd := scDivided.nd
    have hu := hu_of hr
    have hu2 : (A.deeper (envOfC (Str.ofString "divided") (defScope sDivided) s.heap.objs.size f cdv)).units + 2 < cLine := by have := hr.un; omega
    have hr1 : Room 1 _ := hr.mono (by decide)
    refine ⟨_, pss_cons (ps_if (pt_cmpR (op_eqD hr.units) (pv 0) pe_unit (nomark _)) (pss_one (ps_ret pe_unit)) pss_nil)
      (pss_cons (ps_par (i := 2) (j := 3) rfl nd rfl rfl (by decide) rfl rfl (pa_cons (pe_call (E := fun _ _ _ => False) CL.ok hr1 (by rfl) CL.g CL.kp CL.b .nil pass0 (pa_cons (pv 0) pa_nil)) (pa_cons (pe_call (E := fun _ _ _ => False) CL.ok hr1 (by rfl) CL.g CL.kp CL.b .nil pass0 (pa_cons (pv 1) pa_nil)) pa_nil)) rfl)
      (pss_cons (ps_set (i := 4) nd rfl (.inl rfl) (pe_call (E := fun _ _ _ => False) CM.ok hr (by rfl) CM.g CM.kp CM.b .nil pass0 (pa_cons (pv 0) (pa_cons (pe_callTy call_tupA (by rfl) mt PyProof.Rows.boot_tuple (pa_cons
          (pe_lc (own := [("power", 17)]) (g := gName 17) (tt := tYes) rfl nd (pi_tup (pv 2)) (blkOk_by (N := nDivided) (sc := defScope sDivided) (by decide +kernel)) (fun _ _ _ _ _ => pg_name (i := 17) nd rfl (.inl rfl)) (fun _ _ _ _ _ => pts_nil) (fun _ _ _ _ _ => pe_un un_neg (pv 17))) pa_nil)) pa_nil))))
      (pss_cons (ps_set (i := 5) nd rfl (.inl rfl) (pe_callB (cr_sortItems rfl hu2) (by rfl) ms PyProof.Rows.boot_sorted (pa_cons (pe_bm0 PySem.F.plainAttrs_dict PySem.F.slot_dict_items PySem.F.type_dict_items L2.DX.mt_itemsT
        (pe_call (E := fun _ _ _ => False) CM.ok hr (by rfl) CM.g CM.kp CM.b .nil pass0 (pa_cons (pv 1) (pa_cons (pe_callTy call_tupA (by rfl) mt PyProof.Rows.boot_tuple (pa_cons
          (pe_lc (own := [("power", 17)]) (g := gName 17) (tt := tYes) rfl nd (pi_tup (pv 3)) (blkOk_by (N := nDivided) (sc := defScope sDivided) (by decide +kernel)) (fun _ _ _ _ _ => pg_name (i := 17) nd rfl (.inl rfl)) (fun _ _ _ _ _ => pts_nil) (fun _ _ _ _ _ => pe_un un_neg (pv 17))) pa_nil)) pa_nil)))) pa_nil)))
      (pss_cons (ps_asg (pe_ix ix_list (pv 5) (pe_un un_neg pe_int) (fun _ _ => rfl)) (pg_tup rfl (pgs_cons (pg_name (i := 6) nd rfl (.inl rfl)) (pgs_cons (pg_name (i := 7) nd rfl (.inl rfl)) pgs_nil))))
      (pss_cons (ps_setLc (i := 8) (own := [("left", 18), ("right", 13)]) (g := gPair K 18 13) (tt := tYes) rfl nd rfl rfl (sw_true rfl rfl rfl (by decide +kernel))
          (RZ.pi_zipA (by rfl) mz (pa_cons (pe_call (E := fun _ _ _ => False) CG.ok hr1 (by rfl) CG.g CG.kp CG.b .nil pass0 (pa_cons (pv 4) pa_nil)) (pa_cons (pe_call (E := fun _ _ _ => False) CG.ok hr1 (by rfl) CG.g CG.kp CG.b .nil pass0 (pa_cons (pe_callTy (cr_dictT rfl hu2) (by rfl) md PyProof.Rows.boot_dict (pa_cons (pv 5) pa_nil)) pa_nil)) pa_nil)))
          (blkOk_by (N := nDivided) (sc := defScope sDivided) (by decide +kernel)) (fun _ _ _ _ _ => pg_tup rfl (pgs_cons (pg_name (i := 18) nd rfl (.inl rfl)) (pgs_cons (pg_name (i := 13) nd rfl (.inl rfl)) pgs_nil))) (fun _ _ _ _ _ => pts_nil) (fun _ _ _ _ _ => pe_op op_sub (pv 18) (pv 13)))
      (pss_cons (ps_set (i := 9) nd rfl (.inl rfl) pe_dnewT)
      (pss_cons (ps_while (passes_of rfl) (pt_cmpR (op_neE (Nat.lt_of_succ_lt hu)) (pv 4) pe_dnewT (nomark _))
        (pss_cons (ps_set (i := 10) nd rfl (.inl rfl) (pe_callB (cr_maxT rfl hu2) (by rfl) mx PyProof.Rows.boot_max (pa_cons (pv 4) pa_nil)))
        (pss_cons (ps_set (i := 11) nd rfl (.inl rfl) (pe_callTy call_tupA (by rfl) mt PyProof.Rows.boot_tuple (pa_cons (pe_lc (own := [("left", 18), ("right", 13)]) (g := gPair K 18 13) (tt := tYes) rfl nd (RZ.pi_zipA (by rfl) mz (pa_cons (pv 10) (pa_cons (pv 6) pa_nil)))
          (blkOk_by (N := nDivided) (sc := defScope sDivided) (by decide +kernel)) (fun _ _ _ _ _ => pg_tup rfl (pgs_cons (pg_name (i := 18) nd rfl (.inl rfl)) (pgs_cons (pg_name (i := 13) nd rfl (.inl rfl)) pgs_nil))) (fun _ _ _ _ _ => pts_nil) (fun _ _ _ _ _ => pe_op op_sub (pv 18) (pv 13))) pa_nil)))
        (pss_cons (ps_if (PW.pt (pw_or (pt_cmpR op_lt (pe_callB (cr_minT rfl) (by rfl) mn PyProof.Rows.boot_min (pa_cons (pv 11) pa_nil)) pe_int (nomark _))
            (pw_or (pt_cmpR op_ne (pe_op op_modN (pe_dget hu (pv 4) (pv 10) (fun _ _ => rfl)) (pv 7)) pe_int (nomark _))
            (pw_or1 (pt_val (pe_callB (cr_any rfl) (by rfl) ma PyProof.Rows.boot_any (pa_cons (pe_lc (own := [("power", 17), ("most", 19)]) (g := gPair K 17 19) (tt := tYes) rfl nd (pi_zipM (by rfl) mz (pa_cons (pv 11) (pa_cons (pv 8) pa_nil)))
              (blkOk_by (N := nDivided) (sc := defScope sDivided) (by decide +kernel)) (fun _ _ _ _ _ => pg_tup rfl (pgs_cons (pg_name (i := 17) nd rfl (.inl rfl)) (pgs_cons (pg_name (i := 19) nd rfl (.inl rfl)) pgs_nil))) (fun _ _ _ _ _ => pts_nil) (fun _ _ _ _ _ => pe_cmpR op_gt (pv 17) (pv 19) (nomark _))) pa_nil)))))))
          (pss_one (L2N.ps_raise rfl (L2N.takes_of rfl rfl rfl rfl) (pmk_own0 PySem.F.excBase_ValueError CE.q CE.g CE.kp (raises_own CE.b CE.t) (by rfl)))) pss_nil)
        (pss_cons (ps_set (i := 12) nd rfl (.inl rfl) (pe_op op_fdivN (pe_dget hu (pv 4) (pv 10) (fun _ _ => rfl)) (pv 7)))
        (pss_cons (ps_dput hu (pv 9) (pv 11) (pv 12) rfl)
        (pss_one (ps_for (passes_of rfl) rfl (pi_list (pv 5)) (pg_tup rfl (pgs_cons (pg_name (i := 13) nd rfl (.inl rfl)) (pgs_cons (pg_name (i := 14) nd rfl (.inl rfl)) pgs_nil)))
          (pss_cons (ps_set (i := 15) nd rfl (.inl rfl) (pe_call (E := fun _ _ _ => False) CP.ok hr1 (by rfl) CP.g CP.kp CP.b .nil pass0 (pa_cons (pv 11) (pa_cons (pv 13) pa_nil))))
          (pss_cons (ps_dput hu (pv 4) (pv 15) (pe_op op_sub (pe_dget2 hu (pv 4) (pv 15) pe_int ⟨rfl, rfl, rfl, rfl⟩) (pe_op op_mul (pv 12) (pv 14))) rfl)
          (pss_one (ps_if (pt_cmpR op_eq (pe_dget hu (pv 4) (pv 15) (fun _ _ => rfl)) pe_int (nomark _)) (pss_one (ps_expr (pe_bm PySem.F.plainAttrs_dict PySem.F.slot_dict_pop PySem.F.type_dict_pop (mt_pop1T hu) (pv 4) (pa_cons (pv 15) pa_nil)))) pss_nil))))))))))))
      (pss_cons (ps_set (i := 16) nd rfl (.inl rfl) (pe_callTy call_tupA (by rfl) mt PyProof.Rows.boot_tuple (pa_cons (pe_lc (own := [("left", 18), ("right", 13)]) (g := gPair K 18 13) (tt := tYes) rfl nd (RZ.pi_zipA (by rfl) mz (pa_cons (pv 2) (pa_cons (pv 3) pa_nil)))
          (blkOk_by (N := nDivided) (sc := defScope sDivided) (by decide +kernel)) (fun _ _ _ _ _ => pg_tup rfl (pgs_cons (pg_name (i := 18) nd rfl (.inl rfl)) (pgs_cons (pg_name (i := 13) nd rfl (.inl rfl)) pgs_nil))) (fun _ _ _ _ _ => pts_nil) (fun _ _ _ _ _ => pe_op op_sub (pv 18) (pv 13))) pa_nil)))
      (pss_one (ps_ret (pe_call (E := fun _ _ _ => False) CS.ok hr1 (by rfl) CS.g CS.kp CS.b .nil pass0 (pa_cons (pe_call (E := fun _ _ _ => False) CM.ok hr (by rfl) CM.g CM.kp CM.b .nil pass0
        (pa_cons (pe_callTy (cr_tupItems rfl) (by rfl) mt PyProof.Rows.boot_tuple (pa_cons (pe_bm0 PySem.F.plainAttrs_dict PySem.F.slot_dict_items PySem.F.type_dict_items L2.DX.mt_itemsT (pv 9)) pa_nil)) (pa_cons (pv 16) pa_nil))) pa_nil)))))))))))), ?_⟩
    obtain ⟨a, b, one, other, n, l, rfl, ha, hb, n1, n3, c1, c2, nO, z1, z2, w0, w1, w2, cO, kNil, kFail, kOk⟩ := h
    refine ⟨_, rfl, fun p o np op => ⟨sumD one, sumD [], dp_sum (ha.keep (same_upd np)), dp_sum (sum_nil op), sum_shaped _, sum_shaped _, _, rfl, ?_⟩⟩
    have s0 := same_upd (o := .frz o (.tup [])) np
    generalize upd H p (.frz o (.tup [])) = Ha at s0
    rw [eqv_sum]
    refine ite2 (fun e => ?_) (fun e => ?_)
    · exact fun p2 o2 np2 op2 => kNil (of_decide_eq_true e) _ _ (s0.trans (same_upd np2)) (sum_nil op2)
    have nE : one ≠ [] := fun z => e (decide_eq_true z)
    clear e
    -- low, base
    refine ⟨_, rfl, a, one, n, rfl, ha.keep s0, nE, c1.len, by omega, by omega, fun H1 r1 lo s1 hlo e1 => ?_⟩
    refine ⟨_, rfl, b, other, n, rfl, hb.keep (s0.trans s1), nO, c2.len, by omega, by omega, fun H2 r2 ba s2 hba e2 => ⟨_, _, rfl, ?_⟩⟩
    have lnl : (mNeg lo).length = n := by rw [mNeg_len, hlo.len]
    have lnb : (mNeg ba).length = n := by rw [mNeg_len, hba.len]
    -- rest
    refine ⟨_, rfl, neg_tup (K := K) (i := 2) rfl (show 17 < 20 by decide) (s2 _ _ e1) (by rw [hlo.len]; omega) (fun H3 r3 s3 e3 => ?_)⟩
    have t3 := s0.trans (s1.trans (s2.trans s3))
    obtain ⟨pa, ta, hpa⟩ := ha.keep t3
    refine ⟨a, r3, pa, one, n, mNeg lo, rfl, ta.sq, hpa, asc_keys c1.asc, c1.len, .inl (.inl e3), lnl, by omega, by omega, fun H4 d4 s4 nd4 e4 => ?_⟩
    have t4 := t3.trans s4
    -- parts
    refine ⟨_, rfl, neg_tup (K := K) (i := 3) rfl (show 17 < 20 by decide) (s4 _ _ (s3 _ _ e2)) (by rw [hba.len]; omega) (fun H5 r5 s5 e5 => ?_)⟩
    have t5 := t4.trans s5
    obtain ⟨pb, tb, hpb⟩ := hb.keep t5
    refine ⟨b, r5, pb, other, n, mNeg ba, rfl, tb.sq, hpb, asc_keys c2.asc, c2.len, .inl (.inl e5), lnb, by omega, by omega, fun H6 d6 s6 nd6 e6 => ?_⟩
    have t6 := t5.trans s6
    refine ⟨.inr (.inr (.inl ⟨rfl, .inr ⟨_, e6⟩⟩)), d6, _, rfl, rfl, e6, fun p7 np7 => ?_⟩
    have s7 := same_upd (o := L2.DX.itemsO p7 d6) np7
    refine ⟨p7, d6, moveP (mNeg ba) other, rfl, upd_same, s7 _ _ e6, fun H8 l5 ps B' s8 nl5 hps hperm hasc e8 => ?_⟩
    have hB : B' = moveP (mNeg ba) other := asc_ext hasc (moveP_asc c2.asc c2.len lnb) fun x => hperm.mem_iff
    subst hB
    have t8 := t6.trans (s7.trans s8)
    have e48 : H8 d4 = some (.dT (enc (moveP (mNeg lo) one))) := s8 _ _ (s7 _ _ (s6 _ _ (s5 _ _ e4)))
    have tB : Tab n (moveP (mNeg ba) other) := moveP_tab c2.tab lnb
    have tA : Tab n (moveP (mNeg lo) one) := moveP_tab c1.tab lnl
    have neA := move_nil (b := mNeg lo) nE
    have neB := move_nil (b := mNeg ba) nO
    have zA : (moveP (mNeg lo) one).length ≤ 100 := by rw [moveP_length]; exact z1
    have zB : (moveP (mNeg ba) other).length ≤ 100 := by rw [moveP_length]; exact z2
    have cB : ∀ p ∈ moveP (mNeg ba) other, -1000 ≤ p.2 ∧ p.2 ≤ 1000 := fun p hp => by
      obtain ⟨q, hq, rfl⟩ := List.mem_map.mp hp
      exact cO q hq
    -- head, many
    obtain ⟨Bi, ⟨hd, m⟩, eBi⟩ : ∃ Bi x, moveP (mNeg ba) other = Bi ++ [x] := by
      rcases List.eq_nil_or_concat (moveP (mNeg ba) other) with z | ⟨Bi, x, z⟩
      · exact absurd z neB
      · exact ⟨Bi, x, by rw [z, List.concat_eq_append]⟩
    have top : Top id (moveP (mNeg ba) other) (hd, m) := by rw [eBi]; exact asc_last (by rw [← eBi]; exact hasc)
    have lhd : hd.length = n := tB.len _ top.1
    have m0 : m ≠ 0 := tB.nz _ top.1
    have mb := cB _ top.1
    obtain ⟨tl, etl, qh, g1, g2⟩ := pairs_get hps (i := Bi.length) (p := (hd, m)) (by rw [eBi, List.getElem?_append_right (Nat.le_refl _), Nat.sub_self]; rfl)
    obtain ⟨Z, elast⟩ : ∃ Z, ps.map V.ref = Z ++ [V.ref tl] := by
      have lps : ps.length = Bi.length + 1 := by rw [hps.len, eBi, List.length_append]; rfl
      have z : (ps.map V.ref).getLast? = some (.ref tl) := by
        rw [List.getLast?_eq_getElem?, List.length_map, lps, List.getElem?_map]
        show Option.map V.ref ps[Bi.length]? = _
        rw [etl]; rfl
      rcases List.eq_nil_or_concat (ps.map V.ref) with y | ⟨Z, x, y⟩
      · rw [y] at z; cases z
      · rw [List.concat_eq_append] at y
        rw [y, List.getLast?_concat] at z
        rw [← Option.some.inj z]
        exact ⟨Z, y⟩
    refine ⟨_, rfl, 1, rfl, l5, ps.map V.ref, -1, .ref tl, rfl, rfl, .inl (.inl e8), by rw [elast]; exact atI_last _ _, tl, [.ref qh, .int m], rfl, .inl (.inl g1), rfl, .ref qh, [.int m], rfl, .int m, [], rfl, rfl, ?_⟩
    -- room
    refine ⟨_, rfl, d4, moveP (mNeg lo) one, n, rfl, e48, neA, tA.len, by omega, by omega, fun H9 rA hA s9 hiA eA => ?_⟩
    refine ⟨_, rfl, l5, ps, moveP (mNeg ba) other, rfl, .inr (s9 _ _ e8), ps_keep s9 hps, tB.keys, fun dP ndP => ?_⟩
    have s10 := same_upd (o := .dT (enc (moveP (mNeg ba) other))) ndP
    refine ⟨dP, moveP (mNeg ba) other, n, rfl, upd_same, neB, tB.len, by omega, by omega, fun H11 rB hB s11 hiB eB => ?_⟩
    have eA' := s11 _ _ (s10 _ _ eA)
    refine ⟨rA, rB, _, _, rfl, .inl ⟨.inl (.inl eA'), .inl (.inl eB), fun D8 nD8 => ?_⟩⟩
    refine zip_lc (walk_zip (n := n) (by rw [List.length_map, List.length_map, hiA.len, hiB.len]; omega)) hiA.len hiB.len (by omega) (fun i j => .int (i - j)) (by decide) (show 18 < 20 by decide) (show 13 < 20 by decide) nD8
      (fun H12 s12 => ⟨.inl (.inl (s12 _ _ eA')), .inl (.inl (s12 _ _ eB))⟩) (fun H12 s12 e12 => ?_)
    rw [zip_sub] at e12
    have rl := room_le hlo hba hiA hiB c1.len c2.len w0
    have lroom : (mSub hA hB).length = n := mSub_len hiA.len hiB.len
    -- found
    intro d9 nd9
    have sH : Same H8 (upd H12 d9 (.dT [])) := s9.trans (s10.trans (s11.trans (s12.trans (same_upd nd9))))
    have t13 : Same H (upd H12 d9 (.dT [])) := t8.trans sH
    have n4 : H d4 = none := t3.free nd4
    have e4x := sH _ _ e48
    have n9 : H d9 = none := (t8.trans (s9.trans (s10.trans (s11.trans s12)))).free nd9
    have d49 : d4 ≠ d9 := ne_of_none (s12 _ _ (s11 _ _ (s10 _ _ (s9 _ _ e48)))) nd9
    have e9x : upd H12 d9 (.dT []) d9 = some (.dT (enc [])) := upd_same
    have e5x := sH _ _ e8
    have e8x : upd H12 d9 (.dT []) D8 = some (.lst ((mSub hA hB).map V.int)) := by
      rw [upd_ne (ne_of_none e12 nd9)]; exact e12
    have ehx : TupI (upd H12 d9 (.dT [])) qh hd := sH _ _ g2
    have hpx := ps_keep sH hps
    have elx : TupI (upd H12 d9 (.dT [])) r1 lo := sH _ _ (s8 _ _ (s7 _ _ (s6 _ _ (s5 _ _ (s4 _ _ (s3 _ _ (s2 _ _ e1)))))))
    have ebx : TupI (upd H12 d9 (.dT [])) r2 ba := sH _ _ (s8 _ _ (s7 _ _ (s6 _ _ (s5 _ _ (s4 _ _ (s3 _ _ e2))))))
    generalize upd H12 d9 (.dT []) = Hx at *
    -- the loop
    have nt : ∀ {o : HO} {q : Addr}, Hx q = some o → (∀ kvs, o ≠ .dT kvs) → q ≠ d4 ∧ q ≠ d9 := fun h z => ⟨ne_of_dT e4x h (z _), ne_of_dT e9x h (z _)⟩
    have kt : ∀ {H' : Hp}, But2 d4 d9 Hx H' → ∀ {q : Addr} {xs : List V}, Hx q = some (.tup xs) → H' q = some (.tup xs) := fun s q xs z => s _ _ (nt z (fun _ y => nomatch y)).1 (nt z (fun _ y => nomatch y)).2 z
    have kl : ∀ {H' : Hp}, But2 d4 d9 Hx H' → ∀ {q : Addr} {xs : List V}, Hx q = some (.lst xs) → H' q = some (.lst xs) := fun s q xs z => s _ _ (nt z (fun _ y => nomatch y)).1 (nt z (fun _ y => nomatch y)).2 z
    have ks : ∀ {H' : Hp}, But2 d4 d9 Hx H' → Same H H' := fun s q x z => s _ _ (ne_of_none z n4) (ne_of_none z n9) (t13 _ _ z)
    refine ⟨fun mm σ H' => ∃ found rest y10 y11 y12 y13 y14 y15 y16 y17 y18 y19, σ = [some (.ref a), some (.ref b), some (.ref r1), some (.ref r2), some (.ref d4), some (.ref l5), some (.ref qh), some (.int m), some (.ref D8), some (.ref d9), y10, y11, y12, y13, y14, y15, y16, y17, y18, y19] ∧
      But2 d4 d9 Hx H' ∧ H' d4 = some (.dT (enc rest)) ∧ H' d9 = some (.dT (enc found)) ∧ DivInv n (moveP (mNeg lo) one) (moveP (mNeg ba) other) hd (mSub hA hB) found rest ∧ mm + found.length = 343,
      ⟨343, [], _, _, _, _, _, _, _, _, _, _, _, rfl, (fun _ _ _ _ e => e), e4x, e9x, div_start n3 tA lhd, rfl⟩, ?_⟩
    rintro mm σ H' ⟨found, rest, y10, y11, y12, y13, y14, y15, y16, y17, y18, y19, rfl, b1, f4, f9, inv, hmm⟩
    refine ⟨_, rfl, fun pE npE => ?_⟩
    have sE := same_upd (o := .dT []) npE
    refine ⟨d4, pE, _, rfl, rfl, sE _ _ f4, upd_same, _, rfl, ?_⟩
    have b2 : But2 d4 d9 Hx (upd H' pE (.dT [])) := b1.trans (But2.of sE)
    have f4' := sE _ _ f4
    have f9' := sE _ _ f9
    generalize upd H' pE (.dT []) = H'' at b2 f4' f9'
    clear sE npE f4 f9 b1
    by_cases hr0 : rest = []
    · refine ifF (by rw [hr0]; rfl) ?_
      subst hr0
      -- shift
      refine sub_tup (K := K) (i := 2) (j := 3) rfl rfl (show 18 < 20 by decide) (kt b2 elx) (kt b2 ebx) (by rw [hlo.len, hba.len]) (by rw [hlo.len]; omega) (fun HA r16 sA e16 => ?_)
      refine ⟨_, rfl, .inr (.inr (.inl ⟨rfl, .inr ⟨_, sA _ _ f9'⟩⟩)), d9, _, rfl, rfl, sA _ _ f9', fun pI npI => ?_⟩
      have sI := same_upd (o := L2.DX.itemsO pI d9) npI
      refine ⟨pI, d9, found, rfl, upd_same, sI _ _ (sA _ _ f9'), fun HB tI pf sB ntI etI hpf => ?_⟩
      have lsh : (mSub lo ba).length = n := mSub_len hlo.len hba.len
      refine ⟨_, rfl, tI, r16, pf, found, n, mSub lo ba, rfl, .inl (.inl etI), hpf, inv.tF.keys, inv.tF.len, .inl (.inl (sB _ _ (sI _ _ e16))), lsh, by omega, by have := inv.cnt; omega, fun HC dC sC ndC eC => ?_⟩
      refine ⟨dC, moveP (mSub lo ba) found, rfl, eC, moveP_keys inv.tF.keys inv.tF.len lsh, by rw [moveP_length]; have := inv.cnt; omega, fits_of (moveP_len inv.tF.len lsh) (by omega) (div_within hlo hba inv rl w1 w2), fun HD r S sD nr so hs => ?_⟩
      exact kOk nE HD r S ((ks b2).trans (sA.trans (sI.trans (Same.trans sB (sC.trans sD))))) (div_end (l := l) c1 c2 hlo hba inv rl w1 w2 so) hs
    · refine ifT (by cases rest with | nil => exact absurd rfl hr0 | cons _ _ => rfl) ?_
      obtain ⟨⟨t, c⟩, ht⟩ := exists_top id hr0
      have lt : t.length = n := inv.tR.len _ ht.1
      refine ⟨fun σ' H' => ∃ mm', mm' < mm ∧ ∃ found rest y10 y11 y12 y13 y14 y15 y16 y17 y18 y19, σ' = [some (.ref a), some (.ref b), some (.ref r1), some (.ref r2), some (.ref d4), some (.ref l5), some (.ref qh), some (.int m), some (.ref D8), some (.ref d9), y10, y11, y12, y13, y14, y15, y16, y17, y18, y19] ∧
        But2 d4 d9 Hx H' ∧ H' d4 = some (.dT (enc rest)) ∧ H' d9 = some (.dT (enc found)) ∧ DivInv n (moveP (mNeg lo) one) (moveP (mNeg ba) other) hd (mSub hA hB) found rest ∧ mm' + found.length = 343, fun σ' H' z => z, ?_⟩
      -- top = max(rest)
      refine ⟨_, rfl, d4, rest, rfl, .inl f4', hr0, fun q10 k hk hmax hq => ?_⟩
      have hkt : k = t := by
        obtain ⟨⟨k', c'⟩, hk', rfl⟩ := List.mem_map.mp hk
        exact lex_tot (hmax t (List.mem_map.mpr ⟨(t, c), ht.1, rfl⟩)) (ht.2 _ hk')
      subst hkt
      -- powers
      refine sub_tup (K := K) (i := 10) (j := 6) rfl rfl (show 18 < 20 by decide) hq (kt b2 ehx) (by omega) (by omega) (fun HA q11 sA e11 => ?_)
      have lpw : (mSub k hd).length = n := mSub_len lt lhd
      have f4A := sA _ _ f4'
      have f9A := sA _ _ f9'
      have hqA := sA _ _ hq
      have hqk : HA q10 = some (.tup ((ik k).map kV)) := by rw [ik_V]; exact hqA
      have b3 : But2 d4 d9 Hx HA := b2.trans (But2.of sA)
      have hval : valV (enc rest) (ik k) = some (.int c) := by
        rw [val_enc]
        have z := lookI_cf inv.tR.keys k
        rw [cf_mem inv.tR.keys ht.1] at z
        cases y : lookI rest k with
        | none => rw [y] at z; exact absurd z.symm (inv.tR.nz _ ht.1)
        | some v => rw [y] at z; exact congrArg (fun z => some (V.int z)) z
      have dg : DGet HA d4 (.ref q10) (some (.int c)) := by rw [← hval]; exact DGet.t f4A hqk
      have fail : ¬ (In0 n (mSub hA hB) (mSub k hd) ∧ ∃ s, c = s * m) → ∀ H', Same H H' → E (.ref C) none H' := fun z => kFail nE ⟨lo, ba, hA, hB, hd, k, m, c, found, rest, hlo, hba, hiA, hiB, inv, top, ht, z⟩
      refine ⟨_, rfl, q11, mSub k hd, rfl, .inl (.inl e11), (fun z => by rw [z] at lpw; simp at lpw; omega), fun mn hmn hle => ⟨mn, 0, rfl, rfl, _, rfl, ?_⟩⟩
      obtain ⟨xm, hxm, exm⟩ := mem_getD lpw hmn
      by_cases hneg : mn < 0
      · refine ifT (decide_eq_true hneg) (ifT rfl (fail (fun z => ?_) HA (ks b3)))
        have := (z.1 xm hxm).1
        omega
      refine ifF (decide_eq_false hneg) ?_
      refine ⟨_, rfl, _, rfl, d4, _, rfl, dg, _, rfl, c, m, rfl, rfl, m0, rfl, _, rfl, ?_⟩
      by_cases hmod : c.fmod m = 0
      rotate_left
      · refine ifT (by rw [dec_int]; simpa using hmod) (ifT rfl (fail (fun z => ?_) HA (ks b3)))
        obtain ⟨s, es⟩ := z.2
        exact hmod (by rw [es]; exact fmod_mul s m)
      refine ifF (by show (!decide (V.int (c.fmod m) = V.int 0)) = false; rw [hmod]; rfl) ?_
      refine ⟨_, rfl, _, rfl, q11, D8, _, _, rfl, .inl (.inl e11), .inl (.inl (kl b3 e8x)), fun DZ nDZ => ?_⟩
      refine zip_lc (walk_zipM (n := n) (by rw [List.length_map, List.length_map, lpw, lroom]; omega)) lpw lroom (by omega) (fun i j => .bl (decide (j < i))) (by decide) (show 17 < 20 by decide) (show 19 < 20 by decide) nDZ
        (fun H12 s12 => ⟨.inl (.inl (s12 _ _ e11)), .inl (.inl (s12 _ _ (kl b3 e8x)))⟩) (fun HZ sZ eZ => ?_)
      rw [zip_bools] at eZ
      have b4 : But2 d4 d9 Hx HZ := b3.trans (But2.of sZ)
      refine ⟨DZ, _, rfl, .inl (.inl eZ), _, rfl, ?_⟩
      obtain ⟨any1, any2⟩ := any_zip lpw lroom
      refine ite2 (fun h => ?_) (fun h => ?_)
      · refine fail (fun z => ?_) HZ (ks b4)
        obtain ⟨x, hx, lx⟩ := any1 h
        have := (z.1 x hx).2
        omega
      have hin : In0 n (mSub hA hB) (mSub k hd) := fun x hx => ⟨by
        have z := hle _ (List.mem_of_getElem? (getD_get (a := mSub k hd) (i := x) (by omega)))
        omega, any2 (Bool.eq_false_iff.mpr h) x hx⟩
      have hcs : c = c.fdiv m * m := of_fmod hmod
      obtain ⟨inv', fresh, few⟩ := div_step inv tB top rl ht hin hcs
      have f4Z := sZ _ _ f4A
      have f9Z := sZ _ _ f9A
      have e11Z := sZ _ _ e11
      have e11k : HZ q11 = some (.tup ((ik (mSub k hd)).map kV)) := by rw [ik_V]; exact e11Z
      -- share
      refine ⟨_, rfl, _, rfl, d4, .int c, rfl, by rw [← hval]; exact DGet.t f4Z (sZ _ _ hqk), _, rfl, c, m, rfl, rfl, ⟨m0, by omega⟩, ?_⟩
      -- found[powers] = share
      refine ⟨_, rfl, _, rfl, _, rfl, d9, _, rfl, DPut.t f9Z e11k (by rw [enc_length]; exact small (by omega)), ?_⟩
      rw [put_enc, putI_new _ fresh]
      have u9 : upd HZ d9 (.dT (enc (found ++ [(mSub k hd, c.fdiv m)]))) d9 = some (.dT (enc (found ++ [(mSub k hd, c.fdiv m)]))) := upd_same
      have u4 : upd HZ d9 (.dT (enc (found ++ [(mSub k hd, c.fdiv m)]))) d4 = some (.dT (enc rest)) := by rw [upd_ne d49]; exact f4Z
      have b5 : But2 d4 d9 Hx (upd HZ d9 (.dT (enc (found ++ [(mSub k hd, c.fdiv m)])))) := fun q x h1 h2 z => by
        rw [upd_ne h2]; exact b4 _ _ h1 h2 z
      have u11 : TupI (upd HZ d9 (.dT (enc (found ++ [(mSub k hd, c.fdiv m)])))) q11 (mSub k hd) := by
        show upd HZ d9 _ q11 = _
        rw [upd_ne (ne_of_dT f9Z e11Z (fun z => nomatch z))]; exact e11Z
      have hpu : Pairs (upd HZ d9 (.dT (enc (found ++ [(mSub k hd, c.fdiv m)])))) ps (moveP (mNeg ba) other) := hpx.keep fun q xs z => kt b5 z
      refine sub_loop (K := K) (n := n) (kl b5 e5x) hpu u4 u11 inv.tR tB.len lpw (by omega) ?_ cB (fun y13 y14 y15 HW bW eW => ?_)
      · have z3 := inv.many
        have z4 := inv.cnt
        have z5 : (moveP (mNeg ba) other).length * found.length ≤ 100 * 343 := Nat.mul_le_mul zB z4
        omega
      · refine ⟨mm - 1, by omega, found ++ [(mSub k hd, c.fdiv m)], _, _, _, _, _, _, _, _, _, _, _, rfl, b5.trans (But2.left bW), eW, bW _ _ d49.symm u9, inv', ?_⟩
        rw [List.length_append]
        show mm - 1 + (found.length + 1) = 343
        omega
end
end Dw
/-! is_integer, is_from, need_count. -/
namespace Dw
open PySem PySem.Spec PyProof.Rows L2
def tyD : PyData → String
  | .none => "NoneType" | .bool _ => "bool" | .int _ => "int" | .str _ => "str" | .list _ => "list" | .tuple _ => "tuple" | .dict _ => "dict"
def isIntD : PyData → Bool | .int _ => true | _ => false
def intD : PyData → Int | .int i => i | _ => 0
def fromD (lo hi : Int) : PyData → Bool | .int i => decide (lo ≤ i) && decide (i ≤ hi) | _ => false
section
variable {K : PySem.W.Frag} {H : Hp}
theorem ty_of {x : V} {d : PyData} (h : Dp K H x d) : TyX K H x (.type (tyD d)) := by
  cases h with
  | non => exact .base .non
  | bl b => exact .base (.bl b)
  | int i => exact .base (.int i)
  | str s => exact .base (.str s)
  | lst hs _ =>
    rcases hs with (e | ⟨o, e⟩) | ⟨o, its, n, e, c, _⟩
    · exact .base (.lst e)
    · exact .base (.frz e)
    · exact .kList e c
  | tup hs _ =>
    rcases hs with (e | ⟨o, e⟩) | ⟨o, its, n, e, c, _⟩
    · exact .base (.tup e)
    · exact .fTuple e
    · exact .kTuple e c
def kT (a b : String) : Option Bool := kitB a b
mutual
theorem dp_keep {H' : Hp} (s : Same H H') : ∀ (d : PyData) (x : V), Dp K H x d → Dp K H' x d
  | .none, _, h => by cases h; exact .non
  | .bool b, _, h => by cases h; exact .bl b
  | .int i, _, h => by cases h; exact .int i
  | .str x, _, h => by cases h; exact .str x
  | .list ds, _, h => by cases h with | lst hs ha => exact .lst (s.seq hs) (dpAll_keep s ds _ ha)
  | .tuple ds, _, h => by cases h with | tup hs ha => exact .tup (sqT_keep s hs) (dpAll_keep s ds _ ha)
  | .dict _, _, h => by cases h
theorem dpAll_keep {H' : Hp} (s : Same H H') : ∀ (ds : List PyData) (xs : List V), DpAll K H xs ds → DpAll K H' xs ds
  | [], _, h => by cases h; exact .nil
  | d :: ds, _, h => by cases h with | cons a b => exact .cons (dp_keep s d _ a) (dpAll_keep s ds _ b)
end
theorem dpAll_len : ∀ {xs : List V} {ds : List PyData}, DpAll K H xs ds → xs.length = ds.length
  | _, _, .nil => rfl
  | _, _, .cons _ t => congrArg (· + 1) (dpAll_len t)
theorem dpAll_at : ∀ {xs : List V} {ds : List PyData}, DpAll K H xs ds → ∀ {i : Nat} {x : V}, xs[i]? = some x → ∃ d, ds[i]? = some d ∧ Dp K H x d
  | _, _, .nil, i, x, e => by simp at e
  | _, _, .cons h t, 0, x, e => ⟨_, rfl, by rw [← Option.some.inj e]; exact h⟩
  | _, _, .cons h t, i + 1, x, e => dpAll_at t (i := i) e
theorem dpAll_at' : ∀ {xs : List V} {ds : List PyData}, DpAll K H xs ds → ∀ {i : Nat} {d : PyData}, ds[i]? = some d → ∃ x, xs[i]? = some x ∧ Dp K H x d
  | _, _, .nil, i, x, e => by simp at e
  | _, _, .cons h t, 0, x, e => ⟨_, rfl, by rw [← Option.some.inj e]; exact h⟩
  | _, _, .cons h t, i + 1, x, e => dpAll_at' t (i := i) e
end
section
variable {P : Program} {w : World} {K : PySem.W.Frag} {mg : Str → Option Value} {base : Heap}
def spIsInt (K : PySem.W.Frag) : Sp := fun vs H Q _ => ∃ x d, vs = [x] ∧ Dp K H x d ∧ Q (.bl (isIntD d)) H
theorem ok_isint {f : Addr} {fd : FuncData} (F : Fun K "is_integer" "is_integer" sIsInteger f fd) (mi : mg "isinstance" = none) (mn : mg "int" = none) (mb : mg "bool" = none) : FnOk P w K mg base CX0 1 f fd ["value"] (spIsInt K) := by
  refine F.ok scIsInteger (fun vs H Q E h => ?_) (fun cdv A outer s H vs Q E hr h => ?_)
  · obtain ⟨x, d, rfl, _⟩ := h
    rfl
  · obtain ⟨x, d, rfl, hd, q⟩ := h
    refine ⟨_, pss_one (ps_ret (pe_and (pe_callB call_isi (by rfl) mi PyProof.Rows.boot_isinstance (pa_cons (pv 0) (pa_cons (pe_bltn (v := .ty "int") (by rfl) mn PyProof.Rows.boot_int rfl) pa_nil)))
      (pe_one (pe_not (pe_callB call_isi (by rfl) mi PyProof.Rows.boot_isinstance (pa_cons (pv 0) (pa_cons (pe_bltn (v := .ty "bool") (by rfl) mb PyProof.Rows.boot_bool rfl) pa_nil))))))), ?_⟩
    refine ⟨_, rfl, ?_⟩
    cases hd' : d with
    | none => subst hd'; refine ⟨x, .ty "int", _, _, _, rfl, .ty "int", ty_of hd, kit_ty (show kitB "NoneType" "int" = some false by decide +kernel), ?_⟩; exact ⟨_, rfl, q⟩
    | bool b => subst hd'; refine ⟨x, .ty "int", _, _, _, rfl, .ty "int", ty_of hd, kit_ty (show kitB "bool" "int" = some true by decide +kernel), ?_⟩; refine ⟨_, rfl, _, rfl, ?_⟩; refine ⟨x, .ty "bool", _, _, _, rfl, .ty "bool", ty_of hd, kit_ty (show kitB "bool" "bool" = some true by decide +kernel), ?_⟩; exact ⟨_, rfl, q⟩
    | int i => subst hd'; refine ⟨x, .ty "int", _, _, _, rfl, .ty "int", ty_of hd, kit_ty (show kitB "int" "int" = some true by decide +kernel), ?_⟩; refine ⟨_, rfl, _, rfl, ?_⟩; refine ⟨x, .ty "bool", _, _, _, rfl, .ty "bool", ty_of hd, kit_ty (show kitB "int" "bool" = some false by decide +kernel), ?_⟩; exact ⟨_, rfl, q⟩
    | str z => subst hd'; refine ⟨x, .ty "int", _, _, _, rfl, .ty "int", ty_of hd, kit_ty (show kitB "str" "int" = some false by decide +kernel), ?_⟩; exact ⟨_, rfl, q⟩
    | list z => subst hd'; refine ⟨x, .ty "int", _, _, _, rfl, .ty "int", ty_of hd, kit_ty (show kitB "list" "int" = some false by decide +kernel), ?_⟩; exact ⟨_, rfl, q⟩
    | tuple z => subst hd'; refine ⟨x, .ty "int", _, _, _, rfl, .ty "int", ty_of hd, kit_ty (show kitB "tuple" "int" = some false by decide +kernel), ?_⟩; exact ⟨_, rfl, q⟩
    | dict z => subst hd'; cases hd
def spFrom (K : PySem.W.Frag) : Sp := fun vs H Q _ => ∃ (x : V) (d : PyData) (lo hi : Int), vs = [x, .int lo, .int hi] ∧ Dp K H x d ∧ Q (.bl (fromD lo hi d)) H
theorem ok_from {f fI : Addr} {fd fdI : FuncData} (F : Fun K "is_from" "is_from" sIsFrom f fd) (CI : Cal P w K mg base CX0 1 "is_integer" ["value"] (spIsInt K) fI fdI) : FnOk P w K mg base CX0 2 f fd ["value", "low", "high"] (spFrom K) := by
  refine F.ok scIsFrom (fun vs H Q E h => ?_) (fun cdv A outer s H vs Q E hr h => ?_)
  · obtain ⟨x, d, lo, hi, rfl, _⟩ := h
    rfl
  · obtain ⟨x, d, lo, hi, rfl, hd, q⟩ := h
    refine ⟨_, pss_one (ps_ret (pe_and (pe_call (E := fun _ _ _ => False) CI.ok hr (by rfl) CI.g CI.kp CI.b .nil pass0 (pa_cons (pv 0) pa_nil)) (pe_one (pe_chain op_le op_le (pv 1) (pv 0) (pv 2))))), ?_⟩
    refine ⟨_, rfl, x, d, rfl, hd, _, rfl, ?_⟩
    cases hd' : d with
    | int i =>
      subst hd'
      cases hd
      refine ⟨_, rfl, _, rfl, lo, i, rfl, rfl, _, rfl, ?_⟩
      by_cases c : lo ≤ i
      · refine ifT (decide_eq_true c) ⟨_, rfl, i, hi, rfl, rfl, ?_⟩
        have e : fromD lo hi (.int i) = decide (i ≤ hi) := by show (decide (lo ≤ i) && decide (i ≤ hi)) = _; rw [decide_eq_true c, Bool.true_and]
        rw [e] at q
        exact q
      · refine ifF (decide_eq_false c) ?_
        have e : fromD lo hi (.int i) = false := by show (decide (lo ≤ i) && decide (i ≤ hi)) = _; rw [decide_eq_false c, Bool.false_and]
        rw [e] at q
        exact q
    | none => subst hd'; exact ifF rfl q
    | bool b => subst hd'; exact ifF rfl q
    | str z => subst hd'; exact ifF rfl q
    | list z => subst hd'; exact ifF rfl q
    | tuple z => subst hd'; exact ifF rfl q
    | dict z => subst hd'; exact ifF rfl q
def spCount : Sp := fun vs H Q _ => ∃ n : Int, vs = [.int n] ∧ 1 ≤ n ∧ n ≤ 6 ∧ Q .non H
theorem ok_count {f fI : Addr} {fd fdI : FuncData} (F : Fun K "need_count" "need_count" sNeedCount f fd) (CI : Cal P w K mg base CX0 2 "is_from" ["value", "low", "high"] (spFrom K) fI fdI) (gM : ∃ t, mg "MOST_NODES" = some (.int 6 t)) : FnOk P w K mg base CX0 3 f fd ["value"] spCount := by
  obtain ⟨t, gM⟩ := gM
  refine F.ok scNeedCount (fun vs H Q E h => ?_) (fun cdv A outer s H vs Q E hr h => ?_)
  · obtain ⟨n, rfl, _⟩ := h
    rfl
  · obtain ⟨n, rfl, h1, h2, q⟩ := h
    refine ⟨_, pss_one (ps_if (pt_not (pt_val (pe_call (E := fun _ _ _ => False) CI.ok hr (by rfl) CI.g CI.kp CI.b .nil pass0 (pa_cons (pv 0) (pa_cons pe_int (pa_cons (pe_glob (v := .int 6) (by rfl) gM ⟨_, rfl⟩) pa_nil)))))) (pss_one ps_never) pss_nil), ?_⟩
    refine ⟨_, rfl, .int n, .int n, 1, 6, rfl, .int n, _, rfl, ifF ?_ q⟩
    show (!(decide (1 ≤ n) && decide (n ≤ 6))) = false
    rw [decide_eq_true h1, decide_eq_true h2]; rfl
end
end Dw
/-! is_pair, is_sum_of. -/
namespace Dw
open PySem PySem.Spec PyProof.Rows L2
def pairI (n : Int) (d c : PyData) : Bool := match d with
  | .tuple es => (decide ((es.length : Int) = n) && es.all (fromD (-1000) 1000)) && (isIntD c && !decide (intD c = 0))
  | _ => false
def pairL (n : Int) (ds : List PyData) : Bool := match ds with
  | [d, c] => pairI n d c
  | _ => false
def pairD (n : Int) (d : PyData) : Bool := match d with
  | .tuple ds => pairL n ds
  | _ => false
section
variable {P : Program} {w : World} {K : PySem.W.Frag} {mg : Str → Option Value} {base : Heap}
def spPair (K : PySem.W.Frag) : Sp := fun vs H Q _ => ∃ (x : V) (d : PyData) (n : Int), vs = [.int n, x] ∧ n ≤ 1000 ∧ Dp K H x d ∧ ∀ H', Same H H' → Q (.bl (pairD n d)) H'
theorem ok_pair {f fI fF : Addr} {fd fdI fdF : FuncData} (F : Fun K "is_pair" "is_pair" sIsPair f fd) (CI : Cal P w K mg base CX0 1 "is_integer" ["value"] (spIsInt K) fI fdI) (CF : Cal P w K mg base CX0 2 "is_from" ["value", "low", "high"] (spFrom K) fF fdF)
    (mi : mg "isinstance" = none) (mt : mg "tuple" = none) (ml : mg "len" = none) (ma : mg "all" = none) (gE : ∃ t, mg "MOST_EXPONENT" = some (.int 1000 t)) : FnOk P w K mg base CX0 3 f fd ["n", "value"] (spPair K) := by
  obtain ⟨tE, gE⟩ := gE
  refine F.ok scIsPair (fun vs H Q E h => ?_) (fun cdv A outer s H vs Q E hr h => ?_)
  · obtain ⟨x, d, n, rfl, _⟩ := h
    rfl
  · obtain ⟨x, d, n, rfl, hn, hd, q⟩ := h
    have nd := scIsPair.nd
    have hr1 : Room 1 _ := hr.mono (by decide)
    refine ⟨_, pss_cons (ps_if (PW.pt (pw_or (pt_not (pt_val (pe_callB call_isi (by rfl) mi PyProof.Rows.boot_isinstance (pa_cons (pv 1) (pa_cons (pe_bltn (v := .ty "tuple") (by rfl) mt PyProof.Rows.boot_tuple rfl) pa_nil)))))
        (pw_or (pt_cmpR op_ne (pe_callB call_len_seq (by rfl) ml PySem.boot_len (pa_cons (pv 1) pa_nil)) pe_int (nomark _))
        (pw_or (pt_not (pt_val (pe_callB call_isi (by rfl) mi PyProof.Rows.boot_isinstance (pa_cons (pe_ix ix_tup (pv 1) pe_int (fun _ _ => rfl)) (pa_cons (pe_bltn (v := .ty "tuple") (by rfl) mt PyProof.Rows.boot_tuple rfl) pa_nil)))))
        (pw_or1 (pt_cmpR op_ne (pe_callB call_len_seq (by rfl) ml PySem.boot_len (pa_cons (pe_ix ix_tup (pv 1) pe_int (fun _ _ => rfl)) pa_nil)) (pv 0) (nomark _))))))) (pss_one (ps_ret pe_bl)) pss_nil)
      (pss_cons (ps_if (pt_not (pt_val (pe_callB (cr_all rfl) (by rfl) ma PyProof.Rows.boot_all (pa_cons (pe_lc (own := [("power", 2)]) (g := gName 2) (tt := tYes) rfl nd (pi_tup (pe_ix ix_tup (pv 1) pe_int (fun _ _ => rfl)))
          (blkOk_by (N := nIsPair) (sc := defScope sIsPair) (by decide +kernel)) (fun _ _ _ _ _ => pg_name (i := 2) nd rfl (.inl rfl)) (fun _ _ _ _ _ => pts_nil)
          (fun _ _ _ _ _ => by exact pe_call (E := fun _ _ _ => False) CF.ok hr (by rfl) CF.g CF.kp CF.b .nil pass0 (pa_cons (pv 2) (pa_cons (pe_un un_neg (pe_glob (v := .int 1000) (by rfl) gE ⟨_, rfl⟩)) (pa_cons (pe_glob (v := .int 1000) (by rfl) gE ⟨_, rfl⟩) pa_nil))))) pa_nil)))) (pss_one (ps_ret pe_bl)) pss_nil)
      (pss_one (ps_ret (pe_and (pe_call (E := fun _ _ _ => False) CI.ok hr1 (by rfl) CI.g CI.kp CI.b .nil pass0 (pa_cons (pe_ix ix_tup (pv 1) pe_int (fun _ _ => rfl)) pa_nil))
        (pe_one (pe_cmpR op_ne (pe_ix ix_tup (pv 1) pe_int (fun _ _ => rfl)) pe_int (nomark _))))))), ?_⟩
    refine ⟨_, rfl, ?_⟩
    cases hd' : d with
    | none => subst hd'; refine ⟨x, .ty "tuple", _, _, _, rfl, .ty "tuple", ty_of hd, kit_ty (show kitB "NoneType" "tuple" = some false by decide +kernel), ?_⟩; exact ⟨_, rfl, ifT rfl (ifT rfl (q H (Same.refl H)))⟩
    | bool b => subst hd'; refine ⟨x, .ty "tuple", _, _, _, rfl, .ty "tuple", ty_of hd, kit_ty (show kitB "bool" "tuple" = some false by decide +kernel), ?_⟩; exact ⟨_, rfl, ifT rfl (ifT rfl (q H (Same.refl H)))⟩
    | int i => subst hd'; refine ⟨x, .ty "tuple", _, _, _, rfl, .ty "tuple", ty_of hd, kit_ty (show kitB "int" "tuple" = some false by decide +kernel), ?_⟩; exact ⟨_, rfl, ifT rfl (ifT rfl (q H (Same.refl H)))⟩
    | str z => subst hd'; refine ⟨x, .ty "tuple", _, _, _, rfl, .ty "tuple", ty_of hd, kit_ty (show kitB "str" "tuple" = some false by decide +kernel), ?_⟩; exact ⟨_, rfl, ifT rfl (ifT rfl (q H (Same.refl H)))⟩
    | list z => subst hd'; refine ⟨x, .ty "tuple", _, _, _, rfl, .ty "tuple", ty_of hd, kit_ty (show kitB "list" "tuple" = some false by decide +kernel), ?_⟩; exact ⟨_, rfl, ifT rfl (ifT rfl (q H (Same.refl H)))⟩
    | dict z => subst hd'; cases hd
    | tuple ds =>
      subst hd'
      refine ⟨x, .ty "tuple", _, _, _, rfl, .ty "tuple", ty_of hd, kit_ty (show kitB "tuple" "tuple" = some true by decide +kernel), ?_⟩
      refine ⟨_, rfl, ifF rfl ?_⟩
      cases hd with
      | @tup a xs _ hs ha =>
      have hl := dpAll_len ha
      refine ⟨_, rfl, a, xs, rfl, .inr hs, rfl, _, rfl, ?_⟩
      match ds, ha, q with
      | [], _, q => exact ifT (by rw [hl]; rfl) (ifT rfl (q H (Same.refl H)))
      | [d1], _, q => exact ifT (by rw [hl]; rfl) (ifT rfl (q H (Same.refl H)))
      | d1 :: d2 :: d3 :: r, _, q =>
        refine ifT ?_ (ifT rfl (q H (Same.refl H)))
        rw [hl, dec_int]
        have : ((((d1 :: d2 :: d3 :: r).length : Nat) : Int) == 2) = false := by
          simp only [List.length_cons]
          exact beq_false_of_ne (by omega)
        rw [this]; rfl
      | [d0, d1], ha, q =>
        refine ifF (by rw [hl]; rfl) ?_
        cases ha with
        | @cons v0 vs0 _ _ h0 ht =>
        cases ht with
        | @cons v1 vs1 _ _ h1 ht1 =>
        cases ht1
        refine ⟨_, rfl, a, _, 0, v0, rfl, rfl, hs, atI_nat (j := 0) rfl, ?_⟩
        cases hd0 : d0 with
        | none => subst hd0; refine ⟨v0, .ty "tuple", _, _, _, rfl, .ty "tuple", ty_of h0, kit_ty (show kitB "NoneType" "tuple" = some false by decide +kernel), ?_⟩; exact ⟨_, rfl, ifT rfl (ifT rfl (q H (Same.refl H)))⟩
        | bool b => subst hd0; refine ⟨v0, .ty "tuple", _, _, _, rfl, .ty "tuple", ty_of h0, kit_ty (show kitB "bool" "tuple" = some false by decide +kernel), ?_⟩; exact ⟨_, rfl, ifT rfl (ifT rfl (q H (Same.refl H)))⟩
        | int i => subst hd0; refine ⟨v0, .ty "tuple", _, _, _, rfl, .ty "tuple", ty_of h0, kit_ty (show kitB "int" "tuple" = some false by decide +kernel), ?_⟩; exact ⟨_, rfl, ifT rfl (ifT rfl (q H (Same.refl H)))⟩
        | str z => subst hd0; refine ⟨v0, .ty "tuple", _, _, _, rfl, .ty "tuple", ty_of h0, kit_ty (show kitB "str" "tuple" = some false by decide +kernel), ?_⟩; exact ⟨_, rfl, ifT rfl (ifT rfl (q H (Same.refl H)))⟩
        | list z => subst hd0; refine ⟨v0, .ty "tuple", _, _, _, rfl, .ty "tuple", ty_of h0, kit_ty (show kitB "list" "tuple" = some false by decide +kernel), ?_⟩; exact ⟨_, rfl, ifT rfl (ifT rfl (q H (Same.refl H)))⟩
        | dict z => subst hd0; cases h0
        | tuple es =>
          subst hd0
          refine ⟨v0, .ty "tuple", _, _, _, rfl, .ty "tuple", ty_of h0, kit_ty (show kitB "tuple" "tuple" = some true by decide +kernel), ?_⟩
          refine ⟨_, rfl, ifF rfl ?_⟩
          cases h0 with
          | @tup q0 ys _ hq0 hys =>
          have ly := dpAll_len hys
          have pd : pairD n (.tuple [.tuple es, d1]) = ((decide ((es.length : Int) = n) && es.all (fromD (-1000) 1000)) && (isIntD d1 && !decide (intD d1 = 0))) := rfl
          refine ⟨_, rfl, a, _, 0, _, rfl, rfl, hs, atI_nat (j := 0) rfl, q0, ys, rfl, .inr hq0, _, rfl, rfl, _, rfl, ?_⟩
          by_cases hen : (es.length : Int) = n
          rotate_left
          · refine ifT (by rw [ly, dec_int]; simpa using hen) (by
              have z := q H (Same.refl H)
              rw [pd, decide_eq_false hen, Bool.false_and, Bool.false_and] at z
              exact z)
          refine ifF (by rw [ly, dec_int, hen]; simp) ?_
          refine ⟨_, rfl, a, _, 0, _, rfl, rfl, hs, atI_nat (j := 0) rfl, q0, rfl, ⟨_, hq0⟩, fun D nD => ?_⟩
          refine lc_it (walk_tup (K := K) (a := q0) (xs := ys)) (fun i H1 => Same H H1 ∧ H1 D = some (.lst ((es.take i).map fun d => V.bl (fromD (-1000) 1000 d)))) ⟨same_upd nD, upd_same⟩ (fun i H1 _ p => sqT_keep p.1 hq0) (fun i v H1 H2 hi p y => ?_) (fun H1 p => ?_)
          · obtain ⟨rfl, ev⟩ := y
            obtain ⟨s1, e1⟩ := p
            obtain ⟨d, ed, hdd⟩ := dpAll_at hys ev
            refine ⟨rfl, _, rfl, 1000, rfl, v, d, -1000, 1000, rfl, dp_keep s1 d _ hdd, _, e1, ?_, fun b o eb => ?_, ?_⟩
            · rw [List.length_map, List.length_take]
              exact small (Nat.le_trans (Nat.min_le_right _ _) (by omega))
            · have bD : b ≠ D := fun z => by rw [z, nD] at eb; cases eb
              rw [upd_ne bD]
              exact s1 _ _ eb
            · rw [upd_same, take_snoc ed, List.map_append]
              rfl
          · obtain ⟨s1, e1⟩ := p
            rw [ly, take_all] at e1
            have e2 : (es.map fun d => V.bl (fromD (-1000) 1000 d)) = (es.map (fromD (-1000) 1000)).map V.bl := by rw [List.map_map]; rfl
            rw [e2] at e1
            refine ⟨D, _, rfl, .inl (.inl e1), _, rfl, ?_⟩
            have ea : (es.map (fromD (-1000) 1000)).all id = es.all (fromD (-1000) 1000) := by rw [List.all_map]; rfl
            rw [ea]
            have z := q H1 s1
            rw [pd, decide_eq_true hen, Bool.true_and] at z
            cases hall : es.all (fromD (-1000) 1000) with
            | false =>
              rw [hall, Bool.false_and] at z
              exact ifT rfl z
            | true =>
              rw [hall, Bool.true_and] at z
              refine ifF rfl ?_
              refine ⟨_, rfl, a, _, 1, v1, rfl, rfl, sqT_keep s1 hs, atI_nat (j := 1) rfl, v1, d1, rfl, dp_keep s1 d1 _ h1, _, rfl, ?_⟩
              cases hd1 : d1 with
              | int i =>
                subst hd1
                cases h1
                refine ifT rfl ⟨_, rfl, a, _, 1, _, rfl, rfl, sqT_keep s1 hs, atI_nat (j := 1) rfl, rfl, ?_⟩
                have z2 : Q (.bl (true && !decide (i = 0))) H1 := z
                rw [Bool.true_and] at z2
                rw [show (!decide (V.int i = V.int 0)) = !decide (i = 0) by
                  rw [dec_int, Bool.eq_iff_iff]
                  simp]
                exact z2
              | none => subst hd1; exact ifF rfl z
              | bool b => subst hd1; exact ifF rfl z
              | str y => subst hd1; exact ifF rfl z
              | list y => subst hd1; exact ifF rfl z
              | tuple y => subst hd1; exact ifF rfl z
              | dict y => subst hd1; cases h1
end
end Dw
/-! is_sum_of and what calls it. -/
namespace Dw
open PySem PySem.Spec PyProof.Rows L2
def keyD (d : PyData) : Mon := match d with
  | .tuple ds => (match ds with
    | d0 :: _ => (match d0 with
      | .tuple es => es.map intD
      | _ => [])
    | _ => [])
  | _ => []
def ascD (ds : List PyData) : Bool := (List.zipWith (fun p q => HT.lexLt (keyD p) (keyD q)) ds (ds.drop 1)).all id
def sumB (n : Int) (d : PyData) : Bool := match d with
  | .tuple ds => decide (ds.length ≤ 500) && (ds.all (pairD n) && ascD ds)
  | _ => false
theorem from_ints : ∀ {es : List PyData}, es.all (fromD (-1000) 1000) = true → ∃ e : Mon, es = e.map PyData.int ∧ ∀ v ∈ e, -1000 ≤ v ∧ v ≤ 1000
  | [], _ => ⟨[], rfl, fun v h => nomatch h⟩
  | d :: es, h => by
    rw [List.all_cons, Bool.and_eq_true] at h
    obtain ⟨e, rfl, he⟩ := from_ints h.2
    cases d with
    | int i =>
      have z : (decide (-1000 ≤ i) && decide (i ≤ 1000)) = true := h.1
      rw [Bool.and_eq_true] at z
      refine ⟨i :: e, rfl, fun v hv => ?_⟩
      rcases List.mem_cons.mp hv with rfl | hv
      · exact ⟨of_decide_eq_true z.1, of_decide_eq_true z.2⟩
      · exact he v hv
    | none => cases h.1
    | bool b => cases h.1
    | str b => cases h.1
    | list b => cases h.1
    | tuple b => cases h.1
    | dict b => cases h.1
theorem pair_data {n : Int} {d : PyData} (h : pairD n d = true) : ∃ p : List Int × Int, d = termD p ∧ (p.1.length : Int) = n ∧ (∀ v ∈ p.1, -1000 ≤ v ∧ v ≤ 1000) ∧ p.2 ≠ 0 := by
  cases d with
  | tuple ds =>
    match ds, h with
    | [d0, d1], h =>
      cases d0 with
      | tuple es =>
        have z : ((decide ((es.length : Int) = n) && es.all (fromD (-1000) 1000)) && (isIntD d1 && !decide (intD d1 = 0))) = true := h
        simp only [Bool.and_eq_true] at z
        obtain ⟨⟨h1, h2⟩, h3, h4⟩ := z
        obtain ⟨e, rfl, he⟩ := from_ints h2
        cases d1 with
        | int c =>
          refine ⟨(e, c), rfl, ?_, he, ?_⟩
          · have := of_decide_eq_true h1
            rw [List.length_map] at this
            exact this
          · have y : (!decide (c = 0)) = true := h4
            intro hc
            rw [decide_eq_true hc] at y
            cases y
        | none => cases h3
        | bool b => cases h3
        | str b => cases h3
        | list b => cases h3
        | tuple b => cases h3
        | dict b => cases h3
      | none => cases h
      | bool b => cases h
      | str b => cases h
      | list b => cases h
      | int b => cases h
      | dict b => cases h
    | [], h => cases h
    | [_], h => cases h
    | _ :: _ :: _ :: _, h => cases h
  | none => cases h
  | bool b => cases h
  | str b => cases h
  | list b => cases h
  | int b => cases h
  | dict b => cases h
theorem terms_of {n : Int} : ∀ {ds : List PyData}, ds.all (pairD n) = true → ∃ L : Poly, ds = L.map termD
  | [], _ => ⟨[], rfl⟩
  | d :: ds, h => by
    rw [List.all_cons, Bool.and_eq_true] at h
    obtain ⟨p, rfl, _⟩ := pair_data h.1
    obtain ⟨L, rfl⟩ := terms_of h.2
    exact ⟨p :: L, rfl⟩
theorem key_term (p : List Int × Int) : keyD (termD p) = p.1 := by
  show (p.1.map PyData.int).map intD = p.1
  rw [List.map_map]
  exact List.map_id _
theorem from_all {e : Mon} (h : ∀ v ∈ e, -1000 ≤ v ∧ v ≤ 1000) : (e.map PyData.int).all (fromD (-1000) 1000) = true := by
  rw [List.all_eq_true]
  intro d hd
  obtain ⟨v, hv, rfl⟩ := List.mem_map.mp hd
  show (decide (-1000 ≤ v) && decide (v ≤ 1000)) = true
  rw [decide_eq_true (h v hv).1, decide_eq_true (h v hv).2]; rfl
theorem pair_true {n : Nat} {p : List Int × Int} (h1 : p.1.length = n) (h2 : ∀ v ∈ p.1, -1000 ≤ v ∧ v ≤ 1000) (h3 : p.2 ≠ 0) : pairD n (termD p) = true := by
  show ((decide (((p.1.map PyData.int).length : Int) = n) && (p.1.map PyData.int).all (fromD (-1000) 1000)) && (true && !decide (p.2 = 0))) = true
  rw [from_all h2, List.length_map, h1, decide_eq_true rfl, decide_eq_false h3]; rfl
/-- a sum passes -/
theorem sum_true {n : Nat} {L : Poly} (c : Can n L) (f : Fits L) (z : L.length ≤ 500) : sumB n (sumD L) = true := by
  show (decide ((L.map termD).length ≤ 500) && ((L.map termD).all (pairD n) && ascD (L.map termD))) = true
  have h1 : (L.map termD).all (pairD n) = true := by
    rw [List.all_eq_true]
    intro d hd
    obtain ⟨p, hp, rfl⟩ := List.mem_map.mp hd
    exact pair_true (c.len p hp) (f p hp).2 (c.nz p hp)
  have h2 : ascD (L.map termD) = true := by
    unfold ascD
    rw [List.all_eq_true]
    intro b hb
    obtain ⟨i, hi, e⟩ := List.mem_iff_getElem.mp hb
    have hi' : i + 1 < L.length := by rw [List.length_zipWith, List.length_drop, List.length_map] at hi; omega
    have z := List.pairwise_iff_getElem.mp c.asc i (i + 1) (by omega) hi' (by omega)
    rw [List.getElem_zipWith, List.getElem_drop, List.getElem_map, List.getElem_map, key_term, key_term] at e
    have e2 : HT.lexLt L[i].1 L[i + 1].1 = b := by
      rw [← e]
      congr 2
      simp only [Nat.add_comm]
    show b = true
    rw [← e2]; exact z
  rw [h1, h2, List.length_map, decide_eq_true z]; rfl
section
variable {K : PySem.W.Frag} {H : Hp}
theorem ints_inv : ∀ {xs : List V} {a : Mon}, DpAll K H xs (a.map PyData.int) → xs = a.map V.int
  | [], [], _ => rfl
  | _ :: _, _ :: _, .cons h t => by cases h; rw [ints_inv t]; rfl
theorem term_inv {v : V} {p : List Int × Int} (h : Dp K H v (termD p)) : ∃ t q, v = .ref t ∧ SqT K H t [.ref q, .int p.2] ∧ SqT K H q (p.1.map V.int) := by
  cases h with
  | @tup t xs _ hs ha =>
  cases ha with
  | cons h0 h1 =>
  cases h1 with
  | cons h1 h2 =>
  cases h2
  cases h1
  cases h0 with
  | @tup q ys _ hq hy =>
  obtain rfl := ints_inv hy
  exact ⟨t, q, rfl, hs, hq⟩
end
/-- t[1:], as a tuple somewhere -/
def rTail (K : PySem.W.Frag) : V → Option Int → Option Int → Hp → VK → Prop := fun x lo hi H Q => ∃ a xs, x = .ref a ∧ SqT K H a xs ∧ lo = some 1 ∧ hi = none ∧ ∀ b H', Same H H' → SqT K H' b (xs.drop 1) → Q (.ref b) H'
theorem tail_cut (xs : List V) : cutV xs (some 1) none = xs.drop 1 ∧ (HT.sIx xs.length 0 (some 1) = 0 → xs.drop 1 = xs) := by
  have e : HT.sIx xs.length 0 (some 1) = min 1 xs.length := HT.sIx_nat xs.length 0 1
  constructor
  · unfold cutV
    rw [e, HT.sIx_none]
    cases xs with
    | nil => rfl
    | cons x r =>
      have m : min 1 (x :: r).length = 1 := by rw [List.length_cons]; omega
      rw [m, List.take_of_length_le (by rw [List.length_drop]; exact Nat.le_refl _)]
  · intro h
    rw [e] at h
    cases xs with
    | nil => rfl
    | cons x r => rw [List.length_cons] at h; omega
theorem sl_tail {X : Cx} {K : PySem.W.Frag} (hk : X.K = K := by rfl) : SlR X (rTail K) := by
  subst hk
  intro pins s σ H x v vl vu lo hi sl Q I rx hs pl pu h
  obtain ⟨a, xs, rfl, hx, rfl, rfl, q⟩ := h
  obtain ⟨t1, t2⟩ := tail_cut xs
  refine sl_tupA pins s σ H _ v vl vu _ _ sl Q I rx hs pl pu ⟨a, xs, rfl, hx, fun z => q a H (Same.refl H) (by rw [t2 z.1]; exact hx), fun _ p np => q p _ (same_upd np) (.inl (.inl (by rw [upd_same, t1])))⟩
section
variable {P : Program} {w : World} {K : PySem.W.Frag} {mg : Str → Option Value} {base : Heap}
def spIsSum (K : PySem.W.Frag) : Sp := fun vs H Q _ => ∃ (x : V) (d : PyData) (n : Int), vs = [.int n, x] ∧ n ≤ 1000 ∧ Dp K H x d ∧ ∀ H', Same H H' → Q (.bl (sumB n d)) H'
theorem op_ltK {X : Cx} {K : PySem.W.Frag} (hu : X.A.units < cLine) (hk : X.K = K := by rfl) : OpR X (compareOp .Lt) (rLtT K) := by
  subst hk
  exact op_ltT hu
theorem ok_sumq {f fP : Addr} {fd fdP : FuncData} (F : Fun K "is_sum_of" "is_sum_of" sIsSumOf f fd) (CP : Cal P w K mg base CX0 3 "is_pair" ["n", "value"] (spPair K) fP fdP)
    (mi : mg "isinstance" = none) (mt : mg "tuple" = none) (ml : mg "len" = none) (ma : mg "all" = none) (mz : mg "zip" = none) (gP : ∃ t, mg "MOST_PAIRS" = some (.int 500 t)) : FnOk P w K mg base CX0 4 f fd ["n", "value"] (spIsSum K) := by
  obtain ⟨tE, gP⟩ := gP
  refine F.ok scIsSumOf (fun vs H Q E h => ?_) (fun cdv A outer s H vs Q E hr h => ?_)
  · obtain ⟨x, d, n, rfl, _⟩ := h
    rfl
  · obtain ⟨x, d, n, rfl, hn, hd, q⟩ := h
    have nd := scIsSumOf.nd
    have hu := Nat.lt_of_succ_lt (hu_of hr)
    refine ⟨_, pss_cons (ps_if (PW.pt (pw_or (pt_not (pt_val (pe_callB call_isi (by rfl) mi PyProof.Rows.boot_isinstance (pa_cons (pv 1) (pa_cons (pe_bltn (v := .ty "tuple") (by rfl) mt PyProof.Rows.boot_tuple rfl) pa_nil)))))
        (pw_or (pt_cmpR op_gt (pe_callB call_len_seq (by rfl) ml PySem.boot_len (pa_cons (pv 1) pa_nil)) (pe_glob (v := .int 500) (by rfl) gP ⟨_, rfl⟩) (nomark _))
        (pw_or1 (pt_not (pt_val (pe_callB (cr_all rfl) (by rfl) ma PyProof.Rows.boot_all (pa_cons (pe_lc (own := [("pair", 2)]) (g := gName 2) (tt := tYes) rfl nd (pi_tup (pv 1))
          (blkOk_by (N := nIsSumOf) (sc := defScope sIsSumOf) (by decide +kernel)) (fun _ _ _ _ _ => pg_name (i := 2) nd rfl (.inl rfl)) (fun _ _ _ _ _ => pts_nil)
          (fun _ _ _ _ _ => by exact pe_call (E := fun _ _ _ => False) CP.ok hr (by rfl) CP.g CP.kp CP.b .nil pass0 (pa_cons (pv 0) (pa_cons (pv 2) pa_nil)))) pa_nil))))))))
          (pss_one (ps_ret pe_bl)) pss_nil)
      (pss_one (ps_ret (pe_callB (cr_all rfl) (by rfl) ma PyProof.Rows.boot_all (pa_cons (pe_lc (own := [("one", 3), ("other", 4)]) (g := gPair K 3 4) (tt := tYes) (te := tOp (rLtT K) (tOp (rIxT K) (tVar 3) (tC (.int 0))) (tOp (rIxT K) (tVar 4) (tC (.int 0)))) rfl nd
          (RZ.pi_zipA (by rfl) mz (pa_cons (pv 1) (pa_cons (pe_slice (sl_tail (K := K)) (pv 1) (po_some pe_int) po_none) pa_nil)))
          (blkOk_by (N := nIsSumOf) (sc := defScope sIsSumOf) (by decide +kernel)) (fun _ _ _ _ _ => pg_tup rfl (pgs_cons (pg_name (i := 3) nd rfl (.inl rfl)) (pgs_cons (pg_name (i := 4) nd rfl (.inl rfl)) pgs_nil))) (fun _ _ _ _ _ => pts_nil)
          (fun _ _ _ _ _ => pe_cmpR (op_ltK hu) (pe_ix ix_tupK (pv 3) pe_int (fun _ _ => rfl)) (pe_ix ix_tupK (pv 4) pe_int (fun _ _ => rfl)) (nomark _))) pa_nil)))), ?_⟩
    refine ⟨_, rfl, ?_⟩
    cases hd' : d with
    | none => subst hd'; refine ⟨x, .ty "tuple", _, _, _, rfl, .ty "tuple", ty_of hd, kit_ty (show kitB "NoneType" "tuple" = some false by decide +kernel), ?_⟩; exact ⟨_, rfl, ifT rfl (ifT rfl (q H (Same.refl H)))⟩
    | bool b => subst hd'; refine ⟨x, .ty "tuple", _, _, _, rfl, .ty "tuple", ty_of hd, kit_ty (show kitB "bool" "tuple" = some false by decide +kernel), ?_⟩; exact ⟨_, rfl, ifT rfl (ifT rfl (q H (Same.refl H)))⟩
    | int i => subst hd'; refine ⟨x, .ty "tuple", _, _, _, rfl, .ty "tuple", ty_of hd, kit_ty (show kitB "int" "tuple" = some false by decide +kernel), ?_⟩; exact ⟨_, rfl, ifT rfl (ifT rfl (q H (Same.refl H)))⟩
    | str z => subst hd'; refine ⟨x, .ty "tuple", _, _, _, rfl, .ty "tuple", ty_of hd, kit_ty (show kitB "str" "tuple" = some false by decide +kernel), ?_⟩; exact ⟨_, rfl, ifT rfl (ifT rfl (q H (Same.refl H)))⟩
    | list z => subst hd'; refine ⟨x, .ty "tuple", _, _, _, rfl, .ty "tuple", ty_of hd, kit_ty (show kitB "list" "tuple" = some false by decide +kernel), ?_⟩; exact ⟨_, rfl, ifT rfl (ifT rfl (q H (Same.refl H)))⟩
    | dict z => subst hd'; cases hd
    | tuple ds =>
      subst hd'
      refine ⟨x, .ty "tuple", _, _, _, rfl, .ty "tuple", ty_of hd, kit_ty (show kitB "tuple" "tuple" = some true by decide +kernel), ?_⟩
      refine ⟨_, rfl, ifF rfl ?_⟩
      cases hd with
      | @tup a xs _ hs ha =>
      have hl := dpAll_len ha
      have pd : sumB n (.tuple ds) = (decide (ds.length ≤ 500) && (ds.all (pairD n) && ascD ds)) := rfl
      refine ⟨_, rfl, a, xs, rfl, .inr hs, _, _, rfl, rfl, _, rfl, ?_⟩
      by_cases hz : ds.length ≤ 500
      rotate_left
      · refine ifT (decide_eq_true (by rw [hl]; omega)) (ifT rfl (by
          have z := q H (Same.refl H)
          rw [pd, decide_eq_false hz, Bool.false_and] at z
          exact z))
      refine ifF (decide_eq_false (by rw [hl]; omega)) ?_
      rw [decide_eq_true hz, Bool.true_and] at pd
      refine ⟨_, rfl, a, rfl, ⟨_, hs⟩, fun D nD => ?_⟩
      refine lc_it (walk_tup (K := K) (a := a) (xs := xs)) (fun i H1 => Same H H1 ∧ H1 D = some (.lst ((ds.take i).map fun d => V.bl (pairD n d)))) ⟨same_upd nD, upd_same⟩ (fun i H1 _ p => sqT_keep p.1 hs) (fun i v H1 H2 hi p y => ?_) (fun H1 p => ?_)
      · obtain ⟨rfl, ev⟩ := y
        obtain ⟨s1, e1⟩ := p
        obtain ⟨d, ed, hdd⟩ := dpAll_at ha ev
        refine ⟨rfl, _, rfl, _, rfl, v, d, n, rfl, hn, dp_keep s1 d _ hdd, fun H3 s3 => ⟨_, s3 _ _ e1, ?_, fun b o eb => ?_, ?_⟩⟩
        · rw [List.length_map, List.length_take]
          exact small (Nat.le_trans (Nat.min_le_right _ _) (by omega))
        · have bD : b ≠ D := fun z => by rw [z, nD] at eb; cases eb
          rw [upd_ne bD]
          exact s3 _ _ (s1 _ _ eb)
        · rw [upd_same, take_snoc ed, List.map_append]
          rfl
      · obtain ⟨s1, e1⟩ := p
        rw [hl, take_all] at e1
        have e2 : (ds.map fun d => V.bl (pairD n d)) = (ds.map (pairD n)).map V.bl := by rw [List.map_map]; rfl
        rw [e2] at e1
        refine ⟨D, _, rfl, .inl (.inl e1), _, rfl, ?_⟩
        have ea : (ds.map (pairD n)).all id = ds.all (pairD n) := by rw [List.all_map]; rfl
        rw [ea]
        cases hall : ds.all (pairD n) with
        | false =>
          have z := q H1 s1
          rw [pd, hall, Bool.false_and] at z
          exact ifT rfl z
        | true =>
          rw [hall, Bool.true_and] at pd
          refine ifF rfl ?_
          obtain ⟨L, rfl⟩ := terms_of hall
          have hs1 := sqT_keep s1 hs
          have ha1 := dpAll_keep s1 _ _ ha
          refine ⟨_, rfl, _, rfl, 1, rfl, a, xs, rfl, hs1, rfl, rfl, fun b H2 s2 hb => ?_⟩
          refine ⟨a, b, xs, xs.drop 1, rfl, .inr ⟨sqT_keep s2 hs1, hb, fun D2 nD2 => ?_⟩⟩
          have ha2 := dpAll_keep s2 _ _ ha1
          refine lc_it (walk_zipT (n := xs.length - 1) (by rw [List.length_drop]; omega)) (fun i H3 => Same H2 H3 ∧ H3 D2 = some (.lst ((((L.map termD).zipWith (fun p q => HT.lexLt (keyD p) (keyD q)) ((L.map termD).drop 1)).take i).map V.bl))) ⟨same_upd nD2, upd_same⟩
            (fun i H3 _ p => ⟨sqT_keep p.1 (sqT_keep s2 hs1), sqT_keep p.1 hb⟩) (fun i v H3 H4 hi p y => ?_) (fun H3 p => ?_)
          · obtain ⟨T, x1, x2, rfl, nT, rfl, g1, g2⟩ := y
            obtain ⟨s3, e3⟩ := p
            replace g1 : xs[i]? = some x1 := g1
            replace g2 : (xs.drop 1)[i]? = some x2 := g2
            rw [List.getElem?_drop] at g2
            obtain ⟨d1, ed1, h1⟩ := dpAll_at ha2 g1
            obtain ⟨d2, ed2, h2⟩ := dpAll_at ha2 g2
            rw [List.getElem?_map] at ed1 ed2
            obtain ⟨p1, el1, rfl⟩ : ∃ p1, L[i]? = some p1 ∧ d1 = termD p1 := by
              cases z : L[i]? with
              | none => rw [z] at ed1; cases ed1
              | some p => rw [z] at ed1; exact ⟨p, rfl, (Option.some.inj ed1).symm⟩
            obtain ⟨p2, el2, rfl⟩ : ∃ p2, L[1 + i]? = some p2 ∧ d2 = termD p2 := by
              cases z : L[1 + i]? with
              | none => rw [z] at ed2; cases ed2
              | some p => rw [z] at ed2; exact ⟨p, rfl, (Option.some.inj ed2).symm⟩
            obtain ⟨t1, q1, rfl, k1, m1⟩ := term_inv h1
            obtain ⟨t2, q2, rfl, k2, m2⟩ := term_inv h2
            have sT := s3.trans (same_upd (o := .tup [.ref t1, .ref t2]) nT)
            have nTD : D2 ≠ T := ne_of_none e3 nT
            refine ⟨T, [.ref t1, .ref t2], rfl, .inl (.inl upd_same), rfl, .ref t1, [.ref t2], rfl, .ref t2, [], rfl, rfl, rfl, ?_⟩
            refine ⟨_, rfl, t1, _, 0, _, rfl, rfl, sqT_keep sT k1, atI_nat (j := 0) rfl, _, rfl, t2, _, 0, _, rfl, rfl, sqT_keep sT k2, atI_nat (j := 0) rfl, q1, q2, p1.1, p2.1, rfl, rfl, sqT_keep sT m1, sqT_keep sT m2, _, by rw [upd_ne nTD]; exact e3, ?_, fun b o eb => ?_, ?_⟩
            · rw [List.length_map, List.length_take, List.length_zipWith]
              exact small (Nat.le_trans (Nat.min_le_right _ _) (Nat.le_trans (Nat.min_le_left _ _) (by omega)))
            · have bD : b ≠ D2 := fun z => by rw [z, nD2] at eb; cases eb
              rw [upd_ne bD]
              exact sT _ _ eb
            · have gz : ((L.map termD).zipWith (fun p q => HT.lexLt (keyD p) (keyD q)) ((L.map termD).drop 1))[i]? = some (HT.lexLt p1.1 p2.1) := by
                rw [List.getElem?_zipWith, List.getElem?_drop, List.getElem?_map, List.getElem?_map, el1, el2]
                show some (HT.lexLt (keyD (termD p1)) (keyD (termD p2))) = _
                rw [key_term, key_term]
              rw [upd_same, take_snoc gz, List.map_append]
              rfl
          · obtain ⟨s3, e3⟩ := p
            rw [List.take_of_length_le (by rw [List.length_zipWith, List.length_drop, hl]; omega)] at e3
            refine ⟨D2, _, rfl, .inl (.inl e3), ?_⟩
            have z := q H3 (s1.trans (s2.trans s3))
            rw [pd] at z
            exact z
end
end Dw
/-! is_sum, need_sum, need_sums, plus, times, over. -/
namespace Dw
open PySem PySem.Spec PyProof.Rows L2
/-- a sum of n names -/
structure Okk (n : Nat) (L : Poly) : Prop where
  can : Can n L
  fits : Fits L
  few : L.length ≤ 500
theorem Okk.b {n : Nat} {L : Poly} (h : Okk n L) : sumB n (sumD L) = true := sum_true h.can h.fits h.few
section
variable {P : Program} {w : World} {K : PySem.W.Frag} {mg : Str → Option Value} {base : Heap}
def spIsSumT (K : PySem.W.Frag) : Sp := fun vs H Q _ => ∃ (x : V) (d : PyData) (n : Int), vs = [.int n, x] ∧ 1 ≤ n ∧ n ≤ 6 ∧ Dp K H x d ∧ ∀ H', Same H H' → Q (.bl (sumB n d)) H'
theorem ok_issum {f fC fS : Addr} {fd fdC fdS : FuncData} (F : Fun K "is_sum" "is_sum" sIsSum f fd) (CC : Cal P w K mg base CX0 3 "need_count" ["value"] spCount fC fdC) (CS : Cal P w K mg base CX0 4 "is_sum_of" ["n", "value"] (spIsSum K) fS fdS) :
    FnOk P w K mg base CX0 5 f fd ["n", "value"] (spIsSumT K) := by
  refine F.ok scIsSum (fun vs H Q E h => ?_) (fun cdv A outer s H vs Q E hr h => ?_)
  · obtain ⟨x, d, n, rfl, _⟩ := h
    rfl
  · obtain ⟨x, d, n, rfl, h1, h2, hd, q⟩ := h
    have hr1 : Room 3 _ := hr.mono (by decide)
    refine ⟨_, pss_cons (ps_expr (pe_call (E := fun _ _ _ => False) CC.ok hr1 (by rfl) CC.g CC.kp CC.b .nil pass0 (pa_cons (pv 0) pa_nil)))
      (pss_one (ps_ret (pe_call (E := fun _ _ _ => False) CS.ok hr (by rfl) CS.g CS.kp CS.b .nil pass0 (pa_cons (pv 0) (pa_cons (pv 1) pa_nil))))), ?_⟩
    exact ⟨_, rfl, n, rfl, h1, h2, _, rfl, _, rfl, x, d, n, rfl, by omega, hd, q⟩
def spNeedSum : Sp := fun vs H Q _ => ∃ (a : Addr) (L : Poly) (n : Nat), vs = [.int n, .ref a] ∧ n ≤ 6 ∧ SumAt H a L ∧ Okk n L ∧ ∀ H', Same H H' → Q .non H'
theorem ok_need {f fS : Addr} {fd fdS : FuncData} (F : Fun K "need_sum" "need_sum" sNeedSum f fd) (CS : Cal P w K mg base CX0 4 "is_sum_of" ["n", "value"] (spIsSum K) fS fdS) : FnOk P w K mg base CX0 5 f fd ["n", "value"] spNeedSum := by
  refine F.ok scNeedSum (fun vs H Q E h => ?_) (fun cdv A outer s H vs Q E hr h => ?_)
  · obtain ⟨a, L, n, rfl, _⟩ := h
    rfl
  · obtain ⟨a, L, n, rfl, h2, ha, ok, q⟩ := h
    refine ⟨_, pss_one (ps_if (pt_not (pt_val (pe_call (E := fun _ _ _ => False) CS.ok hr (by rfl) CS.g CS.kp CS.b .nil pass0 (pa_cons (pv 0) (pa_cons (pv 1) pa_nil))))) (pss_one ps_never) pss_nil), ?_⟩
    exact ⟨_, rfl, _, rfl, _, sumD L, n, rfl, by omega, dp_sum ha, fun H' s => ⟨_, rfl, ifF (by rw [ok.b]; rfl) (q H' s)⟩⟩
def spNeeds : Sp := fun vs H Q _ => ∃ (a b : Addr) (L M : Poly) (n : Nat), vs = [.int n, .ref a, .ref b] ∧ 1 ≤ n ∧ n ≤ 6 ∧ SumAt H a L ∧ SumAt H b M ∧ Okk n L ∧ Okk n M ∧ ∀ H', Same H H' → Q .non H'
theorem ok_needs {f fC fS : Addr} {fd fdC fdS : FuncData} (F : Fun K "need_sums" "need_sums" sNeedSums f fd) (CC : Cal P w K mg base CX0 3 "need_count" ["value"] spCount fC fdC) (CS : Cal P w K mg base CX0 5 "need_sum" ["n", "value"] spNeedSum fS fdS) :
    FnOk P w K mg base CX0 6 f fd ["n", "one", "other"] spNeeds := by
  refine F.ok scNeedSums (fun vs H Q E h => ?_) (fun cdv A outer s H vs Q E hr h => ?_)
  · obtain ⟨a, b, L, M, n, rfl, _⟩ := h
    rfl
  · obtain ⟨a, b, L, M, n, rfl, h1, h2, ha, hb, oL, oM, q⟩ := h
    have hr1 : Room 3 _ := hr.mono (by decide)
    refine ⟨_, pss_cons (ps_expr (pe_call (E := fun _ _ _ => False) CC.ok hr1 (by rfl) CC.g CC.kp CC.b .nil pass0 (pa_cons (pv 0) pa_nil)))
      (pss_cons (ps_expr (pe_call (E := fun _ _ _ => False) CS.ok hr (by rfl) CS.g CS.kp CS.b .nil pass0 (pa_cons (pv 0) (pa_cons (pv 1) pa_nil))))
      (pss_one (ps_expr (pe_call (E := fun _ _ _ => False) CS.ok hr (by rfl) CS.g CS.kp CS.b .nil pass0 (pa_cons (pv 0) (pa_cons (pv 2) pa_nil)))))), ?_⟩
    exact ⟨_, rfl, n, rfl, by omega, by omega, _, rfl, _, rfl, a, L, n, rfl, h2, ha, oL, fun H1 s1 => ⟨_, rfl, _, rfl, b, M, n, rfl, h2, hb.keep s1, oM, fun H2 s2 => q H2 (s1.trans s2)⟩⟩
def spPlus : Sp := fun vs H Q _ => ∃ (a b : Addr) (L M : Poly) (n : Nat), vs = [.int n, .ref a, .ref b] ∧ 1 ≤ n ∧ n ≤ 6 ∧ SumAt H a L ∧ SumAt H b M ∧ Okk n L ∧ Okk n M ∧ L.length + M.length ≤ 500 ∧
  ∀ H' r S, Same H H' → SumOf (accum L M) S → SumAt H' r S → Q (.ref r) H'
theorem ok_plus {f fN fA : Addr} {fd fdN fdA : FuncData} (F : Fun K "plus" "plus" sPlus f fd) (CN : Cal P w K mg base CX0 6 "need_sums" ["n", "one", "other"] spNeeds fN fdN) (CA : Cal P w K mg base CX0 2 "added" ["one", "other"] spAdded fA fdA) :
    FnOk P w K mg base CX0 7 f fd ["n", "one", "other"] spPlus := by
  refine F.ok scPlus (fun vs H Q E h => ?_) (fun cdv A outer s H vs Q E hr h => ?_)
  · obtain ⟨a, b, L, M, n, rfl, _⟩ := h
    rfl
  · obtain ⟨a, b, L, M, n, rfl, h1, h2, ha, hb, oL, oM, hz, q⟩ := h
    have hr1 : Room 2 _ := hr.mono (by decide)
    refine ⟨_, pss_cons (ps_expr (pe_call (E := fun _ _ _ => False) CN.ok hr (by rfl) CN.g CN.kp CN.b .nil pass0 (pa_cons (pv 0) (pa_cons (pv 1) (pa_cons (pv 2) pa_nil)))))
      (pss_one (ps_ret (pe_call (E := fun _ _ _ => False) CA.ok hr1 (by rfl) CA.g CA.kp CA.b .nil pass0 (pa_cons (pv 1) (pa_cons (pv 2) pa_nil))))), ?_⟩
    exact ⟨_, rfl, _, rfl, _, rfl, a, b, L, M, n, rfl, h1, h2, ha, hb, oL, oM, fun H1 s1 => ⟨_, rfl, _, rfl, a, b, L, M, rfl, ha.keep s1, hb.keep s1, asc_keys oL.can.asc, hz, oL.fits, oM.fits, fun H2 r S s2 _ so hs => q H2 r S (s1.trans s2) so hs⟩⟩
def spTimes : Sp := fun vs H Q _ => ∃ (a b : Addr) (L M : Poly) (n : Nat), vs = [.int n, .ref a, .ref b] ∧ 1 ≤ n ∧ n ≤ 6 ∧ SumAt H a L ∧ SumAt H b M ∧ Okk n L ∧ Okk n M ∧ L.length * M.length ≤ 500 ∧ (∀ p ∈ M, -(2 ^ 64) < p.2 ∧ p.2 < 2 ^ 64) ∧ Fits (mulE L M) ∧
  ∀ H' r S, Same H H' → SumOf (accum [] (mulE L M)) S → SumAt H' r S → Q (.ref r) H'
theorem ok_times {f fN fA : Addr} {fd fdN fdA : FuncData} (F : Fun K "times" "times" sTimes f fd) (CN : Cal P w K mg base CX0 6 "need_sums" ["n", "one", "other"] spNeeds fN fdN) (CA : Cal P w K mg base CX0 2 "multiplied" ["one", "other"] spMult fA fdA) :
    FnOk P w K mg base CX0 7 f fd ["n", "one", "other"] spTimes := by
  refine F.ok scTimes (fun vs H Q E h => ?_) (fun cdv A outer s H vs Q E hr h => ?_)
  · obtain ⟨a, b, L, M, n, rfl, _⟩ := h
    rfl
  · obtain ⟨a, b, L, M, n, rfl, h1, h2, ha, hb, oL, oM, hz, cM, fT, q⟩ := h
    have hr1 : Room 2 _ := hr.mono (by decide)
    refine ⟨_, pss_cons (ps_expr (pe_call (E := fun _ _ _ => False) CN.ok hr (by rfl) CN.g CN.kp CN.b .nil pass0 (pa_cons (pv 0) (pa_cons (pv 1) (pa_cons (pv 2) pa_nil)))))
      (pss_one (ps_ret (pe_call (E := fun _ _ _ => False) CA.ok hr1 (by rfl) CA.g CA.kp CA.b .nil pass0 (pa_cons (pv 1) (pa_cons (pv 2) pa_nil))))), ?_⟩
    exact ⟨_, rfl, _, rfl, _, rfl, a, b, L, M, n, rfl, h1, h2, ha, hb, oL, oM, fun H1 s1 => ⟨_, rfl, _, rfl, a, b, L, M, n, rfl, ha.keep s1, hb.keep s1, oL.can.len, oM.can.len, by omega, hz, cM, fT, fun H2 r S s2 _ so hs => q H2 r S (s1.trans s2) so hs⟩⟩
def spOver (C : Addr) : Sp := fun vs H Q E => ∃ (a b : Addr) (one other : Poly) (n : Nat) (l : Int), vs = [.int n, .ref a, .ref b] ∧ SumAt H a one ∧ SumAt H b other ∧ 1 ≤ n ∧ n ≤ 3 ∧ Can n one ∧ Can n other ∧ other ≠ [] ∧ one.length ≤ 100 ∧ other.length ≤ 100 ∧ Within n l (l + 6) one ∧
  Within n (-100) 100 one ∧ Within n (-100) 100 other ∧ (∀ p ∈ other, -1000 ≤ p.2 ∧ p.2 ≤ 1000) ∧ (one = [] → ∀ H' r, Same H H' → SumAt H' r [] → Q (.ref r) H') ∧
  (one ≠ [] → DivFail n one other → ∀ H', Same H H' → E (.ref C) none H') ∧ (one ≠ [] → ∀ H' r S, Same H H' → DivOk n one other S → SumAt H' r S → Q (.ref r) H')
theorem okk_of {n : Nat} {L : Poly} (c : Can n L) (hn : n ≤ 10) (w : Within n (-100) 100 L) (z : L.length ≤ 100) : Okk n L := ⟨c, fits_of c.len hn (w.mono (by omega) (by omega)), by omega⟩
theorem ok_over {f fN fD C : Addr} {fd fdN fdD : FuncData} (F : Fun K "over" "over" sOver f fd) (CN : Cal P w K mg base CX0 6 "need_sums" ["n", "one", "other"] spNeeds fN fdN) (CD : Cal P w K mg base (L2N.CX P w) 3 "divided" ["one", "other"] (spDiv C) fD fdD) :
    FnOk P w K mg base (L2N.CX P w) 7 f fd ["n", "one", "other"] (spOver C) := by
  refine okN F scOver (fun vs H Q E h => ?_) (fun cdv A outer s H vs Q E hr h => ?_)
  · obtain ⟨a, b, one, other, n, l, rfl, _⟩ := h
    rfl
  · have hr1 : Room 3 _ := hr.mono (by decide)
    refine ⟨_, pss_cons (ps_expr (pe_call (E := fun _ _ _ => False) CN.ok hr (by rfl) CN.g CN.kp CN.b .nil pass0 (pa_cons (pv 0) (pa_cons (pv 1) (pa_cons (pv 2) pa_nil)))))
      (pss_cons (ps_if (pt_cmpR (op_eqD hr.units) (pv 2) pe_unit (nomark _)) (pss_one ps_never) pss_nil)
      (pss_one (ps_ret (pe_call (E := E) CD.ok hr1 (by rfl) CD.g CD.kp CD.b .nil (L2N.passes_call (L2N.takes_of rfl rfl rfl rfl) (fun _ _ _ _ h => h)) (pa_cons (pv 1) (pa_cons (pv 2) pa_nil)))))), ?_⟩
    obtain ⟨a, b, one, other, n, l, rfl, ha, hb, n1, n3, c1, c2, nO, z1, z2, w0, w1, w2, cO, kNil, kFail, kOk⟩ := h
    refine ⟨_, rfl, _, rfl, _, rfl, a, b, one, other, n, rfl, n1, by omega, ha, hb, okk_of c1 (by omega) w1 z1, okk_of c2 (by omega) w2 z2, fun H1 s1 => ?_⟩
    refine ⟨_, rfl, fun p o np op => ⟨sumD other, sumD [], dp_sum (hb.keep (s1.trans (same_upd np))), dp_sum (sum_nil op), sum_shaped _, sum_shaped _, _, rfl, ?_⟩⟩
    rw [eqv_sum]
    refine ifF (decide_eq_false nO) ?_
    have s2 := s1.trans (same_upd (o := .frz o (.tup [])) np)
    exact ⟨_, rfl, _, rfl, a, b, one, other, n, l, rfl, ha.keep s2, hb.keep s2, n1, n3, c1, c2, nO, z1, z2, w0, w1, w2, cO, fun e H' r s => kNil e H' r (s2.trans s), fun e z H' s => kFail e z H' (s2.trans s), fun e H' r S s => kOk e H' r S (s2.trans s)⟩
end
end Dw
/-! the law's draws. -/
namespace Dw
open PySem PySem.Spec PyProof.Rows L2
theorem sqL_at {K : PySem.W.Frag} {H H' : Hp} {a : Addr} {xs : List V} (s : ∀ x, H a = some x → H' a = some x) (h : SqL K H a xs) : SqL K H' a xs := by
  rcases h with (h | ⟨o, h⟩) | ⟨h, z⟩
  · exact .inl (.inl (s _ h))
  · exact .inl (.inr ⟨o, s _ h⟩)
  · exact .inr ⟨h, z⟩
theorem sqL_but {K : PySem.W.Frag} {H H' : Hp} {a r : Addr} {xs : List V} (s : But r H H') (n : a ≠ r) (h : SqL K H a xs) : SqL K H' a xs := sqL_at (fun x e => s _ _ n e) h
/-- the script stands, whatever is laid at r -/
def Scr (K : PySem.W.Frag) (a : Addr) (ns : List Int) (r : Addr) (H : Hp) : Prop := ∀ H', But r H H' → SqL K H' a (ns.map V.int)
theorem Scr.but {K : PySem.W.Frag} {a r : Addr} {ns : List Int} {H H1 : Hp} (h : Scr K a ns r H) (b : But r H H1) : Scr K a ns r H1 := fun H' b' => h H' (b.trans b')
theorem Scr.sq {K : PySem.W.Frag} {a r : Addr} {ns : List Int} {H : Hp} (h : Scr K a ns r H) : SqL K H a (ns.map V.int) := h H fun _ _ _ e => e
/-- the row of draws: the script, where, the seed, what is left -/
def RowOk (K : PySem.W.Frag) (a : Addr) (ns : List Int) (H : Hp) (r : Addr) : Prop := ∃ (k sd rs : Int), H r = some (.lst [.ref a, .int k, .int sd, .int rs]) ∧ Scr K a ns r H ∧ 0 ≤ k
theorem RowOk.lst {K : PySem.W.Frag} {a : Addr} {ns : List Int} {H : Hp} {r : Addr} (h : RowOk K a ns H r) : ∃ xs, H r = some (.lst xs) := let ⟨_, _, _, e, _⟩ := h; ⟨_, e⟩
theorem RowOk.move {K : PySem.W.Frag} {a : Addr} {ns : List Int} {H H1 H' : Hp} {r : Addr} (h1 : RowOk K a ns H1 r) (e : ∀ x, H1 r = some x → H' r = some x) (h : RowOk K a ns H r) (b : But r H H') : RowOk K a ns H' r := by
  obtain ⟨k, sd, rs, e1, _, hk⟩ := h1
  obtain ⟨_, _, _, _, hs, _⟩ := h
  exact ⟨k, sd, rs, e _ e1, hs.but b, hk⟩
theorem RowOk.keep {K : PySem.W.Frag} {a : Addr} {ns : List Int} {H H' : Hp} {r : Addr} (s : Same H H') (h : RowOk K a ns H r) : RowOk K a ns H' r := h.move (fun x e => s _ _ e) h (But.of s)
theorem RowOk.set {K : PySem.W.Frag} {H : Hp} {r a : Addr} {ns : List Int} {k sd rs : Int} (hs : Scr K a ns r H) (hk : 0 ≤ k) : RowOk K a ns (upd H r (.lst [.ref a, .int k, .int sd, .int rs])) r :=
  ⟨k, sd, rs, upd_same, hs.but but_upd, hk⟩
theorem scr_new {K : PySem.W.Frag} {H : Hp} {r a : Addr} {ns : List Int} (h : SqL K H a (ns.map V.int)) (nr : H r = none) : Scr K a ns r H := fun H' b => sqL_at (fun x e => b _ _ (ne_of_none e nr) e) h
theorem fmod_pos {x m : Int} (h : 0 < m) : 0 ≤ x.fmod m ∧ x.fmod m < m := ⟨Int.fmod_nonneg_of_pos x h, Int.fmod_lt_of_pos x h⟩
section
variable {P : Program} {w : World} {K : PySem.W.Frag} {mg : Str → Option Value} {base : Heap}
def spTaken (K : PySem.W.Frag) : Sp := fun vs H Q _ => ∃ (r : Addr) (m : Int) (a : Addr) (ns : List Int), vs = [.ref r, .int m] ∧ RowOk K a ns H r ∧ 1 ≤ m ∧ m ≤ 1000 ∧ ∀ H' x, But r H H' → RowOk K a ns H' r → 0 ≤ x → x < m → Q (.int x) H'
theorem ok_taken {f : Addr} {fd : FuncData} (F : Fun K "_law_taken" "_law_taken" sTaken f fd) (mi : mg "int" = none) (ml : mg "len" = none) : FnOk P w K mg base CX0 1 f fd ["_law_row", "_law_many"] (spTaken K) := by
  refine F.ok scTaken (fun vs H Q E h => ?_) (fun cdv A outer s H vs Q E hr h => ?_)
  · obtain ⟨r, m, a, ns, rfl, _⟩ := h
    rfl
  · have nd := scTaken.nd
    refine ⟨_, pss_cons (ps_if (pt_cmpR op_gt (pe_ix ix_list (pv 0) pe_int (fun _ _ => rfl)) pe_int (nomark _))
        (pss_cons (ps_set (i := 2) nd rfl (.inl rfl) (pe_op op_modN (pe_callTy call_int1 (by rfl) mi PyProof.Rows.boot_int (pa_cons (pe_ix ix_list (pv 0) pe_int (fun _ _ => rfl)) pa_nil)) (pv 1)))
        (pss_cons (ps_asg (pe_op op_fdivN (pe_ix ix_list (pv 0) pe_int (fun _ _ => rfl)) (pv 1)) (pg_sub (pv 0) pe_int set_list))
        (pss_one (ps_ret (pv 2))))) pss_nil)
      (pss_cons (ps_asg (pe_op op_add (pe_ix ix_list (pv 0) pe_int (fun _ _ => rfl)) pe_int) (pg_sub (pv 0) pe_int set_list))
      (pss_cons (ps_if (pt_cmpR op_gt (pe_ix ix_list (pv 0) pe_int (fun _ _ => rfl)) (pe_callB call_len_seq (by rfl) ml PySem.boot_len (pa_cons (pe_ix ix_list (pv 0) pe_int (fun _ _ => rfl)) pa_nil)) (nomark _))
        (pss_cons (ps_asg (pe_op op_modN (pe_callTy call_int1 (by rfl) mi PyProof.Rows.boot_int (pa_cons (pe_op op_add (pe_op op_mul (pe_ix ix_list (pv 0) pe_int (fun _ _ => rfl)) pe_int) pe_int) pa_nil)) pe_int) (pg_sub (pv 0) pe_int set_list))
        (pss_one (ps_ret (pe_op op_modN (pe_callTy call_int1 (by rfl) mi PyProof.Rows.boot_int (pa_cons (pe_op op_fdivN (pe_ix ix_list (pv 0) pe_int (fun _ _ => rfl)) pe_int) pa_nil)) (pv 1))))) pss_nil)
      (pss_cons (ps_set (i := 3) nd rfl (.inl rfl) (pe_ix ix_list (pe_ix ix_list (pv 0) pe_int (fun _ _ => rfl)) (pe_op op_sub (pe_ix ix_list (pv 0) pe_int (fun _ _ => rfl)) pe_int) (fun _ _ => rfl)))
      (pss_cons (ps_asg (pe_op op_modN (pe_callTy call_int1 (by rfl) mi PyProof.Rows.boot_int (pa_cons (pe_op op_add (pe_op op_add (pe_op op_mul (pe_ix ix_list (pv 0) pe_int (fun _ _ => rfl)) pe_int) (pv 3)) pe_int) pa_nil)) pe_int) (pg_sub (pv 0) pe_int set_list))
      (pss_cons (ps_if (pt_cmpR op_ge (pv 3) (pe_op op_pow pe_int pe_int) (nomark _)) (pss_one (ps_asg (pe_op op_fdivN (pv 3) (pv 1)) (pg_sub (pv 0) pe_int set_list))) pss_nil)
      (pss_one (ps_ret (pe_op op_modN (pe_callTy call_int1 (by rfl) mi PyProof.Rows.boot_int (pa_cons (pv 3) pa_nil)) (pv 1))))))))), ?_⟩
    obtain ⟨r, m, a, ns, rfl, ⟨k, sd, rs, er, hs, hk⟩, m1, m2, q⟩ := h
    have m0 : m ≠ 0 := by omega
    have mb : m.natAbs < 1073741824 := by omega
    have fin : ∀ H' x, But r H H' → RowOk K a ns H' r → Q (.int (Int.fmod x m)) H' := fun H' x b ro => q H' _ b ro (fmod_pos (by omega)).1 (fmod_pos (by omega)).2
    refine ⟨_, rfl, r, _, 3, _, rfl, rfl, .inl (.inl er), atI_nat (j := 3) rfl, rs, 0, rfl, rfl, _, rfl, ite2 (fun _ => ?_) (fun _ => ?_)⟩
    · refine ⟨_, rfl, r, _, 3, _, rfl, rfl, .inl (.inl er), atI_nat (j := 3) rfl, .inl ⟨rs, rfl, _, rfl, rs, m, rfl, rfl, m0, ?_⟩⟩
      refine ⟨_, rfl, r, _, 3, _, rfl, rfl, .inl (.inl er), atI_nat (j := 3) rfl, _, rfl, rs, m, rfl, rfl, ⟨m0, mb⟩, ?_⟩
      refine ⟨_, rfl, r, _, 3, 3, rfl, rfl, er, rfl, ?_⟩
      exact ⟨_, rfl, fin _ rs but_upd (RowOk.set hs hk)⟩
    · refine ⟨_, rfl, r, _, 1, _, rfl, rfl, .inl (.inl er), atI_nat (j := 1) rfl, k, 1, rfl, rfl, ?_⟩
      refine ⟨_, rfl, r, _, 1, 1, rfl, rfl, er, rfl, ?_⟩
      show tSeq _ _ _ _ (upd H r (.lst [.ref a, .int (k + 1), .int sd, .int rs]))
      have b1 : But r H (upd H r (.lst [.ref a, .int (k + 1), .int sd, .int rs])) := but_upd
      have e1 : upd H r (.lst [.ref a, .int (k + 1), .int sd, .int rs]) r = some (.lst [.ref a, .int (k + 1), .int sd, .int rs]) := upd_same
      have hs1 := hs.but b1
      generalize upd H r (.lst [.ref a, .int (k + 1), .int sd, .int rs]) = H1 at b1 e1 hs1
      refine ⟨_, rfl, r, _, 1, _, rfl, rfl, .inl (.inl e1), atI_nat (j := 1) rfl, _, rfl, r, _, 0, _, rfl, rfl, .inl (.inl e1), atI_nat (j := 0) rfl, a, _, rfl, .inl hs1.sq, k + 1, _, rfl, rfl, _, rfl, ite2 (fun _ => ?_) (fun hlt => ?_)⟩
      · refine ⟨_, rfl, r, _, 2, _, rfl, rfl, .inl (.inl e1), atI_nat (j := 2) rfl, sd, 48271, rfl, rfl, .inr ⟨by decide, by decide⟩, _, 11, rfl, rfl, .inl ⟨_, rfl, _, 2147483647, rfl, rfl, (show (2147483647 : Int) ≠ 0 by decide), ?_⟩⟩
        refine ⟨_, rfl, r, _, 2, 2, rfl, rfl, e1, rfl, ?_⟩
        refine ⟨_, rfl, r, _, 2, _, rfl, rfl, .inl (.inl upd_same), atI_nat (j := 2) rfl, _, 7, rfl, rfl, ⟨by decide, by decide⟩, .inl ⟨_, rfl, _, rfl, _, m, rfl, rfl, m0, ?_⟩⟩
        exact fin _ _ (b1.trans but_upd) (RowOk.set hs1 (by omega))
      · have hlt' : ¬ ((ns.map V.int).length : Int) < k + 1 := fun z => hlt (decide_eq_true z)
        rw [List.length_map] at hlt'
        obtain ⟨j, rfl⟩ : ∃ j : Nat, k = j := ⟨k.toNat, by omega⟩
        have hj : j < ns.length := by omega
        refine ⟨_, rfl, r, _, 0, _, rfl, rfl, .inl (.inl e1), atI_nat (j := 0) rfl, _, rfl, r, _, 1, _, rfl, rfl, .inl (.inl e1), atI_nat (j := 1) rfl, (j : Int) + 1, 1, rfl, rfl, ?_⟩
        refine ⟨a, ns.map V.int, (j : Int) + 1 - 1, .int ns[j], rfl, rfl, hs1.sq, by rw [show (j : Int) + 1 - 1 = j by omega]; exact atI_nat (by rw [List.getElem?_map, List.getElem?_eq_getElem hj]; rfl), ?_⟩
        refine ⟨_, rfl, r, _, 2, _, rfl, rfl, .inl (.inl e1), atI_nat (j := 2) rfl, sd, 48271, rfl, rfl, .inr ⟨by decide, by decide⟩, _, rfl, _, ns[j], rfl, rfl, _, 11, rfl, rfl, .inl ⟨_, rfl, _, 2147483647, rfl, rfl, (show (2147483647 : Int) ≠ 0 by decide), ?_⟩⟩
        refine ⟨_, rfl, r, _, 2, 2, rfl, rfl, e1, rfl, ?_⟩
        show tSeq _ _ _ _ (upd H1 r (.lst [.ref a, .int ((j : Int) + 1), .int ((sd * 48271 + ns[j] + 11).fmod 2147483647), .int rs]))
        have b2 : But r H1 (upd H1 r (.lst [.ref a, .int ((j : Int) + 1), .int ((sd * 48271 + ns[j] + 11).fmod 2147483647), .int rs])) := but_upd
        have e2 : upd H1 r (.lst [.ref a, .int ((j : Int) + 1), .int ((sd * 48271 + ns[j] + 11).fmod 2147483647), .int rs]) r = some (.lst [.ref a, .int ((j : Int) + 1), .int ((sd * 48271 + ns[j] + 11).fmod 2147483647), .int rs]) := upd_same
        have hs2 := hs1.but b2
        generalize upd H1 r (.lst [.ref a, .int ((j : Int) + 1), .int ((sd * 48271 + ns[j] + 11).fmod 2147483647), .int rs]) = H2 at b2 e2 hs2
        refine ⟨_, rfl, 10, 18, rfl, rfl, ⟨by decide, by decide, by decide⟩, ns[j], _, rfl, rfl, _, rfl, ite2 (fun _ => ?_) (fun _ => ?_)⟩
        · refine ⟨_, rfl, _, rfl, ns[j], m, rfl, rfl, ⟨m0, mb⟩, ?_⟩
          refine ⟨_, rfl, r, _, 3, 3, rfl, rfl, e2, rfl, ?_⟩
          refine ⟨_, rfl, .inl ⟨ns[j], rfl, _, rfl, ns[j], m, rfl, rfl, m0, ?_⟩⟩
          exact fin _ _ ((b1.trans b2).trans but_upd) (RowOk.set hs2 (by omega))
        · refine ⟨_, rfl, .inl ⟨ns[j], rfl, _, rfl, ns[j], m, rfl, rfl, m0, ?_⟩⟩
          exact fin _ _ (b1.trans b2) ⟨_, _, rs, e2, hs2, by omega⟩
end
end Dw
/-! the law's pick, the law's sum. -/
namespace Dw
open PySem PySem.Spec PyProof.Rows L2
section
variable {P : Program} {w : World} {K : PySem.W.Frag} {mg : Str → Option Value} {base : Heap}
def spPick (K : PySem.W.Frag) : Sp := fun vs H Q _ => ∃ (r t : Addr) (xs : List V) (a : Addr) (ns : List Int), vs = [.ref r, .ref t] ∧ RowOk K a ns H r ∧ SqL K H t xs ∧ t ≠ r ∧ xs ≠ [] ∧ xs.length ≤ 1000 ∧ ∀ H' (i : Nat) v, But r H H' → RowOk K a ns H' r → xs[i]? = some v → Q v H'
theorem ok_pick {f fT : Addr} {fd fdT : FuncData} (F : Fun K "_law_pick" "_law_pick" sPick f fd) (CT : Cal P w K mg base CX0 1 "_law_taken" ["_law_row", "_law_many"] (spTaken K) fT fdT) (ml : mg "len" = none) :
    FnOk P w K mg base CX0 2 f fd ["_law_row", "_law_things"] (spPick K) := by
  refine F.ok scPick (fun vs H Q E h => ?_) (fun cdv A outer s H vs Q E hr h => ?_)
  · obtain ⟨r, t, xs, a, ns, rfl, _⟩ := h
    rfl
  · obtain ⟨r, t, xs, a, ns, rfl, ro, ht, nt, nx, lx, q⟩ := h
    refine ⟨_, pss_one (ps_ret (pe_ix ix_list (pv 1) (pe_call (E := fun _ _ _ => False) CT.ok hr (by rfl) CT.g CT.kp CT.b .nil pass0 (pa_cons (pv 0) (pa_cons (pe_callB call_len_seq (by rfl) ml PySem.boot_len (pa_cons (pv 1) pa_nil)) pa_nil))) (fun _ _ => rfl))), ?_⟩
    have lp : 0 < xs.length := List.length_pos_iff.mpr nx
    refine ⟨_, rfl, _, rfl, _, rfl, t, xs, rfl, .inl ht, r, _, a, ns, rfl, ro, by omega, by omega, fun H' x b ro' h1 h2 => ?_⟩
    obtain ⟨j, rfl⟩ : ∃ j : Nat, x = j := ⟨x.toNat, by omega⟩
    have hj : j < xs.length := by omega
    exact ⟨t, xs, _, xs[j], rfl, rfl, sqL_but b nt ht, atI_nat (List.getElem?_eq_getElem hj), q H' j _ b ro' (List.getElem?_eq_getElem hj)⟩
/-- the drawn table -/
structure Drawn (n : Nat) (low : Int) (i : Nat) (T : Poly) : Prop where
  keys : Keys T
  len : ∀ p ∈ T, p.1.length = n
  few : T.length ≤ i
  within : ∀ p ∈ T, ∀ v ∈ p.1, -low ≤ v ∧ v ≤ 3 - low
  cs : ∀ p ∈ T, -7 * (i : Int) ≤ p.2 ∧ p.2 ≤ 7 * (i : Int)
theorem Drawn.put {n : Nat} {low : Int} {i : Nat} {T : Poly} (h : Drawn n low i T) {e : Mon} (le : e.length = n) (we : ∀ v ∈ e, -low ≤ v ∧ v ≤ 3 - low) {c : Int} (c1 : -3 ≤ c) (c2 : c ≤ 7) : Drawn n low (i + 1) (putI T e ((lookI T e).getD 0 + c)) := by
  have hc : -7 * (i : Int) ≤ (lookI T e).getD 0 ∧ (lookI T e).getD 0 ≤ 7 * (i : Int) := by
    cases z : lookI T e with
    | none => show -7 * (i : Int) ≤ 0 ∧ 0 ≤ 7 * (i : Int); omega
    | some m => exact h.cs _ (lookI_mem z)
  refine ⟨putI_keys h.keys _ _, fun p hp => ?_, Nat.le_trans (putI_length _ _ _) (by have := h.few; omega), fun p hp => ?_, fun p hp => ?_⟩
  · rcases putI_mem hp with hp | rfl
    · exact h.len p hp
    · exact le
  · rcases putI_mem hp with hp | rfl
    · exact h.within p hp
    · exact we
  · rcases putI_mem hp with hp | rfl
    · have := h.cs p hp
      omega
    · show -7 * ((i + 1 : Nat) : Int) ≤ (lookI T e).getD 0 + c ∧ (lookI T e).getD 0 + c ≤ 7 * ((i + 1 : Nat) : Int)
      omega
def spLSum (K : PySem.W.Frag) : Sp := fun vs H Q _ => ∃ (r : Addr) (n : Nat) (most : Nat) (low : Int) (a : Addr) (ns : List Int), vs = [.ref r, .int n, .int most, .int low] ∧ RowOk K a ns H r ∧ 1 ≤ n ∧ n ≤ 3 ∧ most ≤ 5 ∧ 0 ≤ low ∧ low ≤ 2 ∧
  ∀ H' t S, But r H H' → RowOk K a ns H' r → Can n S → S.length ≤ most → Within n (-low) (3 - low) S → (∀ p ∈ S, -1000 ≤ p.2 ∧ p.2 ≤ 1000) → SumAt H' t S → Q (.ref t) H'
theorem ok_lsum {f fT fP : Addr} {fd fdT fdP : FuncData} (F : Fun K "_law_sum" "_law_sum" sLawSum f fd) (CT : Cal P w K mg base CX0 1 "_law_taken" ["_law_row", "_law_many"] (spTaken K) fT fdT) (CP : Cal P w K mg base CX0 2 "_law_pick" ["_law_row", "_law_things"] (spPick K) fP fdP)
    (mr : mg "range" = none) (mt : mg "tuple" = none) (ms : mg "sorted" = none) : FnOk P w K mg base CX0 3 f fd ["_law_row", "_law_n", "_law_most", "_law_low"] (spLSum K) := by
  refine F.ok scLawSum (fun vs H Q E h => ?_) (fun cdv A outer s H vs Q E hr h => ?_)
  · obtain ⟨r, n, most, low, a, ns, rfl, _⟩ := h
    rfl
  · obtain ⟨r, n, most, low, a, ns, rfl, ro, n1, n3, m5, l0, l2, q⟩ := h
    have nd := scLawSum.nd
    have hu := hu_of hr
    have hu2 : (A.deeper (envOfC (Str.ofString "_law_sum") (defScope sLawSum) s.heap.objs.size f cdv)).units + 2 < cLine := by have := hr.un; omega
    have hr1 : Room 1 _ := hr.mono (by decide)
    refine ⟨_, pss_cons (ps_set (i := 4) nd rfl (.inr rfl) pe_dnewT)
      (pss_cons (ps_for PassesOwn.never rfl (pi_range1 (by rfl) mr (pa_cons (pe_call (E := fun _ _ _ => False) CT.ok hr1 (by rfl) CT.g CT.kp CT.b .nil pass0 (pa_cons (pv 0) (pa_cons (pe_op op_add (pv 2) pe_int) pa_nil))) pa_nil)) (pg_name (i := 5) nd rfl (.inl rfl))
        (pss_cons (ps_set (i := 6) nd rfl (.inl rfl) (pe_callTy call_tupA (by rfl) mt PyProof.Rows.boot_tuple (pa_cons (pe_lc (own := [("_law_x", 8)]) (g := gName 8) (tt := tYes) rfl nd (pi_range1 (by rfl) mr (pa_cons (pv 1) pa_nil))
            (blkOk_by (N := nLawSum) (sc := defScope sLawSum) (by decide +kernel)) (fun _ _ _ _ _ => pg_name (i := 8) nd rfl (.inl rfl)) (fun _ _ _ _ _ => pts_nil)
            (fun _ _ _ _ _ => by exact pe_op op_sub (pe_call (E := fun _ _ _ => False) CT.ok hr1 (by rfl) CT.g CT.kp CT.b .nil pass0 (pa_cons (pv 0) (pa_cons pe_int pa_nil))) (pv 3))) pa_nil)))
        (pss_cons (ps_set (i := 7) nd rfl (.inl rfl) (pe_op op_add (pe_dget2 hu (pv 4) (pv 6) pe_int ⟨rfl, rfl, rfl, rfl⟩)
            (pe_call (E := fun _ _ _ => False) CP.ok hr (by rfl) CP.g CP.kp CP.b .nil pass0 (pa_cons (pv 0) (pa_cons (pe_lst (pa_cons pe_int (pa_cons pe_int (pa_cons pe_int (pa_cons (pe_op op_sub pe_int pe_int) (pa_cons (pe_op op_sub pe_int pe_int) (pa_cons pe_int pa_nil))))))) pa_nil)))))
        (pss_one (ps_dput hu (pv 4) (pv 6) (pv 7) rfl)))))
      (pss_one (ps_ret (pe_callTy cr_tupF (by rfl) mt PyProof.Rows.boot_tuple (pa_cons (pe_callB (cr_sortQ hu2) (by rfl) ms PyProof.Rows.boot_sorted (pa_cons
        (pe_lock (pe_lc (own := [("_law_powers", 6)]) (g := gName 6) rfl nd (pi_keys (pv 4)) (blkOk_by (N := nLawSum) (sc := defScope sLawSum) (by decide +kernel)) (fun _ _ _ _ _ => pg_name (i := 6) nd rfl (.inl rfl))
          (fun _ _ _ _ _ => pts_one (pt_cmpR op_ne (by exact pe_dget hu (pv 4) (pv 6) (fun _ _ => rfl)) pe_int (nomark _))) (fun _ _ _ _ _ => pe_tup (pa_cons (pv 6) (pa_cons (by exact pe_dget hu (pv 4) (pv 6) (fun _ _ => rfl)) pa_nil))))) pa_nil)) pa_nil))))), ?_⟩
    intro d nD
    have s0 := same_upd (o := .dT []) nD
    obtain ⟨rl, erl⟩ := ro.lst
    have rd : r ≠ d := ne_of_none erl nD
    have ed0 : upd H d (.dT []) d = some (.dT (enc [])) := upd_same
    refine ⟨_, rfl, _, rfl, most, 1, rfl, rfl, r, _, a, ns, rfl, ro.keep s0, by omega, by omega, fun H1 j b1 ro1 j0 j1 => ?_⟩
    obtain ⟨J, rfl⟩ : ∃ J : Nat, j = J := ⟨j.toNat, by omega⟩
    have hJ : J ≤ most := by omega
    have ed1 := b1 _ _ rd.symm ed0
    refine ⟨_, rfl, by omega, by omega, ?_⟩
    rw [Int.toNat_natCast]
    have kb : ∀ {H'}, But2 r d H1 H' → But r H H' := fun s q x n e => s _ _ n (ne_of_none e nD) (b1 _ _ n (s0 _ _ e))
    refine for_it (walk_range (lo := 0) (n := J)) (fun i σ H' => ∃ T y5 y6 y7 y8, σ = [some (.ref r), some (.int n), some (.int most), some (.int low), some (.ref d), y5, y6, y7, y8] ∧ But2 r d H1 H' ∧ RowOk K a ns H' r ∧ H' d = some (.dT (enc T)) ∧ Drawn n low i T)
      ⟨[], _, _, _, _, rfl, (fun _ _ _ _ e => e), ro1, ed1, ⟨List.nodup_nil, fun p h => (nomatch h), Nat.le_refl _, fun p h => (nomatch h), fun p h => (nomatch h)⟩⟩ (fun _ _ _ _ _ => trivial) (fun i x σ H2 H3 hi p y => ?_) (fun σ H' p => ?_)
    · obtain ⟨rfl, rfl⟩ := y
      obtain ⟨T, y5, y6, y7, y8, rfl, b2, ro2, ed2, dr⟩ := p
      have hTz : T.length ≤ 5 := by have := dr.few; omega
      refine ⟨_, rfl, _, rfl, by omega, by omega, fun D nDD => ?_⟩
      rw [Int.toNat_natCast]
      obtain ⟨rl2, erl2⟩ := ro2.lst
      have rD : r ≠ D := ne_of_none erl2 nDD
      refine lc_it (walk_range (lo := 0) (n := n)) (fun x H4 => But r H3 H4 ∧ RowOk K a ns H4 r ∧ ∃ e : Mon, H4 D = some (.lst (e.map V.int)) ∧ e.length = x ∧ ∀ v ∈ e, -low ≤ v ∧ v ≤ 3 - low)
        ⟨But.of (same_upd nDD), ro2.keep (same_upd nDD), [], upd_same, rfl, fun v h => nomatch h⟩ (fun _ _ _ _ => trivial) (fun x v H4 H5 hx p y => ?_) (fun H4 p => ?_)
      · obtain ⟨rfl, rfl⟩ := y
        obtain ⟨b4, ro4, e, eD, le, we⟩ := p
        refine ⟨rfl, _, rfl, r, 4, a, ns, rfl, ro4, by decide, by decide, fun H6 z b6 ro6 z0 z1 => ?_⟩
        have eD6 := b6 _ _ rD.symm eD
        have b7 : But r H3 (upd H6 D (.lst (e.map V.int ++ [.int (z - low)]))) := fun q x nq eq => by
          have qD : q ≠ D := fun z => by rw [z, nDD] at eq; cases eq
          rw [upd_ne qD]
          exact b6 _ _ nq (b4 _ _ nq eq)
        refine ⟨_, rfl, z, low, rfl, rfl, _, eD6, ?_, b7, ro6.move (fun x e => by rw [upd_ne rD]; exact e) ro2 b7, e ++ [z - low], ?_, by rw [List.length_append, le]; rfl, fun v hv => ?_⟩
        · rw [List.length_map, le]
          exact small (by omega)
        · rw [upd_same, List.map_append]
          rfl
        · rcases List.mem_append.mp hv with hv | hv
          · exact we v hv
          · rw [List.mem_singleton.mp hv]; omega
      · obtain ⟨b4, ro4, e, eD, le, we⟩ := p
        refine ⟨D, _, rfl, .inl ⟨.inl (.inl eD), fun q6 nq6 => ?_⟩⟩
        have s5 := same_upd (o := .tup (e.map V.int)) nq6
        have ro5 := ro4.keep s5
        have b5 : But2 r d H1 (upd H4 q6 (.tup (e.map V.int))) := b2.trans (But2.left (b4.trans (But.of s5)))
        have ed5 := s5 _ _ (b4 _ _ rd.symm ed2)
        have eq5 : TupI (upd H4 q6 (.tup (e.map V.int))) q6 e := upd_same
        have b45 : But r H3 (upd H4 q6 (.tup (e.map V.int))) := b4.trans (But.of s5)
        generalize upd H4 q6 (.tup (e.map V.int)) = H5 at *
        have eq5k : H5 q6 = some (.tup ((ik e).map kV)) := by rw [ik_V]; exact eq5
        refine ⟨_, rfl, d, rfl, .inr ⟨_, .inl ed5⟩, _, rfl, _, DGet.t ed5 eq5k, ?_⟩
        refine ⟨_, rfl, 0, 1, rfl, rfl, 0, 3, rfl, rfl, small' (show 6 ≤ 1000 by decide), fun t6 nt6 => ?_⟩
        have s6 := same_upd (o := .lst [.int 1, .int 1, .int 2, .int (0 - 1), .int (0 - 3), .int 7]) nt6
        obtain ⟨rl5, erl5⟩ := ro5.lst
        refine ⟨r, t6, [.int 1, .int 1, .int 2, .int (0 - 1), .int (0 - 3), .int 7], a, ns, rfl, ro5.keep s6, .inl (.inl upd_same), (ne_of_none erl5 nt6).symm, (fun z => nomatch z), show 6 ≤ 1000 by decide, fun H7 k v b7 ro7 ev => ?_⟩
        obtain ⟨c, rfl, c1, c2⟩ : ∃ c, v = .int c ∧ -3 ≤ c ∧ c ≤ 7 := by
          have hm := List.mem_of_getElem? ev
          simp only [List.mem_cons, List.not_mem_nil, or_false] at hm
          rcases hm with h | h | h | h | h | h <;> exact ⟨_, h, by decide, by decide⟩
        have ed7 := b7 _ _ rd.symm (s6 _ _ ed5)
        have nq6 : q6 ≠ r := fun z => by rw [z, erl5] at eq5k; cases eq5k
        have eq7 := b7 _ _ nq6 (s6 _ _ eq5k)
        refine ⟨(lookI T e).getD 0, c, by rw [val_enc]; exact get_getD _, rfl, ?_⟩
        refine ⟨_, rfl, _, rfl, _, rfl, d, _, rfl, DPut.t ed7 eq7 (by rw [enc_length]; exact small (by omega)), ?_⟩
        rw [put_enc]
        have b8 : But2 r d H1 (upd H7 d (.dT (enc (putI T e ((lookI T e).getD 0 + c))))) := fun q x h1 h2 z => by
          rw [upd_ne h2]
          exact b7 _ _ h1 (s6 _ _ (b5 _ _ h1 h2 z))
        exact ⟨putI T e ((lookI T e).getD 0 + c), _, _, _, _, rfl, b8, ro7.move (fun x e => by rw [upd_ne rd]; exact e) ro (kb b8), upd_same, dr.put le we c1 c2⟩
    · obtain ⟨T, y5, y6, y7, y8, rfl, b2, ro2, ed2, dr⟩ := p
      refine sort_dict (c := 4) (p := 6) (d := d) (by decide) rfl (show 6 < 9 by decide) ed2 dr.keys (by have := dr.few; omega) (fun H5 t S s5 nt so hs => ?_)
      have w1 : Within n (-low) (3 - low) T := fun p hp x hx => dr.within p hp _ (List.mem_of_getElem? (getD_get (by rw [dr.len p hp]; exact hx)))
      exact q H5 t S ((kb b2).trans (But.of s5)) (ro2.keep s5) (so.can dr.len) (Nat.le_trans so.length (by have := dr.few; omega)) (w1.sum so) (fun p hp => by
        have := dr.cs p (so.key hp)
        omega) hs
end
end Dw
/-! the law's comparison: data alike are told alike. -/
namespace Dw
open PySem PySem.Spec PyProof.Rows L2
def Lev : Nat → PyData → Prop
  | 0, _ => False
  | k + 1, d => (∃ i, d = .int i) ∨ ∃ ds : List PyData, (d = .tuple ds ∨ d = .list ds) ∧ ds.length ≤ 1000 ∧ ∀ e ∈ ds, Lev k e
theorem kitTL {K : PySem.W.Frag} {a : String} {b c r : Bool} (h1 : kitB a "tuple" = some b) (h2 : kitB a "list" = some c) (hr : (b || c) = r) : PySem.W.kitAny K (.type a) [.type "tuple", .type "list"] = some r := by
  refine kitAny_cons (kit_ty h1) (fun hb => ?_) (fun hb => ?_)
  · refine kitAny_cons (kit_ty h2) (fun hc => ?_) (fun hc => ?_)
    · rw [← hr, hb, hc]; rfl
    · rw [← hr, hc, hb]; rfl
  · rw [← hr, hb]; rfl
theorem ix_seqK {X : Cx} {K : PySem.W.Frag} (h : X.K = K := by rfl) : IxR X (rIx K) := by
  subst h
  exact ix_seq
section
variable {P : Program} {w : World} {K : PySem.W.Frag} {mg : Str → Option Value} {base : Heap}
def spAlike (K : PySem.W.Frag) (k : Nat) : Sp := fun vs H Q _ => ∃ (x y : V) (d : PyData), vs = [x, y] ∧ Dp K H x d ∧ Dp K H y d ∧ Lev k d ∧ ∀ H', Same H H' → Q (.bl true) H'
abbrev tAlike (K : PySem.W.Frag) (k : Nat) : TE := tCall (spAlike K k) [] (fun _ _ _ => False) (tCons (tOp (rIx K) (tVar 0) (tVar 2)) (tCons (tOp (rIx K) (tVar 1) (tVar 2)) tNil))
theorem same_tup {H : Hp} {tp : Addr} {xs : List V} (n : H tp = none) : Same H (upd H tp (.tup xs)) := same_upd n
/-- a tuple or a list of data -/
theorem dp_seq {H : Hp} {x : V} {d : PyData} {ds : List PyData} (h : Dp K H x d) (e : d = .tuple ds ∨ d = .list ds) : ∃ a xs, x = .ref a ∧ (SqL K H a xs ∨ SqT K H a xs) ∧ DpAll K H xs ds := by
  rcases e with rfl | rfl
  · cases h with | tup hs ha => exact ⟨_, _, rfl, .inr hs, ha⟩
  · cases h with | lst hs ha => exact ⟨_, _, rfl, .inl hs, ha⟩
theorem sq_keep {H H' : Hp} {a : Addr} {xs : List V} (s : Same H H') (h : SqL K H a xs ∨ SqT K H a xs) : SqL K H' a xs ∨ SqT K H' a xs := h.imp (fun z => s.seq z) (fun z => sqT_keep s z)
theorem ix_at {H : Hp} {a : Addr} {xs : List V} {i : Nat} {v : V} {Q : VK} (h : SqL K H a xs ∨ SqT K H a xs) (e : xs[i]? = some v) (q : Q v H) : rIx K (.ref a) (.int (i : Int)) H Q := by
  rcases h with h | h
  · exact .inl ⟨a, xs, _, v, rfl, rfl, h, atI_nat e, q⟩
  · exact .inr (.inl ⟨a, xs, _, v, rfl, rfl, h, atI_nat e, q⟩)
theorem ok_alike {f : Addr} {fd : FuncData} (F : Fun K "_law_alike" "_law_alike" sAlike f fd) (gA : mg "_law_alike" = some (.ref f)) (kp : PySem.W.keepIn K (.ref f) = true) (bA : Binds K fd ["_law_found", "_law_due"] [])
    (mi : mg "isinstance" = none) (mt : mg "tuple" = none) (mli : mg "list" = none) (ml : mg "len" = none) (mr : mg "range" = none) (md : mg "dict" = none) (mst : mg "str" = none) (mn : mg "int" = none) (mb : mg "bool" = none) :
    ∀ k, FnOk P w K mg base CX0 (k + 1) f fd ["_law_found", "_law_due"] (spAlike K k)
  | 0 => F.ok scAlike (fun vs H Q E h => by
      obtain ⟨x, y, d, rfl, _⟩ := h
      rfl) (fun cdv A outer s H vs Q E hr h => by
      obtain ⟨x, y, d, rfl, _, _, l, _⟩ := h
      exact l.elim)
  | k + 1 => by
    have IH := ok_alike F gA kp bA mi mt mli ml mr md mst mn mb k
    refine F.ok scAlike (fun vs H Q E h => ?_) (fun cdv A outer s H vs Q E hr h => ?_)
    · obtain ⟨x, y, d, rfl, _⟩ := h
      rfl
    · obtain ⟨x, y, d, rfl, hx, hy, lev, q⟩ := h
      have nd := scAlike.nd
      refine ⟨_, pss_cons (ps_if (pt_val (pe_callB call_isiT (by rfl) mi PyProof.Rows.boot_isinstance (pa_cons (pv 1) (pa_cons (pe_tup (pa_cons (pe_bltn (v := .ty "tuple") (by rfl) mt PyProof.Rows.boot_tuple rfl) (pa_cons (pe_bltn (v := .ty "list") (by rfl) mli PyProof.Rows.boot_list rfl) pa_nil))) pa_nil))))
          (pss_cons (ps_if (PW.pt (pw_or (pt_not (pt_val (pe_callB call_isiT (by rfl) mi PyProof.Rows.boot_isinstance (pa_cons (pv 0) (pa_cons (pe_tup (pa_cons (pe_bltn (v := .ty "tuple") (by rfl) mt PyProof.Rows.boot_tuple rfl) (pa_cons (pe_bltn (v := .ty "list") (by rfl) mli PyProof.Rows.boot_list rfl) pa_nil))) pa_nil)))))
              (pw_or1 (pt_cmpR op_ne (pe_callB call_isi (by rfl) mi PyProof.Rows.boot_isinstance (pa_cons (pv 0) (pa_cons (pe_bltn (v := .ty "list") (by rfl) mli PyProof.Rows.boot_list rfl) pa_nil)))
                (pe_callB call_isi (by rfl) mi PyProof.Rows.boot_isinstance (pa_cons (pv 1) (pa_cons (pe_bltn (v := .ty "list") (by rfl) mli PyProof.Rows.boot_list rfl) pa_nil))) (nomark _))))) (pss_one ps_never) pss_nil)
          (pss_cons (ps_if (pt_cmpR op_ne (pe_callB call_len_seq (by rfl) ml PySem.boot_len (pa_cons (pv 0) pa_nil)) (pe_callB call_len_seq (by rfl) ml PySem.boot_len (pa_cons (pv 1) pa_nil)) (nomark _)) (pss_one ps_never) pss_nil)
          (pss_one (ps_ret (pe_cmpR (op_eqD hr.units) (pe_lc (own := [("_law_k", 2)]) (g := gName 2) (tt := tNot (tB (tAlike K k))) rfl nd (pi_range1 (by rfl) mr (pa_cons (pe_callB call_len_seq (by rfl) ml PySem.boot_len (pa_cons (pv 1) pa_nil)) pa_nil))
              (blkOk_by (N := nAlike) (sc := defScope sAlike) (by decide +kernel)) (fun _ _ _ _ _ => pg_name (i := 2) nd rfl (.inl rfl))
              (fun _ _ _ _ _ => pts_one (pt_not (pt_val (by exact pe_call (E := fun _ _ _ => False) IH hr (by rfl) gA kp bA .nil pass0 (pa_cons (pe_ix ix_seqK (pv 0) (pv 2) (fun _ _ => rfl)) (pa_cons (pe_ix ix_seqK (pv 1) (pv 2) (fun _ _ => rfl)) pa_nil))))))
              (fun _ _ _ _ _ => pv 2)) (pe_lst pa_nil) (nomark _)))))) pss_nil)
        (pss_cons (ps_if (pt_val (pe_callB call_isi (by rfl) mi PyProof.Rows.boot_isinstance (pa_cons (pv 1) (pa_cons (pe_bltn (v := .ty "dict") (by rfl) md PyProof.Rows.boot_dict rfl) pa_nil)))) pss_never pss_nil)
        (pss_cons (ps_if (PW.pt (pw_or (pt_cmpR op_isN (pv 1) pe_non (nomark _)) (pw_or1 (pt_val (pe_callB call_isi (by rfl) mi PyProof.Rows.boot_isinstance (pa_cons (pv 1) (pa_cons (pe_bltn (v := .ty "str") (by rfl) mst PyProof.Rows.boot_str rfl) pa_nil))))))) pss_never pss_nil)
        (pss_one (ps_ret (pe_and (pe_callB call_isi (by rfl) mi PyProof.Rows.boot_isinstance (pa_cons (pv 0) (pa_cons (pe_bltn (v := .ty "int") (by rfl) mn PyProof.Rows.boot_int rfl) pa_nil)))
          (pe_and (pe_cmpR op_eq (pe_callB call_isi (by rfl) mi PyProof.Rows.boot_isinstance (pa_cons (pv 0) (pa_cons (pe_bltn (v := .ty "bool") (by rfl) mb PyProof.Rows.boot_bool rfl) pa_nil)))
              (pe_callB call_isi (by rfl) mi PyProof.Rows.boot_isinstance (pa_cons (pv 1) (pa_cons (pe_bltn (v := .ty "bool") (by rfl) mb PyProof.Rows.boot_bool rfl) pa_nil))) (nomark _))
            (pe_one (pe_cmpR op_eq (pv 0) (pv 1) (nomark _))))))))), ?_⟩
      refine ⟨_, rfl, small' (show 2 ≤ 1000 by decide), fun tp np => ?_⟩
      have s1 := same_upd (o := .tup [.ty "tuple", .ty "list"]) np
      have u1 : upd H tp (.tup [.ty "tuple", .ty "list"]) tp = some (.tup [.ty "tuple", .ty "list"]) := upd_same
      generalize upd H tp (.tup [.ty "tuple", .ty "list"]) = H1 at s1 u1
      have hx1 := dp_keep s1 d _ hx
      have hy1 := dp_keep s1 d _ hy
      rcases lev with ⟨i, rfl⟩ | ⟨ds, ed, zd, ld⟩
      · refine ⟨y, tp, _, _, _, false, rfl, u1, .cons (.ty "tuple") (.cons (.ty "list") .nil), ty_of hy1, kitTL (show kitB "int" "tuple" = some false by decide +kernel) (show kitB "int" "list" = some false by decide +kernel) rfl, _, rfl, ifF rfl ?_⟩
        refine ⟨_, rfl, y, .ty "dict", _, _, _, rfl, .ty "dict", ty_of hy1, kit_ty (show kitB "int" "dict" = some false by decide +kernel), _, rfl, ifF rfl ?_⟩
        cases hx1
        cases hy1
        refine ⟨_, rfl, rfl, _, rfl, ifF rfl ?_⟩
        refine ⟨_, rfl, .int i, .ty "str", _, _, _, rfl, .ty "str", .base (.int i), kit_ty (show kitB "int" "str" = some false by decide +kernel), _, rfl, ifF rfl ?_⟩
        refine ⟨_, rfl, .int i, .ty "int", _, _, _, rfl, .ty "int", .base (.int i), kit_ty (show kitB "int" "int" = some true by decide +kernel), _, rfl, ifT rfl ?_⟩
        refine ⟨_, rfl, .int i, .ty "bool", _, _, _, rfl, .ty "bool", .base (.int i), kit_ty (show kitB "int" "bool" = some false by decide +kernel), _, rfl, .int i, .ty "bool", _, _, _, rfl, .ty "bool", .base (.int i), kit_ty (show kitB "int" "bool" = some false by decide +kernel), rfl, _, rfl, ifT rfl ?_⟩
        refine ⟨_, rfl, _, rfl, rfl, ?_⟩
        rw [decide_eq_true rfl]
        exact q H1 s1
      · obtain ⟨isT, isL, hT, hL, hTL⟩ : ∃ isT isL : Bool, kitB (tyD d) "tuple" = some isT ∧ kitB (tyD d) "list" = some isL ∧ (isT || isL) = true := by
          rcases ed with rfl | rfl
          · exact ⟨true, false, (show kitB "tuple" "tuple" = some true by decide +kernel), (show kitB "tuple" "list" = some false by decide +kernel), rfl⟩
          · exact ⟨false, true, (show kitB "list" "tuple" = some false by decide +kernel), (show kitB "list" "list" = some true by decide +kernel), rfl⟩
        refine ⟨y, tp, _, _, _, true, rfl, u1, .cons (.ty "tuple") (.cons (.ty "list") .nil), ty_of hy1, kitTL hT hL hTL, _, rfl, ifT rfl ?_⟩
        refine ⟨_, rfl, small' (show 2 ≤ 1000 by decide), fun tp2 np2 => ?_⟩
        have s2 := same_upd (o := .tup [.ty "tuple", .ty "list"]) np2
        have u2 : upd H1 tp2 (.tup [.ty "tuple", .ty "list"]) tp2 = some (.tup [.ty "tuple", .ty "list"]) := upd_same
        generalize upd H1 tp2 (.tup [.ty "tuple", .ty "list"]) = H2 at s2 u2
        have hx2 := dp_keep s2 d _ hx1
        have hy2 := dp_keep s2 d _ hy1
        refine ⟨x, tp2, _, _, _, true, rfl, u2, .cons (.ty "tuple") (.cons (.ty "list") .nil), ty_of hx2, kitTL hT hL hTL, _, rfl, ifF rfl ?_⟩
        refine ⟨_, rfl, x, .ty "list", _, _, _, rfl, .ty "list", ty_of hx2, kit_ty hL, _, rfl, y, .ty "list", _, _, _, rfl, .ty "list", ty_of hy2, kit_ty hL, rfl, _, rfl, ifF (by rw [decide_eq_true rfl]; rfl) ?_⟩
        obtain ⟨a, xs, rfl, hsa, hda⟩ := dp_seq hx2 ed
        obtain ⟨b, ys, rfl, hsb, hdb⟩ := dp_seq hy2 ed
        have la := dpAll_len hda
        have lb := dpAll_len hdb
        refine ⟨_, rfl, a, xs, rfl, hsa, _, rfl, b, ys, rfl, hsb, rfl, _, rfl, ifF (by rw [la, lb, decide_eq_true rfl]; rfl) ?_⟩
        refine ⟨_, rfl, b, ys, rfl, hsb, ?_⟩
        rw [lb]
        refine ⟨_, rfl, by omega, by omega, fun D nD => ?_⟩
        rw [Int.toNat_natCast]
        refine lc_it (walk_range (lo := 0) (n := ds.length)) (fun i H3 => Same H2 H3 ∧ H3 D = some (.lst [])) ⟨same_upd nD, upd_same⟩ (fun _ _ _ _ => trivial) (fun i v H3 H4 hi p y => ?_) (fun H3 p => ?_)
        · obtain ⟨rfl, ev⟩ := y
          have ev' : v = .int (i : Nat) := ev.trans (congrArg V.int (Int.zero_add _))
          subst ev'
          obtain ⟨s3, e3⟩ := p
          have ed' : ds[i]? = some ds[i] := List.getElem?_eq_getElem hi
          obtain ⟨xa, exa, dxa⟩ := dpAll_at' hda ed'
          obtain ⟨yb, eyb, dyb⟩ := dpAll_at' hdb ed'
          refine ⟨rfl, _, rfl, _, rfl, ix_at (sq_keep s3 hsa) exa ?_⟩
          refine ⟨_, rfl, _, rfl, ix_at (sq_keep s3 hsb) eyb ?_⟩
          refine ⟨xa, yb, ds[i], rfl, dp_keep s3 _ _ dxa, dp_keep s3 _ _ dyb, ld _ (List.mem_of_getElem? ed'), fun H5 s5 => ⟨_, rfl, ifF rfl ⟨s3.trans s5, s5 _ _ e3⟩⟩⟩
        · obtain ⟨s3, e3⟩ := p
          refine ⟨Nat.zero_le _, fun p4 np4 => ⟨.list [], .list [], .lst (.inl (.inl (same_upd np4 _ _ e3))) .nil, .lst (.inl (.inl upd_same)) .nil, rfl, rfl, ?_⟩⟩
          exact q _ (s1.trans (s2.trans (s3.trans (same_upd np4))))
end
end Dw
/-! the data that the law writes down. -/
namespace Dw
open PySem PySem.Spec PyProof.Rows L2
theorem within_cf {n : Nat} {lo hi : Int} {P T : Poly} (c : Can n P) (h : ∀ k, k.length = n → cf P k = cf T k) (w : Within n lo hi T) : Within n lo hi P := fun p hp x hx => by
  have e := cf_mem (asc_keys c.asc) (show (p.1, p.2) ∈ P from hp)
  rw [h p.1 (c.len p hp)] at e
  obtain ⟨d, hd⟩ := cf_key (L := T) (k := p.1) (by rw [e]; exact c.nz p hp)
  exact w _ hd x hx
/-- how the reading makes a datum -/
def MkD (K : PySem.W.Frag) (H0 : Hp) (σ : L2.St) (t : TE) (d : PyData) : Prop := ∀ (H : Hp) (Q : VK), Same H0 H → (∀ H' x, Same H H' → Dp K H' x d → Q x H') → t σ H Q
def MkA (K : PySem.W.Frag) (H0 : Hp) (σ : L2.St) (t : TA) (ds : List PyData) : Prop := ∀ (H : Hp) (Q : List V → Hp → Prop), Same H0 H → (∀ H' xs, Same H H' → DpAll K H' xs ds → Q xs H') → t σ H Q
section
variable {K : PySem.W.Frag} {H0 : Hp} {σ : L2.St}
theorem mk_int (i : Int) : MkD K H0 σ (tC (.int i)) (.int i) := fun H Q s q => q H _ (Same.refl H) (.int i)
theorem mk_bl (i : Bool) : MkD K H0 σ (tC (.bl i)) (.bool i) := fun H Q s q => q H _ (Same.refl H) (.bl i)
theorem mk_non : MkD K H0 σ (tC .non) .none := fun H Q s q => q H _ (Same.refl H) .non
theorem mk_str (x : Str) : MkD K H0 σ (tC (.str x)) (.str x) := fun H Q s q => q H _ (Same.refl H) (.str x)
theorem mk_var {i : Nat} {x : V} {d : PyData} (e : σ[i]? = some (some x)) (h : Dp K H0 x d) : MkD K H0 σ (tVar i) d := fun H Q s q => ⟨x, e, q H x (Same.refl H) (dp_keep s d _ h)⟩
theorem mka_nil : MkA K H0 σ tNil [] := fun H Q s q => q H [] (Same.refl H) .nil
theorem mka_cons {t : TE} {u : TA} {d : PyData} {ds : List PyData} (h : MkD K H0 σ t d) (g : MkA K H0 σ u ds) : MkA K H0 σ (tCons t u) (d :: ds) := fun H Q s q =>
  h H _ s fun H1 x s1 h1 => g H1 _ (s.trans s1) fun H2 xs s2 h2 => q H2 (x :: xs) (s1.trans s2) (.cons (dp_keep s2 d _ h1) h2)
theorem mk_tup {u : TA} {ds : List PyData} (g : MkA K H0 σ u ds) (z : ds.length ≤ 1000) : MkD K H0 σ (tTup u) (.tuple ds) := fun H Q s q =>
  g H _ s fun H1 xs s1 h1 => ⟨by rw [dpAll_len h1]; exact small' z, fun p np => q _ _ (s1.trans (same_upd np)) (.tup (.inl (.inl upd_same)) (dpAll_keep (same_upd np) _ _ h1))⟩
theorem mk_unit : MkD K H0 σ tUnit (.tuple []) := fun H Q s q p o np op => q _ _ (same_upd np) (.tup (.inl (.inr ⟨o, upd_same⟩)) .nil)
theorem rep_one {α : Type} (k : Nat) (v : α) : (List.replicate k [v]).flatten = List.replicate k v := by
  induction k with
  | zero => rfl
  | succ k ih => rw [List.replicate_succ, List.flatten_cons, ih]; rfl
theorem dp_rep {H : Hp} {v : V} {d : PyData} (h : Dp K H v d) : ∀ k : Nat, DpAll K H (List.replicate k v) (List.replicate k d)
  | 0 => .nil
  | k + 1 => .cons h (dp_rep h k)
theorem mk_rep {t u : TE} {d : PyData} {k : Nat} (g : MkD K H0 σ t (.tuple [d])) (h : MkD K H0 σ u (.int k)) (k1 : 1 ≤ k) (k2 : k ≤ 1000) : MkD K H0 σ (tOp (rRepA K) t u) (.tuple (List.replicate k d)) := fun H Q s q =>
  g H _ s fun H1 x s1 h1 => h H1 _ (s.trans s1) fun H2 y s2 h2 => by
    cases h2
    cases dp_keep s2 _ _ h1 with
    | @tup l xs _ hs ha =>
    cases ha with
    | @cons v _ _ _ hv ht =>
    cases ht
    refine ⟨l, k, [v], rfl, rfl, hs, (fun z => nomatch z), by omega, by omega, show 1 ≤ 1000 by decide, fun e => ?_, fun e p np => ?_⟩
    · have e1 : k = 1 := by omega
      subst e1
      exact q H2 _ (s1.trans s2) (.tup hs (.cons hv .nil))
    · rw [Int.toNat_natCast, rep_one]
      have s3 := same_upd (o := .tup (List.replicate k v)) np
      exact q _ _ (s1.trans (s2.trans s3)) (.tup (.inl (.inl upd_same)) (dp_rep (dp_keep s3 _ _ hv) k))
theorem mk_repL {t u : TE} {d : PyData} {k : Nat} (g : MkD K H0 σ t d) (h : MkD K H0 σ u (.int k)) (k2 : k ≤ 1000) : MkD K H0 σ (tOp rRep (tLst (tCons t tNil)) u) (.list (List.replicate k d)) := fun H Q s q =>
  g H _ s fun H1 x s1 h1 => ⟨small' (show 1 ≤ 1000 by decide), fun l nl => by
    have s2 := same_upd (o := .lst [x]) nl
    refine h _ _ (s.trans (s1.trans s2)) fun H3 y s3 h3 => ?_
    cases h3
    refine ⟨l, k, [x], rfl, rfl, s3 _ _ upd_same, by omega, by omega, by rw [Int.toNat_natCast]; show 1 * k ≤ _; rw [Nat.one_mul]; exact small' k2, fun p np => ?_⟩
    rw [Int.toNat_natCast, rep_one]
    have s4 := same_upd (o := .lst (List.replicate k x)) np
    exact q _ _ (s1.trans (s2.trans (s3.trans s4))) (.lst (.inl (.inl upd_same)) (dp_rep (dp_keep (s2.trans (s3.trans s4)) _ _ h1) k))⟩
theorem mk_add {t u : TE} {i j : Int} (g : MkD K H0 σ t (.int i)) (h : MkD K H0 σ u (.int j)) : MkD K H0 σ (tOp (rI0 fun i j => .int (i + j)) t u) (.int (i + j)) := fun H Q s q =>
  g H _ s fun H1 x s1 h1 => h H1 _ (s.trans s1) fun H2 y s2 h2 => by
    cases h1; cases h2
    exact ⟨i, j, rfl, rfl, q H2 _ (s1.trans s2) (.int _)⟩
theorem mk_sub {t u : TE} {i j : Int} (g : MkD K H0 σ t (.int i)) (h : MkD K H0 σ u (.int j)) : MkD K H0 σ (tOp (rI0 fun i j => .int (i - j)) t u) (.int (i - j)) := fun H Q s q =>
  g H _ s fun H1 x s1 h1 => h H1 _ (s.trans s1) fun H2 y s2 h2 => by
    cases h1; cases h2
    exact ⟨i, j, rfl, rfl, q H2 _ (s1.trans s2) (.int _)⟩
theorem mk_pow {t u : TE} {i j : Int} (g : MkD K H0 σ t (.int i)) (h : MkD K H0 σ u (.int j)) (c : CPow i j) : MkD K H0 σ (tOp (rI CPow fun i j => .int (i ^ j.toNat)) t u) (.int (i ^ j.toNat)) := fun H Q s q =>
  g H _ s fun H1 x s1 h1 => h H1 _ (s.trans s1) fun H2 y s2 h2 => by
    cases h1; cases h2
    exact ⟨i, j, rfl, rfl, c, q H2 _ (s1.trans s2) (.int _)⟩
def rListA (K : PySem.W.Frag) : List V → Hp → VK → Prop := fun xs H Q => ∃ p ys, xs = [.ref p] ∧ (SqL K H p ys ∨ SqT K H p ys) ∧ ∀ l, H l = none → Q (.ref l) (upd H l (.lst ys))
theorem call_listA {X : Cx} : CallR X (.type "list") (rListA X.K) := call_list_of
theorem mk_list {t : TE} {ds : List PyData} (g : MkD K H0 σ t (.tuple ds)) : MkD K H0 σ (tCB (rListA K) (tCons t tNil)) (.list ds) := fun H Q s q =>
  g H _ s fun H1 x s1 h1 => by
    cases h1 with
    | @tup p ys _ hs ha =>
    exact ⟨p, ys, rfl, .inr hs, fun l nl => q _ _ (s1.trans (same_upd nl)) (.lst (.inl (.inl upd_same)) (dpAll_keep (same_upd nl) _ _ ha))⟩
end
/-! what is no sum -/
def repI (n : Nat) (i : Int) : PyData := .tuple (List.replicate n (.int i))
def badA (n : Nat) (L : Poly) : List PyData := [.none, .list (L.map termD), .tuple [repI n 1, .int 1], .tuple [.tuple [repI n 1, .int 0]], .tuple [.tuple [repI (n + 1) 1, .int 1]], .tuple [.tuple [.list (List.replicate n (.int 1)), .int 1]], .tuple [.tuple [repI n 1, .bool true]],
  .tuple [.tuple [.tuple (List.replicate n (.bool true)), .int 1]]]
def badB (n : Nat) : List PyData := [.tuple [.tuple [repI n 1, .int 1], .tuple [repI n 0, .int 1]], .tuple [.tuple [repI n 1, .int 1], .tuple [repI n 1, .int 2]], .tuple [.tuple [repI n 1001, .int 1]], .tuple [.tuple [repI n 1]], .int 3, .str "x", .tuple [.tuple [repI n 1, .str "1"]]]
theorem bad_no {n : Nat} {L : Poly} (n1 : 1 ≤ n) (n3 : n ≤ 3) : ∀ d ∈ badA n L ++ badB n, sumB n d = false := by
  have h : n = 1 ∨ n = 2 ∨ n = 3 := by omega
  intro d hd
  rcases h with rfl | rfl | rfl
  all_goals
    simp only [badA, badB, List.cons_append, List.nil_append, List.mem_cons, List.not_mem_nil, or_false] at hd
    rcases hd with rfl | rfl | rfl | rfl | rfl | rfl | rfl | rfl | rfl | rfl | rfl | rfl | rfl | rfl | rfl
    all_goals first | rfl | decide +kernel
theorem huge_yes {n : Nat} (n1 : 1 ≤ n) (n3 : n ≤ 3) : sumB n (.tuple [.tuple [repI n (0 - 1000), .int (10 ^ (30 : Int).toNat)]]) = true := by
  have h : n = 1 ∨ n = 2 ∨ n = 3 := by omega
  rcases h with rfl | rfl | rfl
  all_goals first | rfl | decide +kernel
/-- what does not divide, out of a sum -/
theorem some_left {m : Int} (m0 : m ≠ 0) {L : Poly} (h : (L.filter fun p => decide (p.2.fmod m ≠ 0)) = []) : ∀ p ∈ L, ∃ s, p.2 = s * m := fun p hp => by
  refine ⟨p.2.fdiv m, of_fmod ?_⟩
  by_cases z : p.2.fmod m = 0
  · exact z
  · exfalso
    have : p ∈ (L.filter fun p => decide (p.2.fmod m ≠ 0)) := List.mem_filter.mpr ⟨hp, decide_eq_true z⟩
    rw [h] at this
    cases this
theorem eqv_nil : ∀ ms : List Int, PyData.eqv (.list (ms.map PyData.int)) (.list []) = decide (ms = [])
  | [] => rfl
  | _ :: _ => rfl
theorem ints_shaped (ms : List Int) : SeqAt.shaped (.list (ms.map PyData.int)) = true := shaped_of (lay_ints ms) (by
  show PyData.depthAll (ms.map PyData.int) + 1 ≤ 64
  rw [depth_ints]; omega)
/-! depth -/
theorem lev_int (k : Nat) (i : Int) : Lev (k + 1) (.int i) := .inl ⟨i, rfl⟩
theorem lev_term {k : Nat} {p : List Int × Int} (h : p.1.length ≤ 1000) : Lev (k + 3) (termD p) := .inr ⟨_, .inl rfl, (by show 2 ≤ 1000; decide), fun e he => by
  rcases List.mem_cons.mp he with rfl | he
  · exact .inr ⟨_, .inl rfl, by rw [List.length_map]; exact h, fun d hd => by
      obtain ⟨v, _, rfl⟩ := List.mem_map.mp hd
      exact lev_int _ v⟩
  · rw [List.mem_singleton.mp he]; exact lev_int _ _⟩
theorem lev_sum {k : Nat} {L : Poly} (h : ∀ p ∈ L, p.1.length ≤ 1000) (z : L.length ≤ 1000) : Lev (k + 4) (sumD L) := .inr ⟨_, .inl rfl, by rw [List.length_map]; exact z, fun d hd => by
  obtain ⟨p, hp, rfl⟩ := List.mem_map.mp hd
  exact lev_term (h p hp)⟩
end Dw
/-! the law. -/
namespace Dw
open PySem PySem.Spec PyProof.Rows L2
theorem dpAll_append {K : PySem.W.Frag} {H : Hp} : ∀ {xs ys : List V} {ds es : List PyData}, DpAll K H xs ds → DpAll K H ys es → DpAll K H (xs ++ ys) (ds ++ es)
  | _, _, _, _, .nil, g => g
  | _, _, _, _, .cons h t, g => .cons h (dpAll_append t g)
theorem seq_set_lst {ta : TA} {u : TS} {i : Nat} {D : Ends} {σ : L2.St} {H : Hp} (h : ta σ H fun xs H1 => xs.length ≤ sizeLine ∧ ∀ p, H1 p = none → u D (σ.set i (some (.ref p))) (upd H1 p (.lst xs))) : tSeq (tAsg (tLst ta) (gName i)) u D σ H := h
theorem seq_set_cat {tb : TA} {u : TS} {i : Nat} {D : Ends} {σ : L2.St} {H : Hp} {x : V} (e : σ[i]? = some (some x)) (h : tb σ H fun ys H1 => ys.length ≤ sizeLine ∧ ∀ p, H1 p = none → rCat x (.ref p) (upd H1 p (.lst ys)) fun z H2 => u D (σ.set i (some z)) H2) :
    tSeq (tAsg (tOp rCat (tVar i) (tLst tb)) (gName i)) u D σ H := ⟨x, e, h⟩
theorem cons_of {t : TE} {u : TA} {σ : L2.St} {H : Hp} {Q : List V → Hp → Prop} (h : t σ H fun x H1 => u σ H1 fun xs H2 => Q (x :: xs) H2) : tCons t u σ H Q := h
theorem next_of {D : Ends} {σ : L2.St} {H : Hp} (h : D.nx σ H) : tNext D σ H := h
theorem seq_fin {t u : TS} {D : Ends} {σ : L2.St} {H : Hp} (I : L2.St → Hp → Prop) (h1 : ∀ σ' H', I σ' H' → u D σ' H') (h2 : (∀ σ' H', I σ' H' → u D σ' H') → t { D with nx := u D } σ H) : tSeq t u D σ H := h2 h1
theorem hot_suite {X : Cx} {a : Addr} {oe : Obj} {cls : Value} {d : Option Addr} {pn : List (Addr × Obj)} (hz : L2N.Zn cls d oe) (hf : ∃ vs, oe.data = .fields vs) : L2H.HotC (X.suite a ((a, oe) :: pn)) := by
  obtain ⟨vs, hv⟩ := hf
  exact ⟨(a, oe), ⟨rfl, vs, hv, hz.2.2 vs hv⟩, List.mem_cons_self⟩
theorem op_neK {X : Cx} {K : PySem.W.Frag} (hu : X.A.units + 64 < cLine) (hk : X.K = K := by rfl) : OpR X (compareOp .NotEq) (rNeD K) := by
  subst hk
  exact op_neD hu
def rLenA (K : PySem.W.Frag) : List V → Hp → VK → Prop := fun xs H Q => ∃ p ys, xs = [.ref p] ∧ (SqL K H p ys ∨ SqT K H p ys) ∧ Q (.int ys.length) H
theorem call_lenA {X : Cx} : CallR X (.builtin "len") (rLenA X.K) := call_len_seq
abbrev tLeft (K : PySem.W.Frag) : TT := tTest (tOp rNe (tOp (rI (fun _ j => j ≠ 0) fun i j => .int (i.fmod j)) (tVar 10) (tOp (rIxT K) (tOp (rIxT K) (tVar 4) (tC (.int 0))) (tC (.int 1)))) (tC (.int 0)))
abbrev tSuite (K : PySem.W.Frag) : TS := tIfS (tOr (tTest (tOp (rEqD K) (tVar 6) tUnit)) (tAnd (tTest (tOp rEq (tCB (rLenA K) (tCons (tVar 4) tNil)) (tC (.int 1)))) (tTest (tOp (rEqD K) (tLcH K (tVar 6) (gPair K 9 10) (tLeft K) (tVar 10) [9, 10]) (tLst tNil))))) tNever tNext
section
variable {P : Program} {w : World} {K : PySem.W.Frag} {mg : Str → Option Value} {base : Heap}
def spLaw (K : PySem.W.Frag) : Sp := fun vs H Q _ => ∃ (a : Addr) (ns : List Int), vs = [.ref a] ∧ SqL K H a (ns.map V.int) ∧ ns.length ≤ 63 ∧ ∀ H', Q (.bl true) H'
theorem ok_law {f fT fK fA fS fP fM fp ft fo fi CN : Addr} {fd fdT fdK fdA fdS fdP fdM fdp fdt fdo fdi : FuncData} (F : Fun K "law" "law" sLaw f fd) (CT : Cal P w K mg base CX0 1 "_law_taken" ["_law_row", "_law_many"] (spTaken K) fT fdT)
    (CK : Cal P w K mg base CX0 2 "_law_pick" ["_law_row", "_law_things"] (spPick K) fK fdK) (CA : ∀ k, Cal P w K mg base CX0 (k + 1) "_law_alike" ["_law_found", "_law_due"] (spAlike K k) fA fdA)
    (CS : Cal P w K mg base CX0 3 "_law_sum" ["_law_row", "_law_n", "_law_most", "_law_low"] (spLSum K) fS fdS) (CP : Cal P w K mg base CX0 1 "_law_plus_sums" ["_law_one", "_law_other"] spLPlus fP fdP)
    (CM : Cal P w K mg base CX0 2 "_law_times_sums" ["_law_one", "_law_other"] spLTimes fM fdM) (Cp : Cal P w K mg base CX0 7 "plus" ["n", "one", "other"] spPlus fp fdp) (Ct : Cal P w K mg base CX0 7 "times" ["n", "one", "other"] spTimes ft fdt)
    (Co : Cal P w K mg base (L2N.CX P w) 7 "over" ["n", "one", "other"] (spOver CN) fo fdo) (Ci : Cal P w K mg base CX0 5 "is_sum" ["n", "value"] (spIsSumT K) fi fdi) (CE : Err K mg "NotEven" CN) (eN : PySem.W.exmOne K (.ref CN) (.ref CN) = some true)
    (ml : mg "len" = none) (mi : mg "list" = none) : FnOk P w K mg base CX0 8 f fd ["_law_script"] (spLaw K) := by
  refine F.ok scLaw (fun vs H Q E h => ?_) (fun cdv A outer s H vs Q E hr h => ?_)
  · obtain ⟨a, ns, rfl, _⟩ := h
    rfl
  · have nd := scLaw.nd
    have hu := hr.units
    have hr1 : Room 1 _ := hr.mono (by decide)
    have hr2 : Room 2 _ := hr.mono (by decide)
    have hr3 : Room 3 _ := hr.mono (by decide)
    have hr5 : Room 5 _ := hr.mono (by decide)
    have hr6 : Room 6 _ := hr.mono (by decide)
    refine ⟨_, pss_cons (ps_set (i := 1) nd rfl (.inl rfl) (pe_lst (pa_cons (pv 0) (pa_cons pe_int (pa_cons pe_int (pa_cons pe_int pa_nil))))))
      (pss_cons (ps_set (i := 2) nd rfl (.inr rfl) (pe_op op_add pe_int (pe_call (E := fun _ _ _ => False) CT.ok hr1 (by rfl) CT.g CT.kp CT.b .nil pass0 (pa_cons (pv 1) (pa_cons pe_int pa_nil)))))
      (pss_cons (ps_asg (pe_tup (pa_cons (pe_call (E := fun _ _ _ => False) CS.ok hr3 (by rfl) CS.g CS.kp CS.b .nil pass0 (pa_cons (pv 1) (pa_cons (pv 2) (pa_cons pe_int (pa_cons (pe_call (E := fun _ _ _ => False) CT.ok hr1 (by rfl) CT.g CT.kp CT.b .nil pass0 (pa_cons (pv 1) (pa_cons pe_int pa_nil))) pa_nil)))))
          (pa_cons (pe_call (E := fun _ _ _ => False) CS.ok hr3 (by rfl) CS.g CS.kp CS.b .nil pass0 (pa_cons (pv 1) (pa_cons (pv 2) (pa_cons pe_int (pa_cons pe_int pa_nil))))) pa_nil)))
          (pg_tup rfl (pgs_cons (pg_name (i := 3) nd rfl (.inl rfl)) (pgs_cons (pg_name (i := 4) nd rfl (.inr rfl)) pgs_nil))))
      (pss_cons (ps_set (i := 5) nd rfl (.inl rfl) (pe_call (E := fun _ _ _ => False) CM.ok hr2 (by rfl) CM.g CM.kp CM.b .nil pass0 (pa_cons (pv 3) (pa_cons (pv 4) pa_nil))))
      (pss_cons (ps_if (pt_not (pt_val (pe_call (E := fun _ _ _ => False) (CA 5).ok hr6 (by rfl) (CA 5).g (CA 5).kp (CA 5).b .nil pass0 (pa_cons
          (pe_lst (pa_cons (pe_call (E := fun _ _ _ => False) Cp.ok hr (by rfl) Cp.g Cp.kp Cp.b .nil pass0 (pa_cons (pv 2) (pa_cons (pv 3) (pa_cons (pv 4) pa_nil)))) (pa_cons (pe_call (E := fun _ _ _ => False) Ct.ok hr (by rfl) Ct.g Ct.kp Ct.b .nil pass0 (pa_cons (pv 2) (pa_cons (pv 3) (pa_cons (pv 4) pa_nil)))) pa_nil)))
          (pa_cons (pe_lst (pa_cons (pe_call (E := fun _ _ _ => False) CP.ok hr1 (by rfl) CP.g CP.kp CP.b .nil pass0 (pa_cons (pv 3) (pa_cons (pv 4) pa_nil))) (pa_cons (pv 5) pa_nil))) pa_nil))))) (pss_one ps_never) pss_nil)
      (pss_cons (ps_if (PW.pt (pw_and (pt_cmpR (op_neD hu) (pv 4) pe_unit (nomark _)) (pw_and1 (pt_not (pt_val (pe_call (E := fun _ _ _ => False) (CA 4).ok hr5 (by rfl) (CA 4).g (CA 4).kp (CA 4).b .nil pass0 (pa_cons
          (pe_call (E := fun _ _ _ => False) Co.ok hr (by rfl) Co.g Co.kp Co.b .nil (L2N.passes_call takesN (fun _ _ _ _ h => h)) (pa_cons (pv 2) (pa_cons (pv 5) (pa_cons (pv 4) pa_nil)))) (pa_cons (pv 3) pa_nil)))))))) (pss_one ps_never) pss_nil)
      (pss_cons (ps_if (pt_cmpR (op_neD hu) (pv 4) pe_unit (nomark _))
          (pss_cons (ps_set (i := 6) nd rfl (.inl rfl) (pe_call (E := fun _ _ _ => False) CK.ok hr2 (by rfl) CK.g CK.kp CK.b .nil pass0 (pa_cons (pv 1) (pa_cons (pe_lst (pa_cons
              (pe_call (E := fun _ _ _ => False) CS.ok hr3 (by rfl) CS.g CS.kp CS.b .nil pass0 (pa_cons (pv 1) (pa_cons (pv 2) (pa_cons pe_int (pa_cons pe_int pa_nil)))))
              (pa_cons (pe_call (E := fun _ _ _ => False) CP.ok hr1 (by rfl) CP.g CP.kp CP.b .nil pass0 (pa_cons (pv 5) (pa_cons (pe_call (E := fun _ _ _ => False) CS.ok hr3 (by rfl) CS.g CS.kp CS.b .nil pass0 (pa_cons (pv 1) (pa_cons (pv 2) (pa_cons pe_int (pa_cons pe_int pa_nil))))) pa_nil))) pa_nil))) pa_nil))))
          (pss_one (L2N.ps_try_many (Wout := fun _ _ _ _ => False) rfl rfl takesN
            (fun W pn xe tk po => pss_cons (ps_set (i := 7) nd rfl (.inl rfl) (by exact pe_callS Co.ok hr (by rfl) Co.g Co.kp Co.b (fun σ => L2N.passAt tk σ) (pa_cons (pv 2) (pa_cons (pv 6) (pa_cons (pv 4) pa_nil)))))
              (pss_one (ps_if (PW.pt (pw_or (pt_cmpR op_isnot_bl (by exact pe_call (E := fun _ _ _ => False) Ci.ok hr5 (by rfl) Ci.g Ci.kp Ci.b .nil pass0 (pa_cons (pv 2) (pa_cons (pv 7) pa_nil))) pe_bl (nomark _))
                (pw_or1 (pt_cmpR (op_neK (K := K) hu) (by exact pe_call (E := fun _ _ _ => False) CM.ok hr2 (by rfl) CM.g CM.kp CM.b .nil pass0 (pa_cons (pv 7) (pa_cons (pv 4) pa_nil))) (pv 6) (nomark _))))) (pss_one ps_never) pss_nil)))
            (L2N.HdsOk.cons (ts := fun _ _ _ => tSuite K) ⟨rfl, by decide, .inl CE.g⟩ (fun a oe cls d pn hz hf => pss_one (ps_if (PW.pt (pw_or (pt_cmpR (op_eqD hu) (pv 6) pe_unit (nomark _))
              (pw_or1 (PW.pt (pw_and (pt_cmpR op_eq (pe_callB call_lenA (by rfl) ml PySem.boot_len (pa_cons (pv 4) pa_nil)) pe_int (nomark _))
                (pw_and1 (pt_cmpR (op_eqD hu) (pe_lcH (own := [("_law_powers", 9), ("_law_many", 10)]) (g := gPair K 9 10) (tt := tLeft K) (hot_suite hz hf) nd (pv 6) (blkOk_by (N := nLaw) (sc := defScope sLaw) (by decide +kernel))
                    (fun _ _ _ _ _ p h1 => pg_tupH ⟨p, h1, List.mem_cons_self⟩ (pgs_cons (pg_name (i := 9) nd rfl (.inl rfl)) (pgs_cons (pg_name (i := 10) nd rfl (.inl rfl)) pgs_nil)))
                    (fun _ _ _ _ _ _ => pts_one (pt_cmpR op_ne (pe_op op_modN (pv 10) (pe_ix ix_tupK (pe_ix ix_tupK (pv 4) pe_int (fun _ _ => rfl)) pe_int (fun _ _ => rfl))) pe_int (nomark _))) (fun _ _ _ _ _ _ => pv 10)) (pe_lst pa_nil) (nomark _)))))))) (pss_one ps_never) pss_nil)) .nil)))) pss_nil)
      (pss_cons (ps_set (i := 8) nd rfl (.inl rfl) (pe_lst (pa_cons pe_non (pa_cons (pe_callTy call_listA (by rfl) mi PyProof.Rows.boot_list (pa_cons (pv 3) pa_nil))
          (pa_cons (pe_tup (pa_cons (pe_op op_repA (pe_tup (pa_cons pe_int pa_nil)) (pv 2)) (pa_cons pe_int pa_nil)))
          (pa_cons (pe_tup (pa_cons (pe_tup (pa_cons (pe_op op_repA (pe_tup (pa_cons pe_int pa_nil)) (pv 2)) (pa_cons pe_int pa_nil))) pa_nil))
          (pa_cons (pe_tup (pa_cons (pe_tup (pa_cons (pe_op op_repA (pe_tup (pa_cons pe_int pa_nil)) (pe_op op_add (pv 2) pe_int)) (pa_cons pe_int pa_nil))) pa_nil))
          (pa_cons (pe_tup (pa_cons (pe_tup (pa_cons (pe_op op_rep (pe_lst (pa_cons pe_int pa_nil)) (pv 2)) (pa_cons pe_int pa_nil))) pa_nil))
          (pa_cons (pe_tup (pa_cons (pe_tup (pa_cons (pe_op op_repA (pe_tup (pa_cons pe_int pa_nil)) (pv 2)) (pa_cons pe_bl pa_nil))) pa_nil))
          (pa_cons (pe_tup (pa_cons (pe_tup (pa_cons (pe_op op_repA (pe_tup (pa_cons pe_bl pa_nil)) (pv 2)) (pa_cons pe_int pa_nil))) pa_nil)) pa_nil))))))))))
      (pss_cons (ps_set (i := 8) nd rfl (.inl rfl) (pe_op op_cat (pv 8) (pe_lst
          (pa_cons (pe_tup (pa_cons (pe_tup (pa_cons (pe_op op_repA (pe_tup (pa_cons pe_int pa_nil)) (pv 2)) (pa_cons pe_int pa_nil))) (pa_cons (pe_tup (pa_cons (pe_op op_repA (pe_tup (pa_cons pe_int pa_nil)) (pv 2)) (pa_cons pe_int pa_nil))) pa_nil)))
          (pa_cons (pe_tup (pa_cons (pe_tup (pa_cons (pe_op op_repA (pe_tup (pa_cons pe_int pa_nil)) (pv 2)) (pa_cons pe_int pa_nil))) (pa_cons (pe_tup (pa_cons (pe_op op_repA (pe_tup (pa_cons pe_int pa_nil)) (pv 2)) (pa_cons pe_int pa_nil))) pa_nil)))
          (pa_cons (pe_tup (pa_cons (pe_tup (pa_cons (pe_op op_repA (pe_tup (pa_cons pe_int pa_nil)) (pv 2)) (pa_cons pe_int pa_nil))) pa_nil))
          (pa_cons (pe_tup (pa_cons (pe_tup (pa_cons (pe_op op_repA (pe_tup (pa_cons pe_int pa_nil)) (pv 2)) pa_nil)) pa_nil))
          (pa_cons pe_int (pa_cons pe_str
          (pa_cons (pe_tup (pa_cons (pe_tup (pa_cons (pe_op op_repA (pe_tup (pa_cons pe_int pa_nil)) (pv 2)) (pa_cons pe_str pa_nil))) pa_nil)) pa_nil))))))))))
      (pss_cons (ps_if (PW.pt (pw_or (pt_cmpR (op_neD hu) (pe_lc (own := [("_law_value", 11)]) (g := gName 11) (tt := tTest (tOp (fun x y H Q => ∃ a b, x = .bl a ∧ y = .bl b ∧ Q (.bl (!decide (a = b))) H) (tCall (spIsSumT K) [] (fun _ _ _ => False) (tCons (tVar 2) (tCons (tVar 11) tNil))) (tC (.bl false)))) rfl nd (pi_list (pv 8))
            (blkOk_by (N := nLaw) (sc := defScope sLaw) (by decide +kernel)) (fun _ _ _ _ _ => pg_name (i := 11) nd rfl (.inl rfl))
            (fun _ _ _ _ _ => pts_one (pt_cmpR op_isnot_bl (by exact pe_call (E := fun _ _ _ => False) Ci.ok hr5 (by rfl) Ci.g Ci.kp Ci.b .nil pass0 (pa_cons (pv 2) (pa_cons (pv 11) pa_nil))) pe_bl (nomark _))) (fun _ _ _ _ _ => pv 11)) (pe_lst pa_nil) (nomark _))
          (pw_or1 (pt_cmpR op_isnot_bl (pe_call (E := fun _ _ _ => False) Ci.ok hr5 (by rfl) Ci.g Ci.kp Ci.b .nil pass0 (pa_cons (pv 2) (pa_cons (pv 3) pa_nil))) pe_bl (nomark _))))) (pss_one ps_never) pss_nil)
      (pss_one (ps_ret (pe_and (pe_cmpR op_is_bl (pe_call (E := fun _ _ _ => False) Ci.ok hr5 (by rfl) Ci.g Ci.kp Ci.b .nil pass0 (pa_cons (pv 2) (pa_cons pe_unit pa_nil))) pe_bl (nomark _))
        (pe_one (pe_cmpR op_is_bl (pe_call (E := fun _ _ _ => False) Ci.ok hr5 (by rfl) Ci.g Ci.kp Ci.b .nil pass0 (pa_cons (pv 2) (pa_cons
          (pe_tup (pa_cons (pe_tup (pa_cons (pe_op op_repA (pe_tup (pa_cons (pe_op op_sub pe_int pe_int) pa_nil)) (pv 2)) (pa_cons (pe_op op_pow pe_int pe_int) pa_nil))) pa_nil)) pa_nil))) pe_bl (nomark _))))))))))))))), ?_⟩
    obtain ⟨a, ns, rfl, hS, hns, q⟩ := h
    -- the row
    refine ⟨_, rfl, small' (show 4 ≤ 1000 by decide), fun r nr => ?_⟩
    have ro1 : RowOk K a ns (upd H r (.lst [.ref a, .int 0, .int 7304, .int 0])) r := ⟨0, 7304, 0, upd_same, (scr_new hS nr).but but_upd, Int.le_refl _⟩
    generalize upd H r (.lst [.ref a, .int 0, .int 7304, .int 0]) = H1 at ro1
    -- n
    refine ⟨_, rfl, r, 3, a, ns, rfl, ro1, by decide, by decide, fun H2 x b2 ro2 x0 x3 => ⟨1, x, rfl, rfl, ?_⟩⟩
    obtain ⟨N, hN⟩ : ∃ N : Nat, 1 + x = (N : Int) := ⟨(1 + x).toNat, by omega⟩
    have n1 : 1 ≤ N := by omega
    have n3 : N ≤ 3 := by omega
    have hN' : (fun i j => V.int (i + j)) 1 x = V.int (N : Int) := congrArg V.int hN
    rw [hN']
    -- one, other
    refine ⟨_, rfl, _, rfl, _, rfl, r, 3, a, ns, rfl, ro2, by decide, by decide, fun H3 low b3 ro3 l0 l3 => ?_⟩
    refine ⟨r, N, 5, low, a, ns, rfl, ro3, n1, n3, by decide, l0, by omega, fun H4 t1 one b4 ro4 c1 z1 w1 k1 h1 => ?_⟩
    refine ⟨_, rfl, _, rfl, r, N, 4, 1, a, ns, rfl, ro4, n1, n3, by decide, by decide, by decide, fun H5 t2 other b5 ro5 c2 z2 w2 k2 h2 => ?_⟩
    obtain ⟨rl5, erl5⟩ := ro5.lst
    obtain ⟨rl4, erl4⟩ := ro4.lst
    refine ⟨small' (show 2 ≤ 1000 by decide), fun T nT => ?_⟩
    have sT := same_upd (o := .tup [.ref t1, .ref t2]) nT
    refine ⟨T, [.ref t1, .ref t2], rfl, .inl (.inl upd_same), rfl, .ref t1, [.ref t2], rfl, .ref t2, [], rfl, rfl, ?_⟩
    have g1 := (h1.but erl4 b5).keep sT
    have g2 := h2.keep sT
    have ro6 := ro5.keep sT
    generalize upd H5 T (.tup [.ref t1, .ref t2]) = H6 at g1 g2 ro6
    have w1' : Within N (-100) 100 one := w1.mono (by omega) (by omega)
    have w2' : Within N (-100) 100 other := w2.mono (by omega) (by omega)
    have o1 : Okk N one := okk_of c1 (by omega) w1' (by omega)
    have o2 : Okk N other := okk_of c2 (by omega) w2' (by omega)
    have cM : ∀ p ∈ other, -(2 ^ 64) < p.2 ∧ p.2 < 2 ^ 64 := fun p hp => by have := k2 p hp; omega
    have zz : one.length * other.length ≤ 20 := Nat.mul_le_mul z1 z2
    -- product
    refine ⟨_, rfl, _, rfl, t1, t2, one, other, N, rfl, g1, g2, c1.len, c2.len, by omega, Nat.le_trans (Nat.mul_le_mul (show one.length + 1 ≤ 6 by omega) z2) (by decide), by omega, cM, fun H7 t5 P s7 cP fP zP h5 => ?_⟩
    have wM := Within.mul w1 w2 c1.len c2.len
    have wP : Within N (-low - 1) (5 - low) P := (within_cf cP fP wM).mono (by omega) (by omega)
    have g1a := g1.keep s7
    have g2a := g2.keep s7
    have ro7 := ro6.keep s7
    -- plus, times against the law's own
    have fM : Fits (mulE one other) := fits_of (mulE_len c1.len c2.len) (by omega) (wM.mono (by omega) (by omega))
    refine ⟨_, rfl, _, rfl, _, rfl, t1, t2, one, other, N, rfl, n1, by omega, g1a, g2a, o1, o2, by omega, fun H8 q1 S1 s8 so1 hs1 => ?_⟩
    refine ⟨_, rfl, _, rfl, _, rfl, t1, t2, one, other, N, rfl, n1, by omega, g1a.keep s8, g2a.keep s8, o1, o2, by omega, cM, fM, fun H9 q2 S2 s9 so2 hs2 => ?_⟩
    refine ⟨small' (show 2 ≤ 1000 by decide), fun L1 nL1 => ?_⟩
    have sL1 := same_upd (o := .lst [.ref q1, .ref q2]) nL1
    have eL1 : upd H9 L1 (.lst [.ref q1, .ref q2]) L1 = some (.lst [.ref q1, .ref q2]) := upd_same
    have d1 := dp_sum (K := K) ((hs1.keep s9).keep sL1)
    have d2 := dp_sum (K := K) (hs2.keep sL1)
    have s89 := s8.trans (s9.trans sL1)
    generalize upd H9 L1 (.lst [.ref q1, .ref q2]) = H10 at sL1 eL1 d1 d2 s89
    refine ⟨_, rfl, _, rfl, t1, t2, one, other, rfl, g1a.keep s89, g2a.keep s89, asc_keys c1.asc, by omega, fun H11 q3 S3 s11 _ so3 hs3 => ?_⟩
    refine ⟨_, rfl, small' (show 2 ≤ 1000 by decide), fun L2 nL2 => ?_⟩
    have sL2 := same_upd (o := .lst [.ref q3, .ref t5]) nL2
    have eL2 : upd H11 L2 (.lst [.ref q3, .ref t5]) L2 = some (.lst [.ref q3, .ref t5]) := upd_same
    have s12 := s89.trans (s11.trans sL2)
    have e31 : S3 = S1 := so3.one so1
    subst e31
    have cS2 : Can N S2 := so2.can (accum_len N _ (fun p h => nomatch h) (mulE_len c1.len c2.len))
    have e25 : S2 = P := can_eq cS2 cP fun k hk => by rw [so2.cf, accum_cf (L := []) _ (show Keys [] from List.nodup_nil), fP k hk, cf_nil, Int.zero_add]
    subst e25
    have cS3 : Can N S3 := so1.can (accum_len N _ c1.len c2.len)
    have zS3 : S3.length ≤ 1000 := Nat.le_trans so1.length (Nat.le_trans (accum_length _ _) (by omega))
    have d1' := dp_keep (s11.trans sL2) _ _ d1
    have d2' := dp_keep (s11.trans sL2) _ _ d2
    have d3' := dp_sum (K := K) (hs3.keep sL2)
    have d4' := dp_sum (K := K) (h5.keep s12)
    have eL1' := sL2 _ _ (s11 _ _ eL1)
    refine ⟨.ref L1, .ref L2, .list [sumD S3, sumD S2], rfl, .lst (.inl (.inl eL1')) (.cons d1' (.cons d2' .nil)), .lst (.inl (.inl eL2)) (.cons d3' (.cons d4' .nil)),
      .inr ⟨_, .inr rfl, (by show 2 ≤ 1000; decide), fun e he => ?_⟩, fun H13 s13 => ⟨_, rfl, ifF rfl ?_⟩⟩
    · rcases List.mem_cons.mp he with rfl | he
      · exact lev_sum (k := 0) (fun p hp => by rw [cS3.len p hp]; omega) zS3
      · rw [List.mem_singleton.mp he]
        exact lev_sum (k := 0) (fun p hp => by rw [cP.len p hp]; omega) (by omega)
    have s14 := s12.trans s13
    have g1b := g1a.keep s14
    have g2b := g2a.keep s14
    have g5b := h5.keep s14
    have ro13 := ro7.keep s14
    clear d1 d2 d1' d2' d3' d4' eL1 eL1' eL2 sL1 sL2 s89 s8 s9 s11 s12 s13 s14 hs1 hs2 hs3 g1a g2a ro7 so1 so2 so3 cS2 cS3 zS3 h5 s7
    -- the quotient of the product
    refine next_of ?_
    dsimp only
    show tSeq (tIfS _ _ _) _ _ _ _
    refine seq_fin (fun σ' H' => σ' = [some (.ref a), some (.ref r), some (.int (N : Int)), some (.ref t1), some (.ref t2), some (.ref t5), none, none, none, none, none, none] ∧ RowOk K a ns H' r ∧ SumAt H' t1 one ∧ SumAt H' t2 other ∧ SumAt H' t5 S2) ?_ (fun fin => ?_)
    rotate_left
    · refine ⟨_, rfl, fun p o np op => ⟨sumD other, sumD [], dp_sum (g2b.keep (same_upd np)), dp_sum (sum_nil op), sum_shaped _, sum_shaped _, _, rfl, ?_⟩⟩
      have s15 := same_upd (o := .frz o (.tup [])) np
      have g1c := g1b.keep s15
      have g2c := g2b.keep s15
      have g5c := g5b.keep s15
      have ro15 := ro13.keep s15
      generalize upd H13 p (.frz o (.tup [])) = H15 at s15 g1c g2c g5c ro15
      rw [eqv_sum]
      by_cases hO : other = []
      · exact ifF (by rw [decide_eq_true hO]; rfl) (ifF rfl (fin _ _ ⟨rfl, ro15, g1c, g2c, g5c⟩))
      refine ifT (by rw [decide_eq_false hO]; rfl) ?_
      have lev1 : Lev 4 (sumD one) := lev_sum (k := 0) (fun p hp => by rw [c1.len p hp]; omega) (by omega)
      refine ⟨_, rfl, _, rfl, _, rfl, t5, t2, S2, other, N, -low - 1, rfl, g5c, g2c, n1, n3, cP, c2, hO, by omega, by omega, wP.mono (by omega) (by omega), wP.mono (by omega) (by omega), w2', k2, fun e H' x s hx => ?_, fun e z => ?_, fun e H' x S s ok hx => ?_⟩
      · have e1 : one = [] := mul_zero c1.tab c2.tab hO fun k hk => by rw [← fP k hk, e]; rfl
        rw [← e1] at hx
        exact ⟨_, rfl, .ref x, .ref t1, sumD one, rfl, dp_sum hx, dp_sum (g1c.keep s), lev1, fun H2 s2 => ⟨_, rfl, ifF rfl (fin _ _ ⟨rfl, ro15.keep (s.trans s2), g1c.keep (s.trans s2), g2c.keep (s.trans s2), g5c.keep (s.trans s2)⟩)⟩⟩
      · have nO1 : one ≠ [] := fun y => e (can_eq cP (⟨List.Pairwise.nil, fun p h => (nomatch h), fun p h => (nomatch h)⟩ : Can N []) fun k hk => by rw [fP k hk, y]; rfl)
        exact absurd z (fail_mul cP c2 c1 nO1 hO fP)
      · have e1 : S = one := over_mul c2 c1 hO fP ok
        rw [e1] at hx
        exact ⟨_, rfl, .ref x, .ref t1, sumD one, rfl, dp_sum hx, dp_sum (g1c.keep s), lev1, fun H2 s2 => ⟨_, rfl, ifF rfl (fin _ _ ⟨rfl, ro15.keep (s.trans s2), g1c.keep (s.trans s2), g2c.keep (s.trans s2), g5c.keep (s.trans s2)⟩)⟩⟩
    clear g1b g2b g5b ro13
    rintro σ' H' ⟨rfl, ro13, g1b, g2b, g5b⟩
    -- the third
    show tSeq (tIfS _ _ _) _ _ _ _
    refine seq_fin (fun σ' H' => ∃ y6 y7, σ' = [some (.ref a), some (.ref r), some (.int (N : Int)), some (.ref t1), some (.ref t2), some (.ref t5), y6, y7, none, none, none, none] ∧ SumAt H' t1 one) ?_ (fun fin => ?_)
    rotate_left
    · refine ⟨_, rfl, fun p o np op => ⟨sumD other, sumD [], dp_sum (g2b.keep (same_upd np)), dp_sum (sum_nil op), sum_shaped _, sum_shaped _, _, rfl, ?_⟩⟩
      have s15 := same_upd (o := .frz o (.tup [])) np
      have g1c := g1b.keep s15
      have g2c := g2b.keep s15
      have g5c := g5b.keep s15
      have ro15 := ro13.keep s15
      generalize upd H' p (.frz o (.tup [])) = H15 at s15 g1c g2c g5c ro15
      rw [eqv_sum]
      by_cases hO : other = []
      · exact ifF (by rw [decide_eq_true hO]; rfl) (fin _ _ ⟨_, _, rfl, g1c⟩)
      refine ifT (by rw [decide_eq_false hO]; rfl) ?_
      obtain ⟨rl15, erl15⟩ := ro15.lst
      refine ⟨_, rfl, _, rfl, _, rfl, r, N, 5, 1, a, ns, rfl, ro15, n1, n3, by decide, by decide, by decide, fun H17 u1 T1 b17 ro17 cT zT wT kT hT => ?_⟩
      obtain ⟨rl17, erl17⟩ := ro17.lst
      refine ⟨_, rfl, _, rfl, _, rfl, r, N, 1, 1, a, ns, rfl, ro17, n1, n3, by decide, by decide, by decide, fun H18 u2 T2 b18 ro18 cU zU wU kU hU => ?_⟩
      have g1d := (g1c.but erl15 b17).but erl17 b18
      have g2d := (g2c.but erl15 b17).but erl17 b18
      have g5d := (g5c.but erl15 b17).but erl17 b18
      have hT' := hT.but erl17 b18
      refine ⟨t5, u2, S2, T2, rfl, g5d, hU, asc_keys cP.asc, by omega, fun H19 u3 S3 s19 _ so3 hs3 => ?_⟩
      refine ⟨small' (show 2 ≤ 1000 by decide), fun li nli => ?_⟩
      have s20 := same_upd (o := .lst [.ref u1, .ref u3]) nli
      have eli : upd H19 li (.lst [.ref u1, .ref u3]) li = some (.lst [.ref u1, .ref u3]) := upd_same
      have st := s19.trans s20
      have ro20 := ro18.keep st
      have g1e := g1d.keep st
      have g2e := g2d.keep st
      have hTe := hT'.keep st
      have hSe := hs3.keep s20
      obtain ⟨rl19, erl19⟩ := (ro18.keep s19).lst
      have lir : li ≠ r := (ne_of_none erl19 nli).symm
      generalize upd H19 li (.lst [.ref u1, .ref u3]) = H20 at s20 eli st ro20 g1e g2e hTe hSe
      obtain ⟨rl20, erl20⟩ := ro20.lst
      refine ⟨r, li, [.ref u1, .ref u3], a, ns, rfl, ro20, .inl (.inl eli), lir, (fun z => nomatch z), (by show 2 ≤ 1000; decide), fun H21 i v b21 ro21 ev => ?_⟩
      have g1f := g1e.but erl20 b21
      have g2f := g2e.but erl20 b21
      obtain ⟨tA, third, rfl, hA, cA, zA, wA⟩ : ∃ tA third, v = .ref tA ∧ SumAt H21 tA third ∧ Can N third ∧ third.length ≤ 25 ∧ Within N (-low - 1) (5 - low) third := by
        match i, ev with
        | 0, ev => exact ⟨u1, T1, (Option.some.inj ev).symm, hTe.but erl20 b21, cT, by omega, wT.mono (by omega) (by omega)⟩
        | 1, ev =>
          refine ⟨u3, S3, (Option.some.inj ev).symm, hSe.but erl20 b21, so3.can (accum_len N _ cP.len cU.len), Nat.le_trans so3.length (Nat.le_trans (accum_length _ _) (by omega)), ?_⟩
          exact (Within.accum wP (wU.mono (by omega) (by omega))).sum so3
        | i + 2, ev => cases ev
      clear g1c g2c g5c g1d g2d g5d g1e g2e hT hT' hTe hSe hs3 ro15 ro17 ro18 ro20 ro21
      -- try
      dsimp only [gName]
      show tSeq (tAsg _ _) _ _ _ _
      refine seq_fin (fun σ' H' => ∃ x S, σ' = [some (.ref a), some (.ref r), some (.int (N : Int)), some (.ref t1), some (.ref t2), some (.ref t5), some (.ref tA), some (.ref x), none, none, none, none] ∧ Same H21 H' ∧ SumAt H' x S ∧ Okk N S ∧ S.length ≤ 343 ∧ ∀ k, k.length = N → cf (mulE S other) k = cf third k) ?_ (fun fin3 => ?_)
      · rintro σ' H' ⟨x, S, rfl, s, hx, ok, zS, eS⟩
        refine ⟨_, rfl, _, rfl, .ref x, sumD S, N, rfl, by omega, by omega, dp_sum hx, fun H22 s22 => ⟨_, _, rfl, rfl, _, rfl, ifF (by rw [ok.b]; rfl) ?_⟩⟩
        have zz2 : (S.length + 1) * other.length ≤ 344 * 4 := Nat.mul_le_mul (by omega) z2
        refine ⟨_, rfl, _, rfl, x, t2, S, other, N, rfl, hx.keep s22, g2f.keep (s.trans s22), ok.can.len, c2.len, by omega, by omega, by omega, cM, fun H23 t7 P7 s23 cP7 fP7 zP7 h7 => ?_⟩
        have e7 : P7 = third := can_eq cP7 cA fun k hk => by rw [fP7 k hk, eS k hk]
        subst e7
        refine ⟨_, rfl, sumD P7, sumD P7, dp_sum h7, dp_sum (hA.keep (s.trans (s22.trans s23))), sum_shaped _, sum_shaped _, _, rfl, ifF (by rw [eqv_sum, decide_eq_true rfl]; rfl) ?_⟩
        exact fin _ _ ⟨_, _, rfl, g1f.keep (s.trans (s22.trans s23))⟩
      · refine ⟨_, rfl, _, rfl, _, rfl, tA, t2, third, other, N, -low - 1, rfl, hA, g2f, n1, n3, cA, c2, hO, by omega, by omega, wA.mono (by omega) (by omega), wA.mono (by omega) (by omega), w2', k2, fun e H' x s hx => ?_, fun e z H' s => ?_, fun e H' x S s ok hx => ?_⟩
        · refine fin3 _ _ ⟨x, [], rfl, s, hx, ⟨⟨List.Pairwise.nil, fun p h => (nomatch h), fun p h => (nomatch h)⟩, fun p h => (nomatch h), Nat.zero_le _⟩, Nat.zero_le _, fun k hk => by rw [e]; rfl⟩
        · refine ⟨true, eN, fun _ a0 _ => ?_, fun q => Bool.noConfusion q⟩
          have hA' := hA.keep s
          have g2g := g2f.keep s
          have g1g := g1f.keep s
          refine ⟨_, rfl, fun p o np op => ⟨sumD third, sumD [], dp_sum (hA'.keep (same_upd np)), dp_sum (sum_nil op), sum_shaped _, sum_shaped _, _, rfl, ?_⟩⟩
          have s23 := same_upd (o := .frz o (.tup [])) np
          have hA'' := hA'.keep s23
          have g2h := g2g.keep s23
          have g1h := g1g.keep s23
          generalize upd H' p (.frz o (.tup [])) = H23 at s23 hA'' g2h g1h
          rw [eqv_sum]
          refine ifF (decide_eq_false e) ?_
          obtain ⟨pb, tb, hpb⟩ := g2h
          obtain ⟨pa, ta, hpa⟩ := hA''
          refine ⟨_, rfl, t2, pb.map V.ref, rfl, .inr tb.sq, rfl, _, rfl, ?_⟩
          by_cases hl : other.length = 1
          rotate_left
          · refine ifF ?_ (ifF rfl (fin _ _ ⟨_, _, rfl, g1h⟩))
            rw [List.length_map, hpb.len, dec_int]
            exact beq_false_of_ne (by omega)
          refine ifT (by rw [List.length_map, hpb.len, hl]; rfl) ?_
          obtain ⟨⟨e0, m⟩, rfl⟩ : ∃ x, other = [x] := List.length_eq_one_iff.mp hl
          obtain ⟨tb0, etb, qb, f1, f2⟩ := pairs_get hpb (i := 0) rfl
          have m0 : m ≠ 0 := c2.nz _ (List.mem_singleton.mpr rfl)
          refine ⟨_, rfl, tA, pa.map V.ref, rfl, ta.sq, fun D nD => ⟨fun i H24 => Same H23 H24 ∧ H24 D = some (.lst ((((third.take i).filter fun p => decide (p.2.fmod m ≠ 0)).map (·.2)).map V.int)), ⟨same_upd nD, upd_same⟩, fun i H24 p => sqT_keep p.1 ta.sq, fun i x H24 ex p => ?_, fun H24 p => ?_⟩⟩
          · obtain ⟨s24, e24⟩ := p
            obtain ⟨t, pr, rfl, eL, q0, h1, h2⟩ := pairs_at hpa ex
            refine ⟨t, [.ref q0, .int pr.2], rfl, .inl (.inl (s24 _ _ h1)), rfl, .ref q0, [.int pr.2], rfl, .int pr.2, [], rfl, rfl, rfl, ?_⟩
            refine ⟨_, rfl, _, rfl, t2, pb.map V.ref, 0, .ref tb0, rfl, rfl, sqT_keep s24 tb.sq, atI_nat (j := 0) (by rw [List.getElem?_map, etb]; rfl), tb0, _, 1, .int m, rfl, rfl, .inl (.inl (s24 _ _ f1)), atI_nat (j := 1) rfl, pr.2, m, rfl, rfl, m0, rfl, _, rfl, ?_⟩
            by_cases hm : pr.2.fmod m = 0
            · refine ifF (by show (!decide (V.int (pr.2.fmod m) = V.int 0)) = false; rw [hm]; rfl) ⟨s24, ?_⟩
              rw [take_snoc eL, List.filter_append]
              have : ([pr].filter fun p => decide (p.2.fmod m ≠ 0)) = [] := by simp [hm]
              rw [this, List.append_nil]
              exact e24
            · refine ifT (by show (!decide (V.int (pr.2.fmod m) = V.int 0)) = true; rw [dec_int]; simpa using hm) ⟨_, rfl, _, e24, ?_, fun b o eb => ?_, ?_⟩
              · rw [List.length_map, List.length_map]
                refine small (Nat.le_trans (List.length_filter_le _ _) ?_)
                rw [List.length_take]
                exact Nat.le_trans (Nat.min_le_right _ _) (by omega)
              · have bD : b ≠ D := fun z => by rw [z, nD] at eb; cases eb
                rw [upd_ne bD]
                exact s24 _ _ eb
              · rw [upd_same, take_snoc eL, List.filter_append]
                have : ([pr].filter fun p => decide (p.2.fmod m ≠ 0)) = [pr] := by simp [hm]
                rw [this, List.map_append, List.map_append]
                rfl
          · obtain ⟨s24, e24⟩ := p
            rw [show (pa.map V.ref).length = third.length by rw [List.length_map, hpa.len], take_all] at e24
            refine ⟨Nat.zero_le _, fun p4 np4 => ?_⟩
            have s25 := same_upd (o := .lst []) np4
            refine ⟨.list (((third.filter fun p => decide (p.2.fmod m ≠ 0)).map (·.2)).map PyData.int), .list [], .lst (.inl (.inl (s25 _ _ e24))) (dp_ints _), .lst (.inl (.inl upd_same)) .nil, ints_shaped _, rfl, _, rfl, ?_⟩
            rw [eqv_nil]
            refine ifF (decide_eq_false fun hms => ?_) (fin _ _ ⟨_, _, rfl, g1h.keep (s24.trans s25)⟩)
            exact fail_one cA c2 (some_left m0 (List.map_eq_nil_iff.mp hms)) z
        · exact fin3 _ _ ⟨x, S, rfl, s, hx, ⟨ok.can, fits_of ok.can.len (by omega) ok.within, by have := ok.few; omega⟩, ok.few, ok.eq⟩
    clear g1b g2b g5b ro13
    rintro σ' H' ⟨y6, y7, rfl, g1b⟩
    -- what is no sum
    have vn : MkD K H' [some (.ref a), some (.ref r), some (.int (N : Int)), some (.ref t1), some (.ref t2), some (.ref t5), y6, y7, none, none, none, none] (tVar 2) (.int (N : Int)) := mk_var rfl (.int _)
    have one_ : ∀ (H0 : Hp) (σ : _root_.L2.St) (i : Int), MkD K H0 σ (tTup (tCons (tC (.int i)) tNil)) (.tuple [.int i]) := fun H0 σ i => mk_tup (mka_cons (mk_int i) mka_nil) (show 1 ≤ 1000 by decide)
    have rep : ∀ (i : Int), MkD K H' [some (.ref a), some (.ref r), some (.int (N : Int)), some (.ref t1), some (.ref t2), some (.ref t5), y6, y7, none, none, none, none] (tOp (rRepA K) (tTup (tCons (tC (.int i)) tNil)) (tVar 2)) (repI N i) := fun i => mk_rep (one_ _ _ i) vn n1 (by omega)
    have two : ∀ {H0 : Hp} {σ : _root_.L2.St} {t u : TE} {d e : PyData}, MkD K H0 σ t d → MkD K H0 σ u e → MkD K H0 σ (tTup (tCons t (tCons u tNil))) (.tuple [d, e]) := fun h g => mk_tup (mka_cons h (mka_cons g mka_nil)) (show 2 ≤ 1000 by decide)
    have sgl : ∀ {H0 : Hp} {σ : _root_.L2.St} {t : TE} {d : PyData}, MkD K H0 σ t d → MkD K H0 σ (tTup (tCons t tNil)) (.tuple [d]) := fun h => mk_tup (mka_cons h mka_nil) (show 1 ≤ 1000 by decide)
    have rep1 : MkD K H' [some (.ref a), some (.ref r), some (.int (N : Int)), some (.ref t1), some (.ref t2), some (.ref t5), y6, y7, none, none, none, none] (tOp (rRepA K) (tTup (tCons (tC (.int 1)) tNil)) (tOp (rI0 fun i j => .int (i + j)) (tVar 2) (tC (.int 1)))) (repI (N + 1) 1) :=
      mk_rep (one_ _ _ 1) (by rw [show ((N + 1 : Nat) : Int) = (N : Int) + 1 by omega]; exact mk_add vn (mk_int 1)) (by omega) (by omega)
    have mA := mka_cons (H0 := H') (K := K) mk_non (mka_cons (mk_list (ds := one.map termD) (mk_var (i := 3) rfl (dp_sum g1b))) (mka_cons (two (rep 1) (mk_int 1)) (mka_cons (sgl (two (rep 1) (mk_int 0))) (mka_cons (sgl (two rep1 (mk_int 1)))
      (mka_cons (sgl (two (mk_repL (k := N) (mk_int 1) vn (by omega)) (mk_int 1))) (mka_cons (sgl (two (rep 1) (mk_bl true))) (mka_cons (sgl (two (mk_rep (k := N) (sgl (mk_bl true)) vn n1 (by omega)) (mk_int 1))) mka_nil)))))))
    refine seq_set_lst ?_
    refine mA H' _ (Same.refl H') (fun H2 xs s2 hx => ⟨by rw [dpAll_len hx]; exact small' (show 8 ≤ 1000 by decide), fun p8 np8 => ?_⟩)
    have s3 := same_upd (o := .lst xs) np8
    have e3 : upd H2 p8 (.lst xs) p8 = some (.lst xs) := upd_same
    have hx3 := dpAll_keep s3 _ _ hx
    have g1c := g1b.keep (s2.trans s3)
    generalize upd H2 p8 (.lst xs) = H3 at s3 e3 hx3 g1c
    have vn3 : MkD K H3 [some (.ref a), some (.ref r), some (.int (N : Int)), some (.ref t1), some (.ref t2), some (.ref t5), y6, y7, some (.ref p8), none, none, none] (tVar 2) (.int (N : Int)) := mk_var rfl (.int _)
    have rep3 : ∀ (i : Int), MkD K H3 [some (.ref a), some (.ref r), some (.int (N : Int)), some (.ref t1), some (.ref t2), some (.ref t5), y6, y7, some (.ref p8), none, none, none] (tOp (rRepA K) (tTup (tCons (tC (.int i)) tNil)) (tVar 2)) (repI N i) := fun i => mk_rep (one_ _ _ i) vn3 n1 (by omega)
    have mB := mka_cons (H0 := H3) (K := K) (two (two (rep3 1) (mk_int 1)) (two (rep3 0) (mk_int 1))) (mka_cons (two (two (rep3 1) (mk_int 1)) (two (rep3 1) (mk_int 2))) (mka_cons (sgl (two (rep3 1001) (mk_int 1))) (mka_cons (sgl (sgl (rep3 1)))
      (mka_cons (mk_int 3) (mka_cons (mk_str "x") (mka_cons (sgl (two (rep3 1) (mk_str "1"))) mka_nil))))))
    refine seq_set_cat rfl ?_
    show tCons _ _ [some (.ref a), some (.ref r), some (.int (N : Int)), some (.ref t1), some (.ref t2), some (.ref t5), y6, y7, some (.ref p8), none, none, none] H3 _
    refine mB H3 _ (Same.refl H3) (fun H4 ys s4 hy => ⟨by rw [dpAll_len hy]; exact small' (show 7 ≤ 1000 by decide), fun p9 np9 => ?_⟩)
    have s5 := same_upd (o := .lst ys) np9
    have lx := dpAll_len hx3
    have ly := dpAll_len hy
    refine ⟨p8, p9, xs, ys, rfl, rfl, s5 _ _ (s4 _ _ e3), upd_same, by rw [lx, ly]; exact small' (show 15 ≤ 1000 by decide), fun p10 np10 => ?_⟩
    have s6 := same_upd (o := .lst (xs ++ ys)) np10
    have e6 : upd (upd H4 p9 (.lst ys)) p10 (.lst (xs ++ ys)) p10 = some (.lst (xs ++ ys)) := upd_same
    have g1d := g1c.keep (s4.trans (s5.trans s6))
    have hall := dpAll_append (dpAll_keep (s4.trans (s5.trans s6)) _ _ hx3) (dpAll_keep (s5.trans s6) _ _ hy)
    generalize upd (upd H4 p9 (.lst ys)) p10 (.lst (xs ++ ys)) = H6 at s6 e6 g1d hall
    have hbad : ∀ d ∈ badA N one ++ badB N, sumB N d = false := bad_no n1 n3
    refine ⟨_, rfl, p10, rfl, ⟨_, .inl (.inl e6)⟩, fun D nD => ?_⟩
    refine lc_it (walk_list (K := K) (a := p10) (xs := xs ++ ys)) (fun i H7 => Same H6 H7 ∧ H7 D = some (.lst [])) ⟨same_upd nD, upd_same⟩ (fun i H7 _ p => .inl (.inl (p.1 _ _ e6))) (fun i v H7 H8 hi p y => ?_) (fun H7 p => ?_)
    · obtain ⟨rfl, ev⟩ := y
      obtain ⟨s7, e7⟩ := p
      obtain ⟨d, ed, hd⟩ := dpAll_at hall ev
      refine ⟨rfl, _, rfl, _, rfl, v, d, N, rfl, by omega, by omega, dp_keep s7 d _ hd, fun H9 s9 => ⟨_, _, rfl, rfl, _, rfl, ifF (by rw [hbad d (List.mem_of_getElem? ed)]; rfl) ⟨s7.trans s9, s9 _ _ e7⟩⟩⟩
    · obtain ⟨s7, e7⟩ := p
      refine ⟨Nat.zero_le _, fun p4 np4 => ?_⟩
      have s8 := same_upd (o := .lst []) np4
      refine ⟨.list [], .list [], .lst (.inl (.inl (s8 _ _ e7))) .nil, .lst (.inl (.inl upd_same)) .nil, rfl, rfl, _, rfl, ifF rfl ?_⟩
      have g1e := g1d.keep (s7.trans s8)
      generalize upd H7 p4 (.lst []) = H8 at g1e
      refine ⟨_, rfl, _, rfl, .ref t1, sumD one, N, rfl, by omega, by omega, dp_sum g1e, fun H9 s9 => ⟨_, _, rfl, rfl, _, rfl, ifF (by rw [o1.b]; rfl) ?_⟩⟩
      refine ⟨_, rfl, fun p o np op => ⟨.ref p, .tuple [], N, rfl, by omega, by omega, dp_sum (sum_nil op), fun H10 s10 => ⟨_, _, rfl, rfl, _, rfl, ifT rfl ?_⟩⟩⟩
      have vn4 : MkD K H10 [some (.ref a), some (.ref r), some (.int (N : Int)), some (.ref t1), some (.ref t2), some (.ref t5), y6, y7, some (.ref p10), none, none, none] (tVar 2) (.int (N : Int)) := mk_var rfl (.int _)
      have mH := sgl (H0 := H10) (two (mk_rep (k := N) (sgl (mk_sub (mk_int 0) (mk_int 1000))) vn4 n1 (by omega)) (mk_pow (mk_int 10) (mk_int 30) ⟨by decide, by decide, by decide⟩))
      refine ⟨_, rfl, cons_of ?_⟩
      show tTup _ [some (.ref a), some (.ref r), some (.int (N : Int)), some (.ref t1), some (.ref t2), some (.ref t5), y6, y7, some (.ref p10), none, none, none] H10 _
      refine mH H10 _ (Same.refl H10) (fun H11 x s11 hx => ⟨x, _, N, rfl, by omega, by omega, hx, fun H12 s12 => ⟨_, _, rfl, rfl, ?_⟩⟩)
      have hy := huge_yes n1 n3
      have e : sumB N (.tuple [.tuple [.tuple (List.replicate N (.int (0 - 1000))), .int (10 ^ (30 : Int).toNat)]]) = true := hy
      rw [e]
      exact q H12
end
end Dw
/-! What the top has written; the end. -/
namespace Dw
open PySem PySem.Spec PyProof.Rows L2
theorem exm_own {K : PySem.W.Frag} {S : Addr} (b : PySem.W.subIn K (.ref S) (.type "BaseException") = some true) (i : PySem.W.isClsIn K S = true) (t : PySem.W.typeIn K (.ref S) = some (.type "type")) (s : PySem.W.subIn K (.ref S) (.ref S) = some true) : PySem.W.exmOne K (.ref S) (.ref S) = some true := by
  have i' : (PySem.W.clsIn K S).isSome = true := i
  unfold PySem.W.exmOne
  simp [PySem.W.kitCls, b, t, s, i']
set_option maxHeartbeats 0 in
theorem all_mk {l : PySem.W.OpenLaw} {w : World} {K : PySem.W.Frag} {h : Heap} {mg : Str → Option Value} {fa : Addr} (X : K.In h) (G : h.Ns mainGlobals mg) (hfa : mg "law" = some (.ref fa))
    {fII : Addr} {odII anII : Option Addr} {slII : Array (Option Value)} {ocII kVII dcII pmII cdII ctII : Value}
    {fFR : Addr} {odFR anFR : Option Addr} {slFR : Array (Option Value)} {ocFR kVFR dcFR pmFR cdFR ctFR : Value}
    {fNC : Addr} {odNC anNC : Option Addr} {slNC : Array (Option Value)} {ocNC kVNC dcNC pmNC cdNC ctNC : Value}
    {fPA : Addr} {odPA anPA : Option Addr} {slPA : Array (Option Value)} {ocPA kVPA dcPA pmPA cdPA ctPA : Value}
    {fSO : Addr} {odSO anSO : Option Addr} {slSO : Array (Option Value)} {ocSO kVSO dcSO pmSO cdSO ctSO : Value}
    {fIS : Addr} {odIS anIS : Option Addr} {slIS : Array (Option Value)} {ocIS kVIS dcIS pmIS cdIS ctIS : Value}
    {fNS : Addr} {odNS anNS : Option Addr} {slNS : Array (Option Value)} {ocNS kVNS dcNS pmNS cdNS ctNS : Value}
    {fNN : Addr} {odNN anNN : Option Addr} {slNN : Array (Option Value)} {ocNN kVNN dcNN pmNN cdNN ctNN : Value}
    {fSU : Addr} {odSU anSU : Option Addr} {slSU : Array (Option Value)} {ocSU kVSU dcSU pmSU cdSU ctSU : Value}
    {fAD : Addr} {odAD anAD : Option Addr} {slAD : Array (Option Value)} {ocAD kVAD dcAD pmAD cdAD ctAD : Value}
    {fPR : Addr} {odPR anPR : Option Addr} {slPR : Array (Option Value)} {ocPR kVPR dcPR pmPR cdPR ctPR : Value}
    {fMU : Addr} {odMU anMU : Option Addr} {slMU : Array (Option Value)} {ocMU kVMU dcMU pmMU cdMU ctMU : Value}
    {fPL : Addr} {odPL anPL : Option Addr} {slPL : Array (Option Value)} {ocPL kVPL dcPL pmPL cdPL ctPL : Value}
    {fTI : Addr} {odTI anTI : Option Addr} {slTI : Array (Option Value)} {ocTI kVTI dcTI pmTI cdTI ctTI : Value}
    {fLO : Addr} {odLO anLO : Option Addr} {slLO : Array (Option Value)} {ocLO kVLO dcLO pmLO cdLO ctLO : Value}
    {fGR : Addr} {odGR anGR : Option Addr} {slGR : Array (Option Value)} {ocGR kVGR dcGR pmGR cdGR ctGR : Value}
    {fMO : Addr} {odMO anMO : Option Addr} {slMO : Array (Option Value)} {ocMO kVMO dcMO pmMO cdMO ctMO : Value}
    {fDI : Addr} {odDI anDI : Option Addr} {slDI : Array (Option Value)} {ocDI kVDI dcDI pmDI cdDI ctDI : Value}
    {fOV : Addr} {odOV anOV : Option Addr} {slOV : Array (Option Value)} {ocOV kVOV dcOV pmOV cdOV ctOV : Value}
    {fTA : Addr} {odTA anTA : Option Addr} {slTA : Array (Option Value)} {ocTA kVTA dcTA pmTA cdTA ctTA : Value}
    {fPI : Addr} {odPI anPI : Option Addr} {slPI : Array (Option Value)} {ocPI kVPI dcPI pmPI cdPI ctPI : Value}
    {fAL : Addr} {odAL anAL : Option Addr} {slAL : Array (Option Value)} {ocAL kVAL dcAL pmAL cdAL ctAL : Value}
    {fLS : Addr} {odLS anLS : Option Addr} {slLS : Array (Option Value)} {ocLS kVLS dcLS pmLS cdLS ctLS : Value}
    {fLP : Addr} {odLP anLP : Option Addr} {slLP : Array (Option Value)} {ocLP kVLP dcLP pmLP cdLP ctLP : Value}
    {fLT : Addr} {odLT anLT : Option Addr} {slLT : Array (Option Value)} {ocLT kVLT dcLT pmLT cdLT ctLT : Value}
    {fLA : Addr} {odLA anLA : Option Addr} {slLA : Array (Option Value)} {ocLA kVLA dcLA pmLA cdLA ctLA : Value}
    {CN : Addr} {tN tP tE : Tok}
    (aII : PySem.W.nsIn K mainGlobals "is_integer" = some (some (.ref fII)))
    (lII : K.lookup fII = some ⟨ocII, odII, .func (PySem.W.fnOf "is_integer" "is_integer" (defArgs sIsInteger) (defBody sIsInteger) (defScope sIsInteger) .none kVII dcII pmII anII cdII ctII), slII⟩)
    (cII : PySem.W.codeIn K cdII "is_integer" = true) (kII : PySem.W.keepIn K (.ref fII) = true)
    (aFR : PySem.W.nsIn K mainGlobals "is_from" = some (some (.ref fFR)))
    (lFR : K.lookup fFR = some ⟨ocFR, odFR, .func (PySem.W.fnOf "is_from" "is_from" (defArgs sIsFrom) (defBody sIsFrom) (defScope sIsFrom) .none kVFR dcFR pmFR anFR cdFR ctFR), slFR⟩)
    (cFR : PySem.W.codeIn K cdFR "is_from" = true) (kFR : PySem.W.keepIn K (.ref fFR) = true)
    (aNC : PySem.W.nsIn K mainGlobals "need_count" = some (some (.ref fNC)))
    (lNC : K.lookup fNC = some ⟨ocNC, odNC, .func (PySem.W.fnOf "need_count" "need_count" (defArgs sNeedCount) (defBody sNeedCount) (defScope sNeedCount) .none kVNC dcNC pmNC anNC cdNC ctNC), slNC⟩)
    (cNC : PySem.W.codeIn K cdNC "need_count" = true) (kNC : PySem.W.keepIn K (.ref fNC) = true)
    (aPA : PySem.W.nsIn K mainGlobals "is_pair" = some (some (.ref fPA)))
    (lPA : K.lookup fPA = some ⟨ocPA, odPA, .func (PySem.W.fnOf "is_pair" "is_pair" (defArgs sIsPair) (defBody sIsPair) (defScope sIsPair) .none kVPA dcPA pmPA anPA cdPA ctPA), slPA⟩)
    (cPA : PySem.W.codeIn K cdPA "is_pair" = true) (kPA : PySem.W.keepIn K (.ref fPA) = true)
    (aSO : PySem.W.nsIn K mainGlobals "is_sum_of" = some (some (.ref fSO)))
    (lSO : K.lookup fSO = some ⟨ocSO, odSO, .func (PySem.W.fnOf "is_sum_of" "is_sum_of" (defArgs sIsSumOf) (defBody sIsSumOf) (defScope sIsSumOf) .none kVSO dcSO pmSO anSO cdSO ctSO), slSO⟩)
    (cSO : PySem.W.codeIn K cdSO "is_sum_of" = true) (kSO : PySem.W.keepIn K (.ref fSO) = true)
    (aIS : PySem.W.nsIn K mainGlobals "is_sum" = some (some (.ref fIS)))
    (lIS : K.lookup fIS = some ⟨ocIS, odIS, .func (PySem.W.fnOf "is_sum" "is_sum" (defArgs sIsSum) (defBody sIsSum) (defScope sIsSum) .none kVIS dcIS pmIS anIS cdIS ctIS), slIS⟩)
    (cIS : PySem.W.codeIn K cdIS "is_sum" = true) (kIS : PySem.W.keepIn K (.ref fIS) = true)
    (aNS : PySem.W.nsIn K mainGlobals "need_sum" = some (some (.ref fNS)))
    (lNS : K.lookup fNS = some ⟨ocNS, odNS, .func (PySem.W.fnOf "need_sum" "need_sum" (defArgs sNeedSum) (defBody sNeedSum) (defScope sNeedSum) .none kVNS dcNS pmNS anNS cdNS ctNS), slNS⟩)
    (cNS : PySem.W.codeIn K cdNS "need_sum" = true) (kNS : PySem.W.keepIn K (.ref fNS) = true)
    (aNN : PySem.W.nsIn K mainGlobals "need_sums" = some (some (.ref fNN)))
    (lNN : K.lookup fNN = some ⟨ocNN, odNN, .func (PySem.W.fnOf "need_sums" "need_sums" (defArgs sNeedSums) (defBody sNeedSums) (defScope sNeedSums) .none kVNN dcNN pmNN anNN cdNN ctNN), slNN⟩)
    (cNN : PySem.W.codeIn K cdNN "need_sums" = true) (kNN : PySem.W.keepIn K (.ref fNN) = true)
    (aSU : PySem.W.nsIn K mainGlobals "sum_of" = some (some (.ref fSU)))
    (lSU : K.lookup fSU = some ⟨ocSU, odSU, .func (PySem.W.fnOf "sum_of" "sum_of" (defArgs sSumOf) (defBody sSumOf) (defScope sSumOf) .none kVSU dcSU pmSU anSU cdSU ctSU), slSU⟩)
    (cSU : PySem.W.codeIn K cdSU "sum_of" = true) (kSU : PySem.W.keepIn K (.ref fSU) = true)
    (aAD : PySem.W.nsIn K mainGlobals "added" = some (some (.ref fAD)))
    (lAD : K.lookup fAD = some ⟨ocAD, odAD, .func (PySem.W.fnOf "added" "added" (defArgs sAdded) (defBody sAdded) (defScope sAdded) .none kVAD dcAD pmAD anAD cdAD ctAD), slAD⟩)
    (cAD : PySem.W.codeIn K cdAD "added" = true) (kAD : PySem.W.keepIn K (.ref fAD) = true)
    (aPR : PySem.W.nsIn K mainGlobals "product_of" = some (some (.ref fPR)))
    (lPR : K.lookup fPR = some ⟨ocPR, odPR, .func (PySem.W.fnOf "product_of" "product_of" (defArgs sProductOf) (defBody sProductOf) (defScope sProductOf) .none kVPR dcPR pmPR anPR cdPR ctPR), slPR⟩)
    (cPR : PySem.W.codeIn K cdPR "product_of" = true) (kPR : PySem.W.keepIn K (.ref fPR) = true)
    (aMU : PySem.W.nsIn K mainGlobals "multiplied" = some (some (.ref fMU)))
    (lMU : K.lookup fMU = some ⟨ocMU, odMU, .func (PySem.W.fnOf "multiplied" "multiplied" (defArgs sMultiplied) (defBody sMultiplied) (defScope sMultiplied) .none kVMU dcMU pmMU anMU cdMU ctMU), slMU⟩)
    (cMU : PySem.W.codeIn K cdMU "multiplied" = true) (kMU : PySem.W.keepIn K (.ref fMU) = true)
    (aPL : PySem.W.nsIn K mainGlobals "plus" = some (some (.ref fPL)))
    (lPL : K.lookup fPL = some ⟨ocPL, odPL, .func (PySem.W.fnOf "plus" "plus" (defArgs sPlus) (defBody sPlus) (defScope sPlus) .none kVPL dcPL pmPL anPL cdPL ctPL), slPL⟩)
    (cPL : PySem.W.codeIn K cdPL "plus" = true) (kPL : PySem.W.keepIn K (.ref fPL) = true)
    (aTI : PySem.W.nsIn K mainGlobals "times" = some (some (.ref fTI)))
    (lTI : K.lookup fTI = some ⟨ocTI, odTI, .func (PySem.W.fnOf "times" "times" (defArgs sTimes) (defBody sTimes) (defScope sTimes) .none kVTI dcTI pmTI anTI cdTI ctTI), slTI⟩)
    (cTI : PySem.W.codeIn K cdTI "times" = true) (kTI : PySem.W.keepIn K (.ref fTI) = true)
    (aLO : PySem.W.nsIn K mainGlobals "lowest" = some (some (.ref fLO)))
    (lLO : K.lookup fLO = some ⟨ocLO, odLO, .func (PySem.W.fnOf "lowest" "lowest" (defArgs sLowest) (defBody sLowest) (defScope sLowest) .none kVLO dcLO pmLO anLO cdLO ctLO), slLO⟩)
    (cLO : PySem.W.codeIn K cdLO "lowest" = true) (kLO : PySem.W.keepIn K (.ref fLO) = true)
    (aGR : PySem.W.nsIn K mainGlobals "greatest" = some (some (.ref fGR)))
    (lGR : K.lookup fGR = some ⟨ocGR, odGR, .func (PySem.W.fnOf "greatest" "greatest" (defArgs sGreatest) (defBody sGreatest) (defScope sGreatest) .none kVGR dcGR pmGR anGR cdGR ctGR), slGR⟩)
    (cGR : PySem.W.codeIn K cdGR "greatest" = true) (kGR : PySem.W.keepIn K (.ref fGR) = true)
    (aMO : PySem.W.nsIn K mainGlobals "moved" = some (some (.ref fMO)))
    (lMO : K.lookup fMO = some ⟨ocMO, odMO, .func (PySem.W.fnOf "moved" "moved" (defArgs sMoved) (defBody sMoved) (defScope sMoved) .none kVMO dcMO pmMO anMO cdMO ctMO), slMO⟩)
    (cMO : PySem.W.codeIn K cdMO "moved" = true) (kMO : PySem.W.keepIn K (.ref fMO) = true)
    (aDI : PySem.W.nsIn K mainGlobals "divided" = some (some (.ref fDI)))
    (lDI : K.lookup fDI = some ⟨ocDI, odDI, .func (PySem.W.fnOf "divided" "divided" (defArgs sDivided) (defBody sDivided) (defScope sDivided) .none kVDI dcDI pmDI anDI cdDI ctDI), slDI⟩)
    (cDI : PySem.W.codeIn K cdDI "divided" = true) (kDI : PySem.W.keepIn K (.ref fDI) = true)
    (aOV : PySem.W.nsIn K mainGlobals "over" = some (some (.ref fOV)))
    (lOV : K.lookup fOV = some ⟨ocOV, odOV, .func (PySem.W.fnOf "over" "over" (defArgs sOver) (defBody sOver) (defScope sOver) .none kVOV dcOV pmOV anOV cdOV ctOV), slOV⟩)
    (cOV : PySem.W.codeIn K cdOV "over" = true) (kOV : PySem.W.keepIn K (.ref fOV) = true)
    (aTA : PySem.W.nsIn K mainGlobals "_law_taken" = some (some (.ref fTA)))
    (lTA : K.lookup fTA = some ⟨ocTA, odTA, .func (PySem.W.fnOf "_law_taken" "_law_taken" (defArgs sTaken) (defBody sTaken) (defScope sTaken) .none kVTA dcTA pmTA anTA cdTA ctTA), slTA⟩)
    (cTA : PySem.W.codeIn K cdTA "_law_taken" = true) (kTA : PySem.W.keepIn K (.ref fTA) = true)
    (aPI : PySem.W.nsIn K mainGlobals "_law_pick" = some (some (.ref fPI)))
    (lPI : K.lookup fPI = some ⟨ocPI, odPI, .func (PySem.W.fnOf "_law_pick" "_law_pick" (defArgs sPick) (defBody sPick) (defScope sPick) .none kVPI dcPI pmPI anPI cdPI ctPI), slPI⟩)
    (cPI : PySem.W.codeIn K cdPI "_law_pick" = true) (kPI : PySem.W.keepIn K (.ref fPI) = true)
    (aAL : PySem.W.nsIn K mainGlobals "_law_alike" = some (some (.ref fAL)))
    (lAL : K.lookup fAL = some ⟨ocAL, odAL, .func (PySem.W.fnOf "_law_alike" "_law_alike" (defArgs sAlike) (defBody sAlike) (defScope sAlike) .none kVAL dcAL pmAL anAL cdAL ctAL), slAL⟩)
    (cAL : PySem.W.codeIn K cdAL "_law_alike" = true) (kAL : PySem.W.keepIn K (.ref fAL) = true)
    (aLS : PySem.W.nsIn K mainGlobals "_law_sum" = some (some (.ref fLS)))
    (lLS : K.lookup fLS = some ⟨ocLS, odLS, .func (PySem.W.fnOf "_law_sum" "_law_sum" (defArgs sLawSum) (defBody sLawSum) (defScope sLawSum) .none kVLS dcLS pmLS anLS cdLS ctLS), slLS⟩)
    (cLS : PySem.W.codeIn K cdLS "_law_sum" = true) (kLS : PySem.W.keepIn K (.ref fLS) = true)
    (aLP : PySem.W.nsIn K mainGlobals "_law_plus_sums" = some (some (.ref fLP)))
    (lLP : K.lookup fLP = some ⟨ocLP, odLP, .func (PySem.W.fnOf "_law_plus_sums" "_law_plus_sums" (defArgs sLawPlus) (defBody sLawPlus) (defScope sLawPlus) .none kVLP dcLP pmLP anLP cdLP ctLP), slLP⟩)
    (cLP : PySem.W.codeIn K cdLP "_law_plus_sums" = true) (kLP : PySem.W.keepIn K (.ref fLP) = true)
    (aLT : PySem.W.nsIn K mainGlobals "_law_times_sums" = some (some (.ref fLT)))
    (lLT : K.lookup fLT = some ⟨ocLT, odLT, .func (PySem.W.fnOf "_law_times_sums" "_law_times_sums" (defArgs sLawTimes) (defBody sLawTimes) (defScope sLawTimes) .none kVLT dcLT pmLT anLT cdLT ctLT), slLT⟩)
    (cLT : PySem.W.codeIn K cdLT "_law_times_sums" = true) (kLT : PySem.W.keepIn K (.ref fLT) = true)
    (aLA : PySem.W.nsIn K mainGlobals "law" = some (some (.ref fLA)))
    (lLA : K.lookup fLA = some ⟨ocLA, odLA, .func (PySem.W.fnOf "law" "law" (defArgs sLaw) (defBody sLaw) (defScope sLaw) .none kVLA dcLA pmLA anLA cdLA ctLA), slLA⟩)
    (cLA : PySem.W.codeIn K cdLA "law" = true) (kLA : PySem.W.keepIn K (.ref fLA) = true)
    (z_isinstance : PySem.W.nsIn K mainGlobals "isinstance" = some none)
    (z_int : PySem.W.nsIn K mainGlobals "int" = some none)
    (z_bool : PySem.W.nsIn K mainGlobals "bool" = some none)
    (z_tuple : PySem.W.nsIn K mainGlobals "tuple" = some none)
    (z_len : PySem.W.nsIn K mainGlobals "len" = some none)
    (z_all : PySem.W.nsIn K mainGlobals "all" = some none)
    (z_zip : PySem.W.nsIn K mainGlobals "zip" = some none)
    (z_sorted : PySem.W.nsIn K mainGlobals "sorted" = some none)
    (z_any : PySem.W.nsIn K mainGlobals "any" = some none)
    (z_abs : PySem.W.nsIn K mainGlobals "abs" = some none)
    (z_dict : PySem.W.nsIn K mainGlobals "dict" = some none)
    (z_range : PySem.W.nsIn K mainGlobals "range" = some none)
    (z_min : PySem.W.nsIn K mainGlobals "min" = some none)
    (z_list : PySem.W.nsIn K mainGlobals "list" = some none)
    (z_max : PySem.W.nsIn K mainGlobals "max" = some none)
    (z_str : PySem.W.nsIn K mainGlobals "str" = some none)
    (gN : PySem.W.nsIn K mainGlobals "MOST_NODES" = some (some (.int 6 tN))) (gP : PySem.W.nsIn K mainGlobals "MOST_PAIRS" = some (some (.int 500 tP))) (gE : PySem.W.nsIn K mainGlobals "MOST_EXPONENT" = some (some (.int 1000 tE)))
    (eA : PySem.W.nsIn K mainGlobals "NotEven" = some (some (.ref CN))) (eQ : PySem.W.excIn K CN [.type "ValueError", .type "Exception", .type "BaseException", .type "object"] "ValueError.__new__" = true) (eK : PySem.W.keepIn K (.ref CN) = true)
    (eB : PySem.W.subIn K (.ref CN) (.type "BaseException") = some true) (eT : PySem.W.typeIn K (.ref CN) = some (.type "type")) (eI : PySem.W.isClsIn K CN = true) (eS : PySem.W.subIn K (.ref CN) (.ref CN) = some true) :
    ∃ fd : FuncData, (∀ (s : Shared) (v : Value), BindsTo s fd ⟨[v], []⟩ [("_law_script", v)]) ∧ ∀ base : Heap, K.In base → base.Ns mainGlobals mg → FnOk l.prog w K mg base CX0 8 fa fd ["_law_script"] (spLaw K) := by
  have e := hfa.symm.trans (PySem.W.mg_of X G aLA)
  cases e
  have FII := fun_mk (st := sIsInteger) lII cII kII
  have bII := FII.binds (ps := ["value"]) fun _ _ _ _ _ _ us hl => match us, hl with | [_], _ => rfl
  have mII := PySem.W.mg_of X G aII
  have FFR := fun_mk (st := sIsFrom) lFR cFR kFR
  have bFR := FFR.binds (ps := ["value", "low", "high"]) fun _ _ _ _ _ _ us hl => match us, hl with | [_, _, _], _ => rfl
  have mFR := PySem.W.mg_of X G aFR
  have FNC := fun_mk (st := sNeedCount) lNC cNC kNC
  have bNC := FNC.binds (ps := ["value"]) fun _ _ _ _ _ _ us hl => match us, hl with | [_], _ => rfl
  have mNC := PySem.W.mg_of X G aNC
  have FPA := fun_mk (st := sIsPair) lPA cPA kPA
  have bPA := FPA.binds (ps := ["n", "value"]) fun _ _ _ _ _ _ us hl => match us, hl with | [_, _], _ => rfl
  have mPA := PySem.W.mg_of X G aPA
  have FSO := fun_mk (st := sIsSumOf) lSO cSO kSO
  have bSO := FSO.binds (ps := ["n", "value"]) fun _ _ _ _ _ _ us hl => match us, hl with | [_, _], _ => rfl
  have mSO := PySem.W.mg_of X G aSO
  have FIS := fun_mk (st := sIsSum) lIS cIS kIS
  have bIS := FIS.binds (ps := ["n", "value"]) fun _ _ _ _ _ _ us hl => match us, hl with | [_, _], _ => rfl
  have mIS := PySem.W.mg_of X G aIS
  have FNS := fun_mk (st := sNeedSum) lNS cNS kNS
  have bNS := FNS.binds (ps := ["n", "value"]) fun _ _ _ _ _ _ us hl => match us, hl with | [_, _], _ => rfl
  have mNS := PySem.W.mg_of X G aNS
  have FNN := fun_mk (st := sNeedSums) lNN cNN kNN
  have bNN := FNN.binds (ps := ["n", "one", "other"]) fun _ _ _ _ _ _ us hl => match us, hl with | [_, _, _], _ => rfl
  have mNN := PySem.W.mg_of X G aNN
  have FSU := fun_mk (st := sSumOf) lSU cSU kSU
  have bSU := FSU.binds (ps := ["counts"]) fun _ _ _ _ _ _ us hl => match us, hl with | [_], _ => rfl
  have mSU := PySem.W.mg_of X G aSU
  have FAD := fun_mk (st := sAdded) lAD cAD kAD
  have bAD := FAD.binds (ps := ["one", "other"]) fun _ _ _ _ _ _ us hl => match us, hl with | [_, _], _ => rfl
  have mAD := PySem.W.mg_of X G aAD
  have FPR := fun_mk (st := sProductOf) lPR cPR kPR
  have bPR := FPR.binds (ps := ["one", "other"]) fun _ _ _ _ _ _ us hl => match us, hl with | [_, _], _ => rfl
  have mPR := PySem.W.mg_of X G aPR
  have FMU := fun_mk (st := sMultiplied) lMU cMU kMU
  have bMU := FMU.binds (ps := ["one", "other"]) fun _ _ _ _ _ _ us hl => match us, hl with | [_, _], _ => rfl
  have mMU := PySem.W.mg_of X G aMU
  have FPL := fun_mk (st := sPlus) lPL cPL kPL
  have bPL := FPL.binds (ps := ["n", "one", "other"]) fun _ _ _ _ _ _ us hl => match us, hl with | [_, _, _], _ => rfl
  have mPL := PySem.W.mg_of X G aPL
  have FTI := fun_mk (st := sTimes) lTI cTI kTI
  have bTI := FTI.binds (ps := ["n", "one", "other"]) fun _ _ _ _ _ _ us hl => match us, hl with | [_, _, _], _ => rfl
  have mTI := PySem.W.mg_of X G aTI
  have FLO := fun_mk (st := sLowest) lLO cLO kLO
  have bLO := FLO.binds (ps := ["one"]) fun _ _ _ _ _ _ us hl => match us, hl with | [_], _ => rfl
  have mLO := PySem.W.mg_of X G aLO
  have FGR := fun_mk (st := sGreatest) lGR cGR kGR
  have bGR := FGR.binds (ps := ["counts"]) fun _ _ _ _ _ _ us hl => match us, hl with | [_], _ => rfl
  have mGR := PySem.W.mg_of X G aGR
  have FMO := fun_mk (st := sMoved) lMO cMO kMO
  have bMO := FMO.binds (ps := ["one", "by"]) fun _ _ _ _ _ _ us hl => match us, hl with | [_, _], _ => rfl
  have mMO := PySem.W.mg_of X G aMO
  have FDI := fun_mk (st := sDivided) lDI cDI kDI
  have bDI := FDI.binds (ps := ["one", "other"]) fun _ _ _ _ _ _ us hl => match us, hl with | [_, _], _ => rfl
  have mDI := PySem.W.mg_of X G aDI
  have FOV := fun_mk (st := sOver) lOV cOV kOV
  have bOV := FOV.binds (ps := ["n", "one", "other"]) fun _ _ _ _ _ _ us hl => match us, hl with | [_, _, _], _ => rfl
  have mOV := PySem.W.mg_of X G aOV
  have FTA := fun_mk (st := sTaken) lTA cTA kTA
  have bTA := FTA.binds (ps := ["_law_row", "_law_many"]) fun _ _ _ _ _ _ us hl => match us, hl with | [_, _], _ => rfl
  have mTA := PySem.W.mg_of X G aTA
  have FPI := fun_mk (st := sPick) lPI cPI kPI
  have bPI := FPI.binds (ps := ["_law_row", "_law_things"]) fun _ _ _ _ _ _ us hl => match us, hl with | [_, _], _ => rfl
  have mPI := PySem.W.mg_of X G aPI
  have FAL := fun_mk (st := sAlike) lAL cAL kAL
  have bAL := FAL.binds (ps := ["_law_found", "_law_due"]) fun _ _ _ _ _ _ us hl => match us, hl with | [_, _], _ => rfl
  have mAL := PySem.W.mg_of X G aAL
  have FLS := fun_mk (st := sLawSum) lLS cLS kLS
  have bLS := FLS.binds (ps := ["_law_row", "_law_n", "_law_most", "_law_low"]) fun _ _ _ _ _ _ us hl => match us, hl with | [_, _, _, _], _ => rfl
  have mLS := PySem.W.mg_of X G aLS
  have FLP := fun_mk (st := sLawPlus) lLP cLP kLP
  have bLP := FLP.binds (ps := ["_law_one", "_law_other"]) fun _ _ _ _ _ _ us hl => match us, hl with | [_, _], _ => rfl
  have mLP := PySem.W.mg_of X G aLP
  have FLT := fun_mk (st := sLawTimes) lLT cLT kLT
  have bLT := FLT.binds (ps := ["_law_one", "_law_other"]) fun _ _ _ _ _ _ us hl => match us, hl with | [_, _], _ => rfl
  have mLT := PySem.W.mg_of X G aLT
  have FLA := fun_mk (st := sLaw) lLA cLA kLA
  have n_isinstance := PySem.W.mg_none_of X G z_isinstance
  have n_int := PySem.W.mg_none_of X G z_int
  have n_bool := PySem.W.mg_none_of X G z_bool
  have n_tuple := PySem.W.mg_none_of X G z_tuple
  have n_len := PySem.W.mg_none_of X G z_len
  have n_all := PySem.W.mg_none_of X G z_all
  have n_zip := PySem.W.mg_none_of X G z_zip
  have n_sorted := PySem.W.mg_none_of X G z_sorted
  have n_any := PySem.W.mg_none_of X G z_any
  have n_abs := PySem.W.mg_none_of X G z_abs
  have n_dict := PySem.W.mg_none_of X G z_dict
  have n_range := PySem.W.mg_none_of X G z_range
  have n_min := PySem.W.mg_none_of X G z_min
  have n_list := PySem.W.mg_none_of X G z_list
  have n_max := PySem.W.mg_none_of X G z_max
  have n_str := PySem.W.mg_none_of X G z_str
  have mN := PySem.W.mg_of X G gN
  have mP := PySem.W.mg_of X G gP
  have mE := PySem.W.mg_of X G gE
  have CE : Err K mg "NotEven" CN := ⟨PySem.W.mg_of X G eA, eQ, eK, eB, eT⟩
  refine ⟨PySem.W.fnOf "law" "law" (defArgs sLaw) (defBody sLaw) (defScope sLaw) .none kVLA dcLA pmLA anLA cdLA ctLA, fun s v => .of_eq rfl, fun base _ _ => ?_⟩
  have CII : Cal l.prog w K mg base CX0 1 "is_integer" ["value"] (spIsInt K) fII _ := ⟨ok_isint FII n_isinstance n_int n_bool, mII, kII, bII⟩
  have CFR : Cal l.prog w K mg base CX0 2 "is_from" ["value", "low", "high"] (spFrom K) fFR _ := ⟨ok_from FFR CII, mFR, kFR, bFR⟩
  have CNC : Cal l.prog w K mg base CX0 3 "need_count" ["value"] spCount fNC _ := ⟨ok_count FNC CFR ⟨_, mN⟩, mNC, kNC, bNC⟩
  have CPA : Cal l.prog w K mg base CX0 3 "is_pair" ["n", "value"] (spPair K) fPA _ := ⟨ok_pair FPA CII CFR n_isinstance n_tuple n_len n_all ⟨_, mE⟩, mPA, kPA, bPA⟩
  have CSO : Cal l.prog w K mg base CX0 4 "is_sum_of" ["n", "value"] (spIsSum K) fSO _ := ⟨ok_sumq FSO CPA n_isinstance n_tuple n_len n_all n_zip ⟨_, mP⟩, mSO, kSO, bSO⟩
  have CIS : Cal l.prog w K mg base CX0 5 "is_sum" ["n", "value"] (spIsSumT K) fIS _ := ⟨ok_issum FIS CNC CSO, mIS, kIS, bIS⟩
  have CNS : Cal l.prog w K mg base CX0 5 "need_sum" ["n", "value"] spNeedSum fNS _ := ⟨ok_need FNS CSO, mNS, kNS, bNS⟩
  have CNN : Cal l.prog w K mg base CX0 6 "need_sums" ["n", "one", "other"] spNeeds fNN _ := ⟨ok_needs FNN CNC CNS, mNN, kNN, bNN⟩
  have CSU : Cal l.prog w K mg base CX0 1 "sum_of" ["counts"] spSumOf fSU _ := ⟨ok_sumof FSU n_tuple n_sorted n_len n_any n_abs ⟨_, mP⟩ ⟨_, mE⟩, mSU, kSU, bSU⟩
  have CAD : Cal l.prog w K mg base CX0 2 "added" ["one", "other"] spAdded fAD _ := ⟨ok_added FAD CSU n_dict, mAD, kAD, bAD⟩
  have CPR : Cal l.prog w K mg base CX0 1 "product_of" ["one", "other"] (spProd K) fPR _ := ⟨ok_prod FPR n_tuple n_zip, mPR, kPR, bPR⟩
  have CMU : Cal l.prog w K mg base CX0 2 "multiplied" ["one", "other"] spMult fMU _ := ⟨ok_mult FMU CSU CPR, mMU, kMU, bMU⟩
  have CPL : Cal l.prog w K mg base CX0 7 "plus" ["n", "one", "other"] spPlus fPL _ := ⟨ok_plus FPL CNN CAD, mPL, kPL, bPL⟩
  have CTI : Cal l.prog w K mg base CX0 7 "times" ["n", "one", "other"] spTimes fTI _ := ⟨ok_times FTI CNN CMU, mTI, kTI, bTI⟩
  have CLO : Cal l.prog w K mg base CX0 1 "lowest" ["one"] spLow fLO _ := ⟨ok_low FLO n_tuple n_range n_len n_min, mLO, kLO, bLO⟩
  have CGR : Cal l.prog w K mg base CX0 1 "greatest" ["counts"] spHigh fGR _ := ⟨ok_high FGR n_list n_range n_len n_max, mGR, kGR, bGR⟩
  have CMO : Cal l.prog w K mg base CX0 2 "moved" ["one", "by"] (spMoved K) fMO _ := ⟨ok_moved FMO CPR, mMO, kMO, bMO⟩
  have CDI : Cal l.prog w K mg base (L2N.CX l.prog w) 3 "divided" ["one", "other"] (spDiv CN) fDI _ := ⟨ok_div FDI CLO CMO CPR CGR CSU CE n_tuple n_sorted n_dict n_zip n_max n_min n_any, mDI, kDI, bDI⟩
  have COV : Cal l.prog w K mg base (L2N.CX l.prog w) 7 "over" ["n", "one", "other"] (spOver CN) fOV _ := ⟨ok_over FOV CNN CDI, mOV, kOV, bOV⟩
  have CTA : Cal l.prog w K mg base CX0 1 "_law_taken" ["_law_row", "_law_many"] (spTaken K) fTA _ := ⟨ok_taken FTA n_int n_len, mTA, kTA, bTA⟩
  have CPI : Cal l.prog w K mg base CX0 2 "_law_pick" ["_law_row", "_law_things"] (spPick K) fPI _ := ⟨ok_pick FPI CTA n_len, mPI, kPI, bPI⟩
  have CAL : ∀ k, Cal l.prog w K mg base CX0 (k + 1) "_law_alike" ["_law_found", "_law_due"] (spAlike K k) fAL _ := fun k => ⟨ok_alike FAL mAL kAL bAL n_isinstance n_tuple n_list n_len n_range n_dict n_str n_int n_bool k, mAL, kAL, bAL⟩
  have CLS : Cal l.prog w K mg base CX0 3 "_law_sum" ["_law_row", "_law_n", "_law_most", "_law_low"] (spLSum K) fLS _ := ⟨ok_lsum FLS CTA CPI n_range n_tuple n_sorted, mLS, kLS, bLS⟩
  have CLP : Cal l.prog w K mg base CX0 1 "_law_plus_sums" ["_law_one", "_law_other"] spLPlus fLP _ := ⟨ok_lplus FLP n_dict n_tuple n_sorted, mLP, kLP, bLP⟩
  have CLT : Cal l.prog w K mg base CX0 2 "_law_times_sums" ["_law_one", "_law_other"] spLTimes fLT _ := ⟨ok_ltimes FLT CLP n_tuple n_zip, mLT, kLT, bLT⟩
  exact ok_law FLA CTA CPI CAL CLS CLP CLT CPL CTI COV CIS CE (exm_own eB eI eT eS) n_len n_list
end Dw
open PySem PySem.W PyProof.Rows
set_option maxHeartbeats 0 in
theorem PySem.Challenge.cw_dartwebs_k04_whole_sums_holds : PySem.Challenge.rw_dartwebs_k04_whole_sums.Holds := by
  w_on; o_law; k_head; (case hw => w_witness2)
  k_fill
  refine L2.walk_of (l := PySem.Challenge.rw_dartwebs_k04_whole_sums) (n := 63) (k := 8) (x := "_law_script") (CX := fun _ => L2.CX0) (sp := fun w => Dw.spLaw _) rfl (by decide) rfl ⟨rfl, by decide, by decide⟩ (fun w h Y => PySem.W.kIn_of Y) ?F (fun _ _ a ns hl _ hS => ⟨a, ns, rfl, hS, hl, fun _ => rfl⟩) (fun _ _ _ _ _ h => h)
  case F =>
    intro w mg fa h KX G hmg
    refine' Dw.all_mk KX G hmg ?aII ?lII ?cII ?kII ?aFR ?lFR ?cFR ?kFR ?aNC ?lNC ?cNC ?kNC ?aPA ?lPA ?cPA ?kPA ?aSO ?lSO ?cSO ?kSO ?aIS ?lIS ?cIS ?kIS ?aNS ?lNS ?cNS ?kNS ?aNN ?lNN ?cNN ?kNN ?aSU ?lSU ?cSU ?kSU ?aAD ?lAD ?cAD ?kAD ?aPR ?lPR ?cPR ?kPR ?aMU ?lMU ?cMU ?kMU ?aPL ?lPL ?cPL ?kPL ?aTI ?lTI ?cTI ?kTI ?aLO ?lLO ?cLO ?kLO ?aGR ?lGR ?cGR ?kGR ?aMO ?lMO ?cMO ?kMO ?aDI ?lDI ?cDI ?kDI ?aOV ?lOV ?cOV ?kOV ?aTA ?lTA ?cTA ?kTA ?aPI ?lPI ?cPI ?kPI ?aAL ?lAL ?cAL ?kAL ?aLS ?lLS ?cLS ?kLS ?aLP ?lLP ?cLP ?kLP ?aLT ?lLT ?cLT ?kLT ?aLA ?lLA ?cLA ?kLA ?z_isinstance ?z_int ?z_bool ?z_tuple ?z_len ?z_all ?z_zip ?z_sorted ?z_any ?z_abs ?z_dict ?z_range ?z_min ?z_list ?z_max ?z_str ?gN ?gP ?gE ?eA ?eQ ?eK ?eB ?eT ?eI ?eS
    (case aII => k_is)
    (case lII => k_is)
    (case cII => k_is)
    (case kII => k_is)
    (case aFR => k_is)
    (case lFR => k_is)
    (case cFR => k_is)
    (case kFR => k_is)
    (case aNC => k_is)
    (case lNC => k_is)
    (case cNC => k_is)
    (case kNC => k_is)
    (case aPA => k_is)
    (case lPA => k_is)
    (case cPA => k_is)
    (case kPA => k_is)
    (case aSO => k_is)
    (case lSO => k_is)
    (case cSO => k_is)
    (case kSO => k_is)
    (case aIS => k_is)
    (case lIS => k_is)
    (case cIS => k_is)
    (case kIS => k_is)
    (case aNS => k_is)
    (case lNS => k_is)
    (case cNS => k_is)
    (case kNS => k_is)
    (case aNN => k_is)
    (case lNN => k_is)
    (case cNN => k_is)
    (case kNN => k_is)
    (case aSU => k_is)
    (case lSU => k_is)
    (case cSU => k_is)
    (case kSU => k_is)
    (case aAD => k_is)
    (case lAD => k_is)
    (case cAD => k_is)
    (case kAD => k_is)
    (case aPR => k_is)
    (case lPR => k_is)
    (case cPR => k_is)
    (case kPR => k_is)
    (case aMU => k_is)
    (case lMU => k_is)
    (case cMU => k_is)
    (case kMU => k_is)
    (case aPL => k_is)
    (case lPL => k_is)
    (case cPL => k_is)
    (case kPL => k_is)
    (case aTI => k_is)
    (case lTI => k_is)
    (case cTI => k_is)
    (case kTI => k_is)
    (case aLO => k_is)
    (case lLO => k_is)
    (case cLO => k_is)
    (case kLO => k_is)
    (case aGR => k_is)
    (case lGR => k_is)
    (case cGR => k_is)
    (case kGR => k_is)
    (case aMO => k_is)
    (case lMO => k_is)
    (case cMO => k_is)
    (case kMO => k_is)
    (case aDI => k_is)
    (case lDI => k_is)
    (case cDI => k_is)
    (case kDI => k_is)
    (case aOV => k_is)
    (case lOV => k_is)
    (case cOV => k_is)
    (case kOV => k_is)
    (case aTA => k_is)
    (case lTA => k_is)
    (case cTA => k_is)
    (case kTA => k_is)
    (case aPI => k_is)
    (case lPI => k_is)
    (case cPI => k_is)
    (case kPI => k_is)
    (case aAL => k_is)
    (case lAL => k_is)
    (case cAL => k_is)
    (case kAL => k_is)
    (case aLS => k_is)
    (case lLS => k_is)
    (case cLS => k_is)
    (case kLS => k_is)
    (case aLP => k_is)
    (case lLP => k_is)
    (case cLP => k_is)
    (case kLP => k_is)
    (case aLT => k_is)
    (case lLT => k_is)
    (case cLT => k_is)
    (case kLT => k_is)
    (case aLA => k_is)
    (case lLA => k_is)
    (case cLA => k_is)
    (case kLA => k_is)
    (case z_isinstance => k_is)
    (case z_int => k_is)
    (case z_bool => k_is)
    (case z_tuple => k_is)
    (case z_len => k_is)
    (case z_all => k_is)
    (case z_zip => k_is)
    (case z_sorted => k_is)
    (case z_any => k_is)
    (case z_abs => k_is)
    (case z_dict => k_is)
    (case z_range => k_is)
    (case z_min => k_is)
    (case z_list => k_is)
    (case z_max => k_is)
    (case z_str => k_is)
    (case gN => k_is)
    (case gP => k_is)
    (case gE => k_is)
    (case eA => k_is)
    (case eQ => first | k_exc | k_is)
    (case eK => k_is)
    (case eB => k_is)
    (case eT => k_is)
    (case eI => k_is)
    (case eS => first | rfl | k_is)
